import PyProof.Rows.All
import Wide.All
import OpenK.AllK
import Wide.FinOn
import HandS.List
import HandS.ForMost
import HandS.ForExc
import HandS.GenList
import HandS.Lambda
import HandS.EndTab
import HandS.AnyAll
import HandS.TupAny
import HandS.TupMul
import HandS.Wide
import HandS.WideBits
import HandS.ExcOwn
import HandS.Zip
import HandS.CallSlots
import HandS.WordsExc
import HandS.EndOwn
import PySem.Challenge.RW_musicstack_k11_what_comes_again
set_option Elab.async false
set_option linter.all false
section
set_option maxRecDepth 100000
/-! A small core language over plain data, and what it computes. -/
namespace MZ
open PySem

inductive D where
  | non | bl (b : Bool) | int (i : Int) | str (z : Str) | tup (l : List D) | lst (l : List D) | dic (ks vs : List D) | obj (c : Nat) (fs : List D) | clo (k : Nat)
deriving Inhabited, Repr
/-- a slot: empty, a value that stays, an own object, an own object while it is walked, the caller's own object -/
inductive SV where
  | no | pu (d : D) | ow (d : D) | lk (d : D) | mp (d : D)
deriving Inhabited, Repr
abbrev Env := List SV
inductive Out (α : Type) where
  | ok (a : α) (ρ : Env) | exc (k : Nat) | bad
deriving Repr
def Out.bind {α β : Type} (o : Out α) (f : α → Env → Out β) : Out β := match o with
  | .ok a ρ => f a ρ
  | .exc k => .exc k
  | .bad => .bad
/-- what a def gives: its value, its changed argument's data behind it -/
inductive FO where
  | ok (d : D) (o : Option D) | exc (k : Nat) | bad
deriving Repr
abbrev FnI := Nat → List D → FO

inductive Prim where
  | add | sub | mul | fdiv | mod | pow | neg | lt | le | gt | ge | eq | ne | isN | notN | isIn | notIn | nt | ix | cut2 | cutLo | cutHi | len | abs | toInt | min2 | max2 | minL | maxL | tupOf | lstOf | sumL | anyL | allL | iadd
deriving Repr, DecidableEq
inductive ItK where
  | seq | range1 | range2 | enum | zip
deriving Repr, DecidableEq
inductive Cons where
  | tup | any | all | sum | max
deriving Repr, DecidableEq
mutual
inductive Pt where
  | nm (i : Nat) | tp (l : PtL)
inductive PtL where
  | nil | cons (p : Pt) (r : PtL)
end
mutual
inductive C where
  | cst (d : D) | var (i : Nat) | glob (d : D)
  | prim (p : Prim) (as : AL)
  | tup (as : AL) | lst (as : AL)
  | and (a b : C) | or (a b : C) | ite (c a b : C) | chn (p q : Prim) (a b c : C)
  | call (f : Nat) (as : AL)
  | comp (x : Bool) (p : Pt) (k : ItK) (as : AL) (c e : C) (own : List Nat)
  | gen (x : Cons) (p : Pt) (k : ItK) (as : AL) (c e : C) (own : List Nat)
  | lam (k : Nat) | told (a : C) (ks : List Nat) (ret : Str) | ck (c : C)
inductive AL where
  | nil | ex (c : C) (r : AL) | bo (i : Nat) (r : AL) | mu (i : Nat) (r : AL)
end
mutual
inductive S where
  | asg (p : Pt) (c : C) | own (i : Nat) (c : C) | par (oi oj : Bool) (i j : Nat) (a b : C)
  | aug (p : Prim) (i : Nat) (c : C) | expr (c : C) | app (i : Nat) (c : C) | setIx (i : Nat) (k v : C)
  | ife (c : C) (a b : SL) | fors (p : Pt) (k : ItK) (as : AL) (b : SL) | while (c : C) (b : SL) | ret (c : C) | retN | raise (k : Nat) | pass | brk | cont
inductive SL where
  | nil | cons (s : S) (r : SL)
end

/-! ### data -/
def b2i (b : Bool) : Int := if b then 1 else 0
mutual
/-- == -/
def eqD : D → D → Bool
  | .non, .non => true
  | .bl a, .bl b => a == b
  | .bl a, .int j => b2i a == j
  | .int i, .bl b => i == b2i b
  | .int i, .int j => i == j
  | .str x, .str y => x == y
  | .tup a, .tup b => eqL a b
  | .lst a, .lst b => eqL a b
  | _, _ => false
def eqL : List D → List D → Bool
  | [], [] => true
  | x :: xs, y :: ys => eqD x y && eqL xs ys
  | _, _ => false
end
mutual
/-- data that may be compared: of depth at most n -/
def okD : Nat → D → Bool
  | _, .non | _, .bl _ | _, .int _ => true
  | _, .str z => PySem.PyData.strOk z
  | n + 1, .tup l => okL n l
  | n + 1, .lst l => okL n l
  | _, _ => false
def okL : Nat → List D → Bool
  | _, [] => true
  | n, x :: r => okD n x && okL n r
end
def line : Nat := 16777216
def ixD (l : List D) (i : Int) : Option D := if 0 ≤ i then l[i.toNat]? else if 0 ≤ i + l.length then l[(i + l.length).toNat]? else none
/-- where a slice begins and ends -/
def cutAt (n : Nat) (i : Int) : Nat := if 0 ≤ i then min i.toNat n else (i + n).toNat
def cutD (l : List D) (a b : Nat) : List D := (l.drop a).take (b - a)
def intsOf : List D → Option (List Int)
  | [] => some []
  | .int i :: r => (intsOf r).map (i :: ·)
  | _ => none
/-- the order of ints and of tuples of such: none where it is not told -/
def ltD : D → D → Option Bool
  | .int i, .int j => some (decide (i < j))
  | .tup a, .tup b => (intsOf a).bind fun x => (intsOf b).map fun y => HT.lexLt x y
  | _, _ => none
def flatD : D → Bool
  | .non | .bl _ | .int _ | .str _ => true
  | _ => false
def truD : D → Option Bool
  | .bl b => some b
  | .non => some false
  | .int i => some (i != 0)
  | .lst l => some (!l.isEmpty)
  | .tup l => some (!l.isEmpty)
  | _ => none
def big (i : Int) : Bool := decide (i.natAbs < 2 ^ 64)
def mulOk (i j : Int) : Bool := decide (i.natAbs.log2 + j.natAbs.log2 < 100000000)
def divOk (j : Int) : Bool := decide (0 < j ∧ j.natAbs.log2 < 9000)
def addR : List D → Option D
  | [.int i, .int j] => some (.int (i + j))
  | [.str x, .str y] => if x.length + y.length ≤ line then some (.str (x ++ y)) else none
  | [.lst a, .lst b] => if a.length + b.length ≤ line then some (.lst (a ++ b)) else none
  | [.tup a, .tup b] => if a.length + b.length ≤ line then some (.tup (a ++ b)) else none
  | _ => none
def subR : List D → Option D
  | [.int i, .int j] => some (.int (i - j))
  | _ => none
def mulR : List D → Option D
  | [.int i, .int j] => if mulOk i j then some (.int (i * j)) else none
  | [.lst a, .int k] => if k ≤ line ∧ a.length * k.toNat ≤ line ∧ - line ≤ k then some (.lst (List.replicate k.toNat a).flatten) else none
  | [.tup a, .int k] => if 0 < a.length ∧ 2 ≤ k ∧ k ≤ 1000 ∧ a.length ≤ 1000 then some (.tup (List.replicate k.toNat a).flatten) else none
  | _ => none
def fdivR : List D → Option D
  | [.int i, .int j] => if divOk j then some (.int (i / j)) else none
  | _ => none
def modR : List D → Option D
  | [.int i, .int j] => if 0 < j then some (.int (i % j)) else none
  | _ => none
def powR : List D → Option D
  | [.int i, .int j] => if 0 ≤ j ∧ j ≤ 1000 ∧ big i then some (.int (i ^ j.toNat)) else none
  | _ => none
def negR : List D → Option D
  | [.int i] => some (.int (-i))
  | _ => none
def ltR : List D → Option D
  | [x, y] => (ltD x y).map .bl
  | _ => none
def gtR : List D → Option D
  | [.int i, .int j] => some (.bl (decide (j < i)))
  | _ => none
def leR : List D → Option D
  | [.int i, .int j] => some (.bl (decide (i ≤ j)))
  | _ => none
def geR : List D → Option D
  | [.int i, .int j] => some (.bl (decide (j ≤ i)))
  | _ => none
def eqR : List D → Option D
  | [x, y] => if okD 60 x && okD 60 y then some (.bl (eqD x y)) else none
  | _ => none
def neR : List D → Option D
  | [x, y] => if okD 60 x && okD 60 y then some (.bl (!eqD x y)) else none
  | _ => none
def isNR : List D → Option D
  | [.non] => some (.bl true)
  | [_] => some (.bl false)
  | _ => none
def notNR : List D → Option D
  | [.non] => some (.bl false)
  | [_] => some (.bl true)
  | _ => none
def isInR : List D → Option D
  | [x, .lst l] | [x, .tup l] => if flatD x && l.all flatD then some (.bl (l.any fun y => eqD y x)) else none
  | _ => none
def notInR : List D → Option D
  | [x, .lst l] | [x, .tup l] => if flatD x && l.all flatD then some (.bl (!l.any fun y => eqD y x)) else none
  | _ => none
def ntR : List D → Option D
  | [.bl b] => some (.bl (!b))
  | _ => none
def ixR : List D → Option D
  | [.lst l, .int i] | [.tup l, .int i] => ixD l i
  | [.str z, .int i] => if 0 ≤ i ∧ i < z.length ∧ z.length ≤ line then (z.cps.toList[i.toNat]?).map fun c => .str ⟨#[c]⟩ else none
  | _ => none
def cut2R : List D → Option D
  | [.lst l, .int i, .int j] => some (.lst (cutD l (cutAt l.length i) (cutAt l.length j)))
  | [.tup l, .int i, .int j] => some (.tup (cutD l (cutAt l.length i) (cutAt l.length j)))
  | _ => none
def cutLoR : List D → Option D
  | [.lst l, .int i] => some (.lst (l.drop (cutAt l.length i)))
  | [.tup l, .int i] => some (.tup (l.drop (cutAt l.length i)))
  | _ => none
def cutHiR : List D → Option D
  | [.lst l, .int j] => some (.lst (l.take (cutAt l.length j)))
  | [.tup l, .int j] => some (.tup (l.take (cutAt l.length j)))
  | _ => none
def lenR : List D → Option D
  | [.lst l] | [.tup l] => some (.int l.length)
  | [.str z] => if z.length ≤ line then some (.int z.length) else none
  | _ => none
def absR : List D → Option D
  | [.int i] => some (.int (if i < 0 then -i else i))
  | _ => none
def toIntR : List D → Option D
  | [.int i] => some (.int i)
  | [.bl b] => some (.int (b2i b))
  | _ => none
def min2R : List D → Option D
  | [.int m, .int n] => some (.int (if n < m then n else m))
  | _ => none
def max2R : List D → Option D
  | [.int m, .int n] => some (.int (if n > m then n else m))
  | _ => none
def minLR : List D → Option D
  | [.lst l] => (intsOf l).bind fun ns => ns.min?.map .int
  | _ => none
def maxLR : List D → Option D
  | [.lst l] => (intsOf l).bind fun ns => ns.max?.map .int
  | _ => none
def tupOfR : List D → Option D
  | [.lst l] | [.tup l] => some (.tup l)
  | _ => none
def lstOfR : List D → Option D
  | [.lst l] | [.tup l] => some (.lst l)
  | _ => none
def sumLR : List D → Option D
  | [.lst l] => (intsOf l).map fun ns => .int ns.sum
  | _ => none
def iaddR : List D → Option D
  | [.int i, .int j] => some (.int (i + j))
  | [.str x, .str y] => if x.length + y.length ≤ line then some (.str (x ++ y)) else none
  | _ => none
def primR (p : Prim) (ds : List D) : Option D := match p with
  | .add => addR ds
  | .sub => subR ds
  | .mul => mulR ds
  | .fdiv => fdivR ds
  | .mod => modR ds
  | .pow => powR ds
  | .neg => negR ds
  | .lt => ltR ds
  | .le => leR ds
  | .gt => gtR ds
  | .ge => geR ds
  | .eq => eqR ds
  | .ne => neR ds
  | .isN => isNR ds
  | .notN => notNR ds
  | .isIn => isInR ds
  | .notIn => notInR ds
  | .nt => ntR ds
  | .ix => ixR ds
  | .cut2 => cut2R ds
  | .cutLo => cutLoR ds
  | .cutHi => cutHiR ds
  | .len => lenR ds
  | .abs => absR ds
  | .toInt => toIntR ds
  | .min2 => min2R ds
  | .max2 => max2R ds
  | .minL => minLR ds
  | .maxL => maxLR ds
  | .tupOf => tupOfR ds
  | .lstOf => lstOfR ds
  | .sumL => sumLR ds
  | .iadd => iaddR ds
  | .anyL => none
  | .allL => none
def rng (a : Int) (n : Nat) : List D := (List.range n).map fun (k : Nat) => D.int (a + k)
def seqR : List D → Option (List D)
  | [.lst l] | [.tup l] => some l
  | _ => none
def rng1R : List D → Option (List D)
  | [.int n] => if n ≤ line ∧ - line ≤ n then some (rng 0 n.toNat) else none
  | _ => none
def rng2R : List D → Option (List D)
  | [.int a, .int b] => if - line ≤ a ∧ a ≤ line ∧ - line ≤ b ∧ b ≤ line then some (rng a (b - a).toNat) else none
  | _ => none
def enumR : List D → Option (List D)
  | [.lst l] => some (((List.range l.length).zip l).map fun (p : Nat × D) => .tup [.int p.1, p.2])
  | _ => none
def zipR : List D → Option (List D)
  | [.lst a, .lst b] | [.tup a, .tup b] => some ((a.zip b).map fun p => .tup [p.1, p.2])
  | _ => none
def itR (k : ItK) (ds : List D) : Option (List D) := match k with
  | .seq => seqR ds
  | .range1 => rng1R ds
  | .range2 => rng2R ds
  | .enum => enumR ds
  | .zip => zipR ds

/-! ### slots -/
def setS (ρ : Env) (i : Nat) (v : SV) : Option Env := match ρ[i]? with
  | some .no | some (.pu _) | some (.ow _) => some (ρ.set i v)
  | _ => none
def cont (ρ : Env) (i : Nat) : Option D := match ρ[i]? with
  | some (.pu d) | some (.ow d) | some (.lk d) | some (.mp d) => some d
  | _ => none
def isOwn : SV → Bool
  | .ow _ | .lk _ | .mp _ => true
  | _ => false
def lock1 : SV → SV
  | .ow d => .lk d
  | v => v
def unlock1 (o v : SV) : SV := match o, v with
  | .ow _, .lk d => .ow d
  | _, v => v
/-- all own objects, while a lambda or a generator expression runs -/
def lockA (ρ : Env) : Env := ρ.map fun v => match v with
  | .ow d => .lk d
  | .mp d => .lk d
  | v => v
/-- what is left of a run that changed nothing -/
def Out.stay {α : Type} (ρ : Env) : Out α → Out α
  | .ok a _ => .ok a ρ
  | .exc k => .exc k
  | .bad => .bad
def lockL : List Nat → Env → Env
  | [], ρ => ρ
  | i :: r, ρ => lockL r (match ρ[i]? with | some v => ρ.set i (lock1 v) | none => ρ)
def unlockL (ρ0 : Env) : List Nat → Env → Env
  | [], ρ => ρ
  | i :: r, ρ => unlockL ρ0 r (match ρ0[i]?, ρ[i]? with | some o, some v => ρ.set i (unlock1 o v) | _, _ => ρ)
def wipeE : List Nat → Env → Env
  | [], ρ => ρ
  | i :: r, ρ => wipeE r (ρ.set i .no)
def backE (ρ0 : Env) : List Nat → Env → Env
  | [], ρ => ρ
  | i :: r, ρ => backE ρ0 r (ρ.set i (ρ0[i]?.getD .no))
mutual
def bindP : Pt → D → Env → Option Env
  | .nm i, d, ρ => setS ρ i (.pu d)
  | .tp l, .tup ds, ρ => bindPL l ds ρ
  | _, _, _ => none
def bindPL : PtL → List D → Env → Option Env
  | .nil, [], ρ => some ρ
  | .cons p r, d :: ds, ρ => (bindP p d ρ).bind (bindPL r ds)
  | _, _, _ => none
end
def bors : AL → List Nat
  | .nil => []
  | .ex _ r => bors r
  | .bo i r => i :: bors r
  | .mu _ r => bors r
/-- the borrowed operands are read when all others stand -/
def fill : AL → List D → Env → Option (List D)
  | .nil, [], _ => some []
  | .ex _ r, d :: ds, ρ => (fill r ds ρ).map (d :: ·)
  | .bo i r, ds, ρ => (cont ρ i).bind fun d => (fill r ds ρ).map (d :: ·)
  | .mu i r, ds, ρ => (match ρ[i]? with | some (.ow d) | some (.mp d) => some d | _ => none).bind fun d => (fill r ds ρ).map (d :: ·)
  | _, _, _ => none
/-- the slot of the changed argument -/
def muAt : AL → Option Nat
  | .nil => none
  | .ex _ r => muAt r
  | .bo _ r => muAt r
  | .mu i _ => some i
/-- the changed argument comes back -/
def putOut : Option Nat → Option D → Env → Option Env
  | none, none, ρ => some ρ
  | some i, some o, ρ => match ρ[i]? with
    | some (.ow _) => some (ρ.set i (.ow o))
    | some (.mp _) => some (ρ.set i (.mp o))
    | _ => none
  | _, _, _ => none
def lift {α : Type} (o : Option α) (ρ : Env) : Out α := match o with
  | some a => .ok a ρ
  | none => .bad
def liftE (o : Option Env) : Out Unit := match o with
  | some ρ => .ok () ρ
  | none => .bad
/-- a list comprehension's turns -/
def compF (p : Pt) (own : List Nat) (c e : Env → Out D) : List D → List D → Env → Out (List D)
  | [], acc, ρ => .ok acc ρ
  | d :: ds, acc, ρ => (liftE (bindP p d (wipeE own ρ))).bind fun _ ρ1 => (c ρ1).bind fun b ρ2 => match truD b with
    | some true => (e ρ2).bind fun y ρ3 => if acc.length < line then compF p own c e ds (acc ++ [y]) ρ3 else .bad
    | some false => compF p own c e ds acc ρ2
    | none => .bad
/-- what is borrowed for a walk is no caller's own -/
def okBo : List Nat → Env → Bool
  | [], _ => true
  | i :: r, ρ => (match ρ[i]? with | some (.mp _) => false | _ => true) && okBo r ρ
/-- a generator expression that is asked: what is made of an item (none: go on; some: the answer), what at the end -/
def genF {σ : Type} (p : Pt) (own : List Nat) (c e : Env → Out D) (step : σ → D → Option (σ ⊕ D)) : List D → σ → Env → Out (σ ⊕ D)
  | [], st, ρ => .ok (.inl st) ρ
  | d :: ds, st, ρ => (liftE (bindP p d (wipeE own ρ))).bind fun _ ρ1 => (c ρ1).bind fun b ρ2 => match truD b with
    | some true => (e ρ2).bind fun y ρ3 => match step st y with
      | some (.inl st') => genF p own c e step ds st' ρ3
      | some (.inr r) => .ok (.inr r) ρ3
      | none => .bad
    | some false => genF p own c e step ds st ρ2
    | none => .bad
def stepG : Cons → List D → D → Option (List D ⊕ D)
  | .tup, acc, y => if acc.length < line then some (.inl (acc ++ [y])) else none
  | .any, acc, .bl b => if acc.length < line then some (if b then .inr (.bl true) else .inl (acc ++ [.bl b])) else none
  | .all, acc, .bl b => if acc.length < line then some (if b then .inl (acc ++ [.bl b]) else .inr (.bl false)) else none
  | _, _, _ => none
def endG : Cons → List D → Option D
  | .tup, acc => some (.tup acc)
  | .any, _ => some (.bl false)
  | .all, _ => some (.bl true)
  | _, _ => none
def noOwn (own : List Nat) (ρ : Env) : Bool := own.all fun i => !(isOwn (ρ[i]?.getD .no))
def untold {α : Type} : Out α → Out α
  | .exc _ => .bad
  | o => o
/-- .. with the slots of a block put back -/
def Out.back {α : Type} (f : Env → Env) : Out α → Out α
  | .ok a ρ => .ok a (f ρ)
  | .exc k => .exc k
  | .bad => .bad
/-- a call of a def -/
def callO (r : FO) (as : AL) (ρ : Env) : Out D := match r with
  | .ok d o => (liftE (putOut (muAt as) o ρ)).bind fun _ ρ' => .ok d ρ'
  | .exc k => .exc k
  | .bad => .bad
section
variable (cf : FnI) (lf : Nat → Env → Out D)
mutual
def evalE : C → Env → Out D
  | .cst d, ρ => .ok d ρ
  | .glob d, ρ => .ok d ρ
  | .var i, ρ => match ρ[i]? with
    | some (.pu d) => .ok d ρ
    | some (.ow d) => .ok d (ρ.set i (.pu d))
    | _ => .bad
  | .prim p as, ρ => (evalX as ρ).bind fun ds ρ1 => lift ((fill as ds ρ1).bind (primR p)) ρ1
  | .tup as, ρ => (evalX as ρ).bind fun ds ρ1 => if ds.length ≤ line then .ok (.tup ds) ρ1 else .bad
  | .lst as, ρ => (evalX as ρ).bind fun ds ρ1 => if ds.length ≤ line then .ok (.lst ds) ρ1 else .bad
  | .and a b, ρ => (evalE a ρ).bind fun x ρ1 => match x with
    | .bl true => evalE b ρ1
    | .bl false => .ok (.bl false) ρ1
    | _ => .bad
  | .or a b, ρ => (evalE a ρ).bind fun x ρ1 => match x with
    | .bl true => .ok (.bl true) ρ1
    | .bl false => evalE b ρ1
    | _ => .bad
  | .ite c a b, ρ => (evalE c ρ).bind fun x ρ1 => match truD x with
    | some true => evalE a ρ1
    | some false => evalE b ρ1
    | none => .bad
  | .chn p q a b c, ρ => (evalE a ρ).bind fun x ρ1 => (evalE b ρ1).bind fun y ρ2 => match primR p [x, y] with
    | some (.bl true) => (evalE c ρ2).bind fun z ρ3 => lift (primR q [y, z]) ρ3
    | some (.bl false) => .ok (.bl false) ρ2
    | _ => .bad
  | .call f as, ρ => (evalX as ρ).bind fun ds ρ1 => (lift (fill as ds ρ1) ρ1).bind fun ds ρ1 => callO (cf f ds) as ρ1
  | .comp x p k as c e own, ρ => (evalX as ρ).bind fun ds ρ1 => (lift ((fill as ds ρ1).bind (itR k)) ρ1).bind fun items ρ1 =>
      if noOwn own ρ1 && okBo (bors as) ρ1 then
        let o := ((compF p own (evalE c) (evalE e) items [] (lockL (bors as) ρ1)).back fun ρ2 => unlockL ρ1 (bors as) (backE ρ1 own ρ2)).bind fun l ρ3 => .ok (.lst l) ρ3
        if x then o else untold o
      else .bad
  | .gen x p k as c e own, ρ => (evalX as ρ).bind fun ds ρ1 => (lift ((fill as ds ρ1).bind (itR k)) ρ1).bind fun items ρ1 =>
      if noOwn own ρ1 && okBo (bors as) ρ1 then
        ((genF p own (evalE c) (evalE e) (stepG x) items [] (lockA ρ1)).stay ρ1).bind fun r ρ3 => match r with
          | .inr d => .ok d ρ3
          | .inl st => lift (endG x st) ρ3
      else .bad
  | .ck c, ρ => (evalE c ρ).bind fun x ρ1 => match x with
    | .int i => .ok (.int i) ρ1
    | _ => .bad
  | .lam k, ρ => .ok (.clo k) ρ
  | .told a ks ret, ρ => (evalE a ρ).bind fun x ρ1 => match x with
    | .clo j => match lf j (lockA ρ1) with
      | .exc i => if ks.contains i then .ok (.str ret) ρ1 else .bad
      | .ok d _ => .ok d ρ1
      | .bad => .bad
    | _ => .bad
/-- the operands that are no borrowed ones, from the left -/
def evalX : AL → Env → Out (List D)
  | .nil, ρ => .ok [] ρ
  | .ex c r, ρ => (evalE c ρ).bind fun d ρ1 => (evalX r ρ1).bind fun ds ρ2 => .ok (d :: ds) ρ2
  | .bo i r, ρ => match cont ρ i with
    | some _ => evalX r ρ
    | none => .bad
  | .mu i r, ρ => match cont ρ i with
    | some _ => evalX r ρ
    | none => .bad
end

/-! ### statements -/
end
inductive Rs where
  | next (ρ : Env) | ret (d : D) (ρ : Env) | brk (ρ : Env) | cont (ρ : Env) | exc (k : Nat) | bad
def Out.rs {α : Type} (o : Out α) (f : α → Env → Rs) : Rs := match o with
  | .ok a ρ => f a ρ
  | .exc k => .exc k
  | .bad => .bad
def ofE (o : Option Env) : Rs := match o with
  | some ρ => .next ρ
  | none => .bad
/-- what follows a statement that ends -/
def Rs.seq (r : Rs) (f : Env → Rs) : Rs := match r with
  | .next ρ => f ρ
  | r => r
def forF (p : Pt) (body : Env → Rs) : List D → Env → Rs
  | [], ρ => .next ρ
  | d :: ds, ρ => (ofE (bindP p d ρ)).seq fun ρ1 => match body ρ1 with
    | .next ρ2 => forF p body ds ρ2
    | .cont ρ2 => forF p body ds ρ2
    | .brk ρ2 => .next ρ2
    | r => r
def whileF (c : Env → Out D) (body : Env → Rs) : Nat → Env → Rs
  | 0, _ => .bad
  | n + 1, ρ => (c ρ).rs fun b ρ1 => match truD b with
    | some true => match body ρ1 with
      | .next ρ2 => whileF c body n ρ2
      | .cont ρ2 => whileF c body n ρ2
      | .brk ρ2 => .next ρ2
      | r => r
    | some false => .next ρ1
    | none => .bad
/-- the most turns of a while that are followed -/
def mostW : Nat := 1000000
def ownV (b : Bool) (d : D) : SV := if b then .ow d else .pu d
def fresh (b : Bool) (d : D) : Bool := !b || (match d with | .lst _ => true | _ => false)
section
variable (cf : FnI) (lf : Nat → Env → Out D)
mutual
def evalS : S → Env → Rs
  | .asg p c, ρ => (evalE cf lf c ρ).rs fun d ρ1 => ofE (bindP p d ρ1)
  | .own i c, ρ => (evalE cf lf c ρ).rs fun d ρ1 => if fresh true d then ofE (setS ρ1 i (.ow d)) else .bad
  | .par oi oj i j a b, ρ => (evalE cf lf a ρ).rs fun x ρ1 => (evalE cf lf b ρ1).rs fun y ρ2 => if fresh oi x && fresh oj y && i != j then ofE ((setS ρ2 i (ownV oi x)).bind fun ρ3 => setS ρ3 j (ownV oj y)) else .bad
  | .aug p i c, ρ => match cont ρ i with
    | none => .bad
    | some _ => (evalE cf lf c ρ).rs fun d ρ1 => match ρ1[i]? with
      | some (.pu x) => ofE ((primR p [x, d]).bind fun y => setS ρ1 i (.pu y))
      | _ => .bad
  | .expr c, ρ => (evalE cf lf c ρ).rs fun _ ρ1 => .next ρ1
  | .app i c, ρ => match cont ρ i with
   | some (.lst _) => (evalE cf lf c ρ).rs fun d ρ1 => match ρ1[i]? with
    | some (.ow (.lst l)) => if l.length < line then .next (ρ1.set i (.ow (.lst (l ++ [d])))) else .bad
    | some (.mp (.lst l)) => if l.length < line then .next (ρ1.set i (.mp (.lst (l ++ [d])))) else .bad
    | _ => .bad
   | _ => .bad
  | .setIx i k v, ρ => (evalE cf lf v ρ).rs fun d ρ1 => match cont ρ1 i with
   | none => .bad
   | some _ => (evalE cf lf k ρ1).rs fun x ρ2 => match ρ2[i]?, x with
    | some (.ow (.lst l)), .int j => if 0 ≤ j ∧ j < l.length then .next (ρ2.set i (.ow (.lst (l.set j.toNat d)))) else .bad
    | some (.mp (.lst l)), .int j => if 0 ≤ j ∧ j < l.length then .next (ρ2.set i (.mp (.lst (l.set j.toNat d)))) else .bad
    | _, _ => .bad
  | .ife c a b, ρ => (evalE cf lf c ρ).rs fun x ρ1 => match truD x with
    | some true => evalSL a ρ1
    | some false => evalSL b ρ1
    | none => .bad
  | .fors p k as b, ρ => (evalX cf lf as ρ).rs fun ds ρ1 => match (fill as ds ρ1).bind (itR k) with
    | some items => if !okBo (bors as) ρ1 then .bad else (forF p (evalSL b) items (lockL (bors as) ρ1)).seq fun ρ2 => .next (unlockL ρ1 (bors as) ρ2)
    | none => .bad
  | .while c b, ρ => whileF (evalE cf lf c) (evalSL b) mostW ρ
  | .ret c, ρ => (evalE cf lf c ρ).rs fun d ρ1 => .ret d ρ1
  | .retN, ρ => .ret .non ρ
  | .raise k, _ => .exc k
  | .pass, ρ => .next ρ
  | .brk, ρ => .brk ρ
  | .cont, ρ => .cont ρ
def evalSL : SL → Env → Rs
  | .nil, ρ => .next ρ
  | .cons s r, ρ => (evalS s ρ).seq (evalSL r)
end
end
/-- a def: how many parameters, which is changed, how many slots, its body, its lambdas -/
structure Fd where
  np : Nat
  mu : Option Nat
  n : Nat
  body : SL
  lams : List C
def entry (fd : Fd) (ds : List D) : Env := (ds.zipIdx.map fun p => if fd.mu = some p.2 then SV.mp p.1 else .pu p.1) ++ List.replicate (fd.n - fd.np) .no
def lamsF (cf : FnI) (fd : Fd) : Nat → Env → Out D := fun k ρ => match fd.lams[k]? with
  | some c => evalE cf (fun _ _ => .bad) c ρ
  | none => .bad
/-- the changed argument's data at the end -/
def outD (m : Option Nat) (ρ : Env) : Option (Option D) := match m with
  | none => some none
  | some i => match ρ[i]? with
    | some (.mp d) => some (some d)
    | _ => none
def endO (m : Option Nat) (d : D) (ρ : Env) : FO := match outD m ρ with
  | some o => .ok d o
  | none => .bad
def endF (m : Option Nat) (r : Rs) : FO := match r with
  | .ret d ρ => endO m d ρ
  | .next ρ => endO m .non ρ
  | .exc k => .exc k
  | _ => .bad
def runF (cf : FnI) (fd : Fd) (ds : List D) : FO := if ds.length = fd.np then endF fd.mu (evalSL cf (lamsF cf fd) fd.body (entry fd ds)) else .bad
def callF (fds : List Fd) : Nat → FnI
  | 0 => fun _ _ => .bad
  | n + 1 => fun i ds => match fds[i]? with
    | some fd => runF (callF fds n) fd ds
    | none => .bad
end MZ
namespace MZ
/-- a law's run from its dice on: the loop's body once, then the rest -/
def lawR (cf : FnI) (lf : Nat → Env → Out D) (i n : Nat) (b rest : SL) (d : D) : Rs := (match evalSL cf lf b ((List.replicate n SV.no).set i (.ow d)) with
  | .cont ρ => Rs.next ρ
  | .brk ρ => Rs.next ρ
  | r => r).seq (evalSL cf lf rest)
/-- `_law_dice` -/
def diceD (cell : Int) : D := if -10 < cell ∧ cell < 10 then .lst [.int (if cell < 0 then -cell else cell), .int 0, .int 2] else .lst [.int cell, .int (1 + cell % 1009), .int (b2i (decide (10 ^ 18 ≤ cell)))]
def headD (script : List Int) : D := diceD (match script with | [] => 0 | c :: _ => c)
end MZ
namespace MZ
/-- the three ints of a dice -/
def diceL (cell : Int) : List D := if -10 < cell ∧ cell < 10 then [.int (if cell < 0 then -cell else cell), .int 0, .int 2] else [.int cell, .int (1 + cell % 1009), .int (b2i (decide (10 ^ 18 ≤ cell)))]
end MZ
end
section
set_option maxRecDepth 100000
open PySem
namespace K11
open MZ
def c_MOST_TONES : D := (.int 200)
def c_STEPS : D := (.tup [(.int 0), (.int 2), (.int 4), (.int 5), (.int 7), (.int 9), (.int 11)])
def told_ks : List Nat := [0, 1, 2]
def told_ret : Str := "MusicError"
def b_pitch : SL := (.cons (.ife (.or (.prim .nt (.ex (.chn .le .lt (.cst (.int 0)) (.var 0) (.cst (.int 7))) .nil)) (.or (.prim .nt (.ex (.chn .le .le (.prim .sub (.ex (.cst (.int 0)) (.ex (.cst (.int 2)) .nil))) (.var 1) (.cst (.int 2))) .nil)) (.prim .nt (.ex (.chn .le .le (.cst (.int 0)) (.var 2) (.cst (.int 9))) .nil)))) (.cons (.raise 1)
  .nil) .nil)
  (.cons (.ret (.tup (.ex (.var 0) (.ex (.var 1) (.ex (.var 2) .nil)))))
  .nil))
def fd_pitch : Fd := { np := 3, mu := none, n := 3, body := b_pitch, lams := [] }
def b_half_steps : SL := (.cons (.ret (.prim .add (.ex (.prim .add (.ex (.prim .mul (.ex (.cst (.int 12)) (.ex (.prim .add (.ex (.prim .ix (.ex (.var 0) (.ex (.cst (.int 2)) .nil))) (.ex (.cst (.int 1)) .nil))) .nil))) (.ex (.prim .ix (.ex (.glob c_STEPS) (.ex (.prim .ix (.ex (.var 0) (.ex (.cst (.int 0)) .nil))) .nil))) .nil))) (.ex (.prim .ix (.ex (.var 0) (.ex (.cst (.int 1)) .nil))) .nil))))
  .nil)
def fd_half_steps : Fd := { np := 1, mu := none, n := 1, body := b_half_steps, lams := [] }
def b_place_in : SL := (.cons (.ret (.prim .add (.ex (.prim .mul (.ex (.cst (.int 7)) (.ex (.prim .ix (.ex (.var 0) (.ex (.cst (.int 2)) .nil))) .nil))) (.ex (.prim .ix (.ex (.var 0) (.ex (.cst (.int 0)) .nil))) .nil))))
  .nil)
def fd_place_in : Fd := { np := 1, mu := none, n := 1, body := b_place_in, lams := [] }
def b_moved_by : SL := (.cons (.asg (.nm 2) (.prim .add (.ex (.call 2 (.ex (.var 0) .nil)) (.ex (.prim .ix (.ex (.var 1) (.ex (.cst (.int 0)) .nil))) .nil))))
  (.cons (.asg (.nm 3) (.prim .fdiv (.ex (.var 2) (.ex (.cst (.int 7)) .nil))))
  (.cons (.asg (.nm 4) (.prim .sub (.ex (.var 2) (.ex (.prim .mul (.ex (.cst (.int 7)) (.ex (.var 3) .nil))) .nil))))
  (.cons (.ret (.call 0 (.ex (.var 4) (.ex (.prim .sub (.ex (.prim .sub (.ex (.prim .add (.ex (.call 1 (.ex (.var 0) .nil)) (.ex (.prim .ix (.ex (.var 1) (.ex (.cst (.int 1)) .nil))) .nil))) (.ex (.prim .mul (.ex (.cst (.int 12)) (.ex (.prim .add (.ex (.var 3) (.ex (.cst (.int 1)) .nil))) .nil))) .nil))) (.ex (.prim .ix (.ex (.glob c_STEPS) (.ex (.var 4) .nil))) .nil))) (.ex (.var 3) .nil)))))
  .nil))))
def fd_moved_by : Fd := { np := 2, mu := none, n := 5, body := b_moved_by, lams := [] }
def b_shape_of : SL := (.cons (.own 1 (.lst .nil))
  (.cons (.fors (.tp (.cons (.nm 2) (.cons (.tp (.cons (.nm 3) (.cons (.nm 4) .nil))) .nil))) .enum (.ex (.var 0) .nil) (.cons (.asg (.nm 5) (.ite (.prim .lt (.ex (.prim .add (.ex (.var 2) (.ex (.cst (.int 1)) .nil))) (.ex (.prim .len (.ex (.var 0) .nil)) .nil))) (.prim .ix (.ex (.prim .ix (.ex (.var 0) (.ex (.prim .add (.ex (.var 2) (.ex (.cst (.int 1)) .nil))) .nil))) (.ex (.cst (.int 0)) .nil))) (.cst .non)))
  (.cons (.app 1 (.tup (.ex (.ite (.or (.prim .isN (.ex (.var 3) .nil)) (.prim .isN (.ex (.var 5) .nil))) (.cst .non) (.prim .sub (.ex (.call 1 (.ex (.var 5) .nil)) (.ex (.call 1 (.ex (.var 3) .nil)) .nil)))) (.ex (.var 4) .nil))))
  .nil)))
  (.cons (.ret (.prim .tupOf (.bo 1 .nil)))
  .nil)))
def fd_shape_of : Fd := { np := 1, mu := none, n := 6, body := b_shape_of, lams := [] }
def b_longest_again : SL := (.cons (.ife (.prim .gt (.ex (.prim .len (.ex (.var 0) .nil)) (.ex (.glob c_MOST_TONES) .nil))) (.cons (.raise 2)
  .nil) .nil)
  (.cons (.asg (.nm 1) (.cst .non))
  (.cons (.fors (.nm 2) .range1 (.ex (.prim .len (.ex (.var 0) .nil)) .nil) (.cons (.fors (.nm 3) .range2 (.ex (.prim .add (.ex (.var 2) (.ex (.cst (.int 1)) .nil))) (.ex (.prim .len (.ex (.var 0) .nil)) .nil)) (.cons (.asg (.nm 4) (.cst (.int 0)))
  (.cons (.while (.and (.prim .lt (.ex (.prim .add (.ex (.var 2) (.ex (.var 4) .nil))) (.ex (.var 3) .nil))) (.and (.prim .lt (.ex (.prim .add (.ex (.var 3) (.ex (.var 4) .nil))) (.ex (.prim .len (.ex (.var 0) .nil)) .nil))) (.prim .eq (.ex (.prim .ix (.ex (.var 0) (.ex (.prim .add (.ex (.var 2) (.ex (.var 4) .nil))) .nil))) (.ex (.prim .ix (.ex (.var 0) (.ex (.prim .add (.ex (.var 3) (.ex (.var 4) .nil))) .nil))) .nil))))) (.cons (.aug .iadd 4 (.cst (.int 1)))
  .nil))
  (.cons (.ife (.and (.prim .gt (.ex (.var 4) (.ex (.cst (.int 0)) .nil))) (.or (.prim .isN (.ex (.var 1) .nil)) (.prim .gt (.ex (.var 4) (.ex (.prim .ix (.ex (.var 1) (.ex (.cst (.int 0)) .nil))) .nil))))) (.cons (.asg (.nm 1) (.tup (.ex (.var 4) (.ex (.var 2) (.ex (.var 3) .nil)))))
  .nil) .nil)
  .nil))))
  .nil))
  (.cons (.ret (.var 1))
  .nil))))
def fd_longest_again : Fd := { np := 1, mu := none, n := 5, body := b_longest_again, lams := [] }
def b_places_of : SL := (.cons (.asg (.nm 2) (.prim .len (.ex (.var 1) .nil)))
  (.cons (.ret (.gen .tup (.nm 3) .range1 (.ex (.prim .add (.ex (.prim .sub (.ex (.prim .len (.ex (.var 0) .nil)) (.ex (.var 2) .nil))) (.ex (.cst (.int 1)) .nil))) .nil) (.prim .eq (.ex (.prim .tupOf (.ex (.prim .cut2 (.ex (.var 0) (.ex (.ck (.var 3)) (.ex (.ck (.prim .add (.ex (.var 3) (.ex (.var 2) .nil)))) .nil)))) .nil)) (.ex (.prim .tupOf (.ex (.var 1) .nil)) .nil))) (.var 3) [3]))
  .nil))
def fd_places_of : Fd := { np := 2, mu := none, n := 4, body := b_places_of, lams := [] }
def b_form_letters : SL := (.cons (.par true true 1 2 (.lst .nil) (.lst .nil))
  (.cons (.fors (.nm 3) .seq (.ex (.var 0) .nil) (.cons (.asg (.nm 4) (.cst .non))
  (.cons (.fors (.tp (.cons (.nm 5) (.cons (.nm 6) .nil))) .enum (.bo 1 .nil) (.cons (.ife (.and (.prim .isN (.ex (.var 4) .nil)) (.prim .eq (.ex (.prim .tupOf (.ex (.var 3) .nil)) (.ex (.var 6) .nil)))) (.cons (.asg (.nm 4) (.prim .ix (.ex (.cst (.str "ABCDEFGHIJKLMNOPQRSTUVWXYZ")) (.ex (.var 5) .nil))))
  .nil) (.cons (.ife (.and (.prim .isN (.ex (.var 4) .nil)) (.and (.prim .gt (.ex (.prim .len (.ex (.var 3) .nil)) (.ex (.cst (.int 0)) .nil))) (.prim .eq (.ex (.call 8 (.ex (.var 3) .nil)) (.ex (.call 8 (.ex (.var 6) .nil)) .nil))))) (.cons (.asg (.nm 4) (.prim .add (.ex (.prim .ix (.ex (.cst (.str "ABCDEFGHIJKLMNOPQRSTUVWXYZ")) (.ex (.var 5) .nil))) (.ex (.cst (.str "'")) .nil))))
  .nil) .nil)
  .nil))
  .nil))
  (.cons (.ife (.prim .isN (.ex (.var 4) .nil)) (.cons (.ife (.prim .eq (.ex (.prim .len (.bo 1 .nil)) (.ex (.cst (.int 26)) .nil))) (.cons (.raise 2)
  .nil) .nil)
  (.cons (.asg (.nm 4) (.prim .ix (.ex (.cst (.str "ABCDEFGHIJKLMNOPQRSTUVWXYZ")) (.ex (.prim .len (.bo 1 .nil)) .nil))))
  (.cons (.app 1 (.prim .tupOf (.ex (.var 3) .nil)))
  .nil))) .nil)
  (.cons (.app 2 (.var 4))
  .nil)))))
  (.cons (.ret (.prim .tupOf (.bo 2 .nil)))
  .nil)))
def fd_form_letters : Fd := { np := 1, mu := none, n := 7, body := b_form_letters, lams := [] }
def b_moved_shape : SL := (.cons (.asg (.nm 3) (.cst .non))
  (.cons (.fors (.tp (.cons (.nm 1) (.cons (.nm 2) .nil))) .seq (.ex (.var 0) .nil) (.cons (.ife (.and (.prim .isN (.ex (.var 3) .nil)) (.prim .notN (.ex (.var 1) .nil))) (.cons (.asg (.nm 3) (.call 1 (.ex (.var 1) .nil)))
  .nil) .nil)
  .nil))
  (.cons (.ret (.gen .tup (.tp (.cons (.nm 1) (.cons (.nm 2) .nil))) .seq (.ex (.var 0) .nil) (.cst (.bl true)) (.tup (.ex (.ite (.prim .isN (.ex (.var 1) .nil)) (.cst .non) (.prim .sub (.ex (.call 1 (.ex (.var 1) .nil)) (.ex (.var 3) .nil)))) (.ex (.var 2) .nil))) [1, 2]))
  .nil)))
def fd_moved_shape : Fd := { np := 1, mu := none, n := 4, body := b_moved_shape, lams := [] }
def b_is_canon : SL := (.cons (.ife (.prim .lt (.ex (.var 1) (.ex (.cst (.int 1)) .nil))) (.cons (.raise 2)
  .nil) .nil)
  (.cons (.fors (.tp (.cons (.nm 3) (.cons (.nm 4) .nil))) .zip (.ex (.var 0) (.ex (.prim .cutLo (.ex (.var 0) (.ex (.ck (.var 1)) .nil))) .nil)) (.cons (.ife (.or (.prim .ne (.ex (.prim .ix (.ex (.var 3) (.ex (.cst (.int 1)) .nil))) (.ex (.prim .ix (.ex (.var 4) (.ex (.cst (.int 1)) .nil))) .nil))) (.prim .ne (.ex (.prim .isN (.ex (.prim .ix (.ex (.var 3) (.ex (.cst (.int 0)) .nil))) .nil)) (.ex (.prim .isN (.ex (.prim .ix (.ex (.var 4) (.ex (.cst (.int 0)) .nil))) .nil)) .nil)))) (.cons (.ret (.cst (.bl false)))
  .nil) .nil)
  (.cons (.ife (.and (.prim .notN (.ex (.prim .ix (.ex (.var 3) (.ex (.cst (.int 0)) .nil))) .nil)) (.prim .ne (.ex (.prim .sub (.ex (.call 1 (.ex (.prim .ix (.ex (.var 4) (.ex (.cst (.int 0)) .nil))) .nil)) (.ex (.call 1 (.ex (.prim .ix (.ex (.var 3) (.ex (.cst (.int 0)) .nil))) .nil)) .nil))) (.ex (.var 2) .nil)))) (.cons (.ret (.cst (.bl false)))
  .nil) .nil)
  .nil)))
  (.cons (.ret (.cst (.bl true)))
  .nil)))
def fd_is_canon : Fd := { np := 3, mu := none, n := 5, body := b_is_canon, lams := [] }
def b__law_dice : SL := (.cons (.ife (.chn .lt .lt (.prim .sub (.ex (.cst (.int 0)) (.ex (.cst (.int 10)) .nil))) (.var 0) (.cst (.int 10))) (.cons (.ret (.lst (.ex (.prim .abs (.ex (.var 0) .nil)) (.ex (.cst (.int 0)) (.ex (.cst (.int 2)) .nil)))))
  .nil) .nil)
  (.cons (.ret (.lst (.ex (.var 0) (.ex (.prim .add (.ex (.cst (.int 1)) (.ex (.prim .mod (.ex (.prim .toInt (.ex (.var 0) .nil)) (.ex (.cst (.int 1009)) .nil))) .nil))) (.ex (.prim .toInt (.ex (.prim .ge (.ex (.var 0) (.ex (.prim .pow (.ex (.cst (.int 10)) (.ex (.cst (.int 18)) .nil))) .nil))) .nil)) .nil)))))
  .nil))
def fd__law_dice : Fd := { np := 1, mu := none, n := 1, body := b__law_dice, lams := [] }
def b__law_roll : SL := (.cons (.ife (.or (.prim .eq (.ex (.prim .ix (.bo 0 (.ex (.cst (.int 2)) .nil))) (.ex (.cst (.int 2)) .nil))) (.and (.prim .eq (.ex (.prim .ix (.bo 0 (.ex (.cst (.int 2)) .nil))) (.ex (.cst (.int 1)) .nil))) (.prim .gt (.ex (.prim .ix (.bo 0 (.ex (.cst (.int 0)) .nil))) (.ex (.cst (.int 0)) .nil))))) (.cons (.asg (.nm 2) (.prim .mod (.ex (.prim .toInt (.ex (.prim .ix (.bo 0 (.ex (.cst (.int 0)) .nil))) .nil)) (.ex (.var 1) .nil))))
  (.cons (.setIx 0 (.cst (.int 0)) (.prim .fdiv (.ex (.prim .ix (.bo 0 (.ex (.cst (.int 0)) .nil))) (.ex (.var 1) .nil))))
  (.cons (.ret (.var 2))
  .nil))) .nil)
  (.cons (.setIx 0 (.cst (.int 2)) (.cst (.int 0)))
  (.cons (.ife (.prim .gt (.ex (.var 1) (.ex (.cst (.int 100000000)) .nil))) (.cons (.ret (.prim .mod (.ex (.prim .toInt (.ex (.prim .add (.ex (.prim .mul (.ex (.call 11 (.mu 0 (.ex (.prim .add (.ex (.prim .fdiv (.ex (.var 1) (.ex (.cst (.int 100000000)) .nil))) (.ex (.cst (.int 1)) .nil))) .nil))) (.ex (.cst (.int 100000000)) .nil))) (.ex (.call 11 (.mu 0 (.ex (.cst (.int 100000000)) .nil))) .nil))) .nil)) (.ex (.var 1) .nil))))
  .nil) .nil)
  (.cons (.setIx 0 (.cst (.int 0)) (.prim .mod (.ex (.prim .toInt (.ex (.prim .add (.ex (.prim .add (.ex (.prim .mul (.ex (.prim .ix (.bo 0 (.ex (.cst (.int 0)) .nil))) (.ex (.cst (.int 48271)) .nil))) (.ex (.prim .mul (.ex (.prim .ix (.bo 0 (.ex (.cst (.int 1)) .nil))) (.ex (.cst (.int 69621)) .nil))) .nil))) (.ex (.cst (.int 11)) .nil))) .nil)) (.ex (.cst (.int 2147483647)) .nil))))
  (.cons (.setIx 0 (.cst (.int 1)) (.prim .add (.ex (.prim .ix (.bo 0 (.ex (.cst (.int 1)) .nil))) (.ex (.cst (.int 1)) .nil))))
  (.cons (.ret (.prim .mod (.ex (.prim .toInt (.ex (.prim .fdiv (.ex (.prim .ix (.bo 0 (.ex (.cst (.int 0)) .nil))) (.ex (.cst (.int 7)) .nil))) .nil)) (.ex (.var 1) .nil))))
  .nil))))))
def fd__law_roll : Fd := { np := 2, mu := some 0, n := 3, body := b__law_roll, lams := [] }
def b__law_rounds : SL := .cons .brk .nil
def fd__law_rounds : Fd := { np := 2, mu := none, n := 4, body := b__law_rounds, lams := [] }
def b__law_told : SL := .cons .brk .nil
def fd__law_told : Fd := { np := 1, mu := none, n := 1, body := b__law_told, lams := [] }
def b__law_tone : SL := (.cons (.ret (.tup (.ex (.call 11 (.mu 0 (.ex (.cst (.int 7)) .nil))) (.ex (.prim .ix (.ex (.lst (.ex (.cst (.int 0)) (.ex (.cst (.int 0)) (.ex (.cst (.int 0)) (.ex (.cst (.int 1)) (.ex (.prim .neg (.ex (.cst (.int 1)) .nil)) .nil)))))) (.ex (.call 11 (.mu 0 (.ex (.cst (.int 5)) .nil))) .nil))) (.ex (.prim .add (.ex (.cst (.int 3)) (.ex (.call 11 (.mu 0 (.ex (.cst (.int 3)) .nil))) .nil))) .nil)))))
  .nil)
def fd__law_tone : Fd := { np := 1, mu := some 0, n := 1, body := b__law_tone, lams := [] }
def b__law_halves : SL := (.cons (.ret (.prim .add (.ex (.prim .add (.ex (.prim .add (.ex (.prim .ix (.ex (.lst (.ex (.cst (.int 0)) (.ex (.cst (.int 2)) (.ex (.cst (.int 4)) (.ex (.cst (.int 5)) (.ex (.cst (.int 7)) (.ex (.cst (.int 9)) (.ex (.cst (.int 11)) .nil)))))))) (.ex (.prim .ix (.ex (.var 0) (.ex (.cst (.int 0)) .nil))) .nil))) (.ex (.prim .ix (.ex (.var 0) (.ex (.cst (.int 1)) .nil))) .nil))) (.ex (.prim .mul (.ex (.cst (.int 12)) (.ex (.prim .ix (.ex (.var 0) (.ex (.cst (.int 2)) .nil))) .nil))) .nil))) (.ex (.cst (.int 12)) .nil))))
  .nil)
def fd__law_halves : Fd := { np := 1, mu := none, n := 1, body := b__law_halves, lams := [] }
def b__law_notes : SL := (.cons (.own 2 (.lst .nil))
  (.cons (.fors (.nm 3) .range1 (.ex (.call 11 (.mu 0 (.ex (.var 1) .nil))) .nil) (.cons (.asg (.nm 4) (.prim .ix (.ex (.lst (.ex (.tup (.ex (.cst (.int 1)) (.ex (.cst (.int 1)) .nil))) (.ex (.tup (.ex (.cst (.int 1)) (.ex (.cst (.int 2)) .nil))) (.ex (.tup (.ex (.cst (.int 3)) (.ex (.cst (.int 4)) .nil))) (.ex (.tup (.ex (.cst (.int 1)) (.ex (.cst (.int 4)) .nil))) (.ex (.tup (.ex (.cst (.int 3)) (.ex (.cst (.int 8)) .nil))) (.ex (.tup (.ex (.cst (.int 1)) (.ex (.cst (.int 8)) .nil))) (.ex (.tup (.ex (.cst (.int 1)) (.ex (.cst (.int 16)) .nil))) (.ex (.tup (.ex (.cst (.int 5)) (.ex (.cst (.int 8)) .nil))) (.ex (.tup (.ex (.cst (.int 9)) (.ex (.cst (.int 16)) .nil))) .nil)))))))))) (.ex (.call 11 (.mu 0 (.ex (.cst (.int 9)) .nil))) .nil))))
  (.cons (.app 2 (.tup (.ex (.ite (.prim .eq (.ex (.call 11 (.mu 0 (.ex (.cst (.int 5)) .nil))) (.ex (.cst (.int 0)) .nil))) (.cst .non) (.call 14 (.mu 0 .nil))) (.ex (.var 4) .nil))))
  .nil)))
  (.cons (.ret (.var 2))
  .nil)))
def fd__law_notes : Fd := { np := 2, mu := some 0, n := 5, body := b__law_notes, lams := [] }
def b_law_dice_slot : Nat := 1
def b_law_in : SL := (.cons (.par true true 2 3 (.lst .nil) (.lst .nil))
  (.cons (.fors (.nm 4) .range1 (.ex (.prim .add (.ex (.cst (.int 1)) (.ex (.call 11 (.mu 1 (.ex (.cst (.int 5)) .nil))) .nil))) .nil) (.cons (.asg (.nm 26) (.call 16 (.mu 1 (.ex (.cst (.int 5)) .nil))))
  (.cons (.ife (.and (.prim .ne (.bo 2 (.ex (.lst .nil) .nil))) (.prim .eq (.ex (.call 11 (.mu 1 (.ex (.cst (.int 2)) .nil))) (.ex (.cst (.int 0)) .nil)))) (.cons (.asg (.nm 26) (.prim .ix (.bo 2 (.ex (.call 11 (.mu 1 (.ex (.prim .len (.bo 2 .nil)) .nil))) .nil))))
  (.cons (.asg (.nm 27) (.prim .ix (.ex (.lst (.ex (.tup (.ex (.cst (.int 0)) (.ex (.cst (.int 0)) .nil))) (.ex (.tup (.ex (.cst (.int 1)) (.ex (.cst (.int 2)) .nil))) (.ex (.tup (.ex (.cst (.int 4)) (.ex (.cst (.int 7)) .nil))) .nil)))) (.ex (.call 11 (.mu 1 (.ex (.cst (.int 3)) .nil))) .nil))))
  (.cons (.asg (.nm 5) (.told (.lam 0) told_ks told_ret))
  (.cons (.asg (.nm 26) (.ite (.prim .ne (.ex (.var 5) (.ex (.cst (.str "MusicError")) .nil))) (.var 5) (.var 26)))
  .nil)))) .nil)
  (.cons (.app 2 (.var 26))
  .nil))))
  (.cons (.asg (.nm 6) (.lst .nil))
  (.cons (.fors (.nm 7) .seq (.bo 2 .nil) (.cons (.asg (.nm 6) (.prim .add (.ex (.var 6) (.ex (.var 7) .nil))))
  .nil))
  (.cons (.own 8 (.lst .nil))
  (.cons (.fors (.tp (.cons (.nm 4) (.cons (.tp (.cons (.nm 17) (.cons (.nm 9) .nil))) .nil))) .enum (.ex (.var 6) .nil) (.cons (.asg (.nm 10) (.ite (.prim .lt (.ex (.prim .add (.ex (.var 4) (.ex (.cst (.int 1)) .nil))) (.ex (.prim .len (.ex (.var 6) .nil)) .nil))) (.prim .ix (.ex (.prim .ix (.ex (.var 6) (.ex (.prim .add (.ex (.var 4) (.ex (.cst (.int 1)) .nil))) .nil))) (.ex (.cst (.int 0)) .nil))) (.cst .non)))
  (.cons (.app 8 (.tup (.ex (.ite (.or (.prim .isN (.ex (.var 17) .nil)) (.prim .isN (.ex (.var 10) .nil))) (.cst .non) (.prim .sub (.ex (.call 15 (.ex (.var 10) .nil)) (.ex (.call 15 (.ex (.var 17) .nil)) .nil)))) (.ex (.var 9) .nil))))
  .nil)))
  (.cons (.ife (.prim .ne (.ex (.prim .lstOf (.ex (.call 4 (.ex (.var 6) .nil)) .nil)) (.bo 8 .nil))) (.cons (.ret (.cst (.bl false)))
  .nil) .nil)
  (.cons (.asg (.nm 11) (.cst .non))
  (.cons (.fors (.nm 12) .range1 (.ex (.prim .len (.ex (.var 6) .nil)) .nil) (.cons (.fors (.nm 13) .range2 (.ex (.prim .add (.ex (.var 12) (.ex (.cst (.int 1)) .nil))) (.ex (.prim .len (.ex (.var 6) .nil)) .nil)) (.cons (.asg (.nm 14) (.comp true (.nm 28) .range2 (.ex (.cst (.int 1)) (.ex (.prim .add (.ex (.prim .min2 (.ex (.prim .sub (.ex (.var 13) (.ex (.var 12) .nil))) (.ex (.prim .sub (.ex (.prim .len (.ex (.var 6) .nil)) (.ex (.var 13) .nil))) .nil))) (.ex (.cst (.int 1)) .nil))) .nil)) (.prim .eq (.ex (.prim .cut2 (.ex (.var 6) (.ex (.ck (.var 12)) (.ex (.ck (.prim .add (.ex (.var 12) (.ex (.var 28) .nil)))) .nil)))) (.ex (.prim .cut2 (.ex (.var 6) (.ex (.ck (.var 13)) (.ex (.ck (.prim .add (.ex (.var 13) (.ex (.var 28) .nil)))) .nil)))) .nil))) (.var 28) [28]))
  (.cons (.ife (.and (.prim .ne (.ex (.var 14) (.ex (.lst .nil) .nil))) (.or (.prim .isN (.ex (.var 11) .nil)) (.prim .gt (.ex (.prim .maxL (.ex (.var 14) .nil)) (.ex (.prim .ix (.ex (.var 11) (.ex (.cst (.int 0)) .nil))) .nil))))) (.cons (.asg (.nm 11) (.tup (.ex (.prim .maxL (.ex (.var 14) .nil)) (.ex (.var 12) (.ex (.var 13) .nil)))))
  .nil) .nil)
  .nil)))
  .nil))
  (.cons (.ife (.or (.prim .ne (.ex (.call 5 (.ex (.var 6) .nil)) (.ex (.var 11) .nil))) (.and (.prim .notN (.ex (.var 11) .nil)) (.prim .ne (.ex (.comp true (.nm 29) .seq (.ex (.lst (.ex (.prim .ix (.ex (.var 11) (.ex (.cst (.int 1)) .nil))) (.ex (.prim .ix (.ex (.var 11) (.ex (.cst (.int 2)) .nil))) .nil))) .nil) (.prim .notIn (.ex (.var 29) (.ex (.call 6 (.ex (.var 6) (.ex (.prim .cut2 (.ex (.var 6) (.ex (.ck (.prim .ix (.ex (.var 11) (.ex (.cst (.int 1)) .nil)))) (.ex (.ck (.prim .add (.ex (.prim .ix (.ex (.var 11) (.ex (.cst (.int 1)) .nil))) (.ex (.prim .ix (.ex (.var 11) (.ex (.cst (.int 0)) .nil))) .nil)))) .nil)))) .nil))) .nil))) (.var 29) [29]) (.ex (.lst .nil) .nil))))) (.cons (.ret (.cst (.bl false)))
  .nil) .nil)
  (.cons (.ife (.prim .ne (.ex (.prim .lstOf (.ex (.call 6 (.ex (.var 6) (.ex (.prim .cutHi (.ex (.var 6) (.ex (.ck (.cst (.int 2))) .nil))) .nil))) .nil)) (.ex (.comp true (.nm 4) .range1 (.ex (.prim .add (.ex (.prim .sub (.ex (.prim .len (.ex (.var 6) .nil)) (.ex (.prim .len (.ex (.prim .cutHi (.ex (.var 6) (.ex (.ck (.cst (.int 2))) .nil))) .nil)) .nil))) (.ex (.cst (.int 1)) .nil))) .nil) (.prim .eq (.ex (.prim .cut2 (.ex (.var 6) (.ex (.ck (.var 4)) (.ex (.ck (.prim .add (.ex (.var 4) (.ex (.prim .len (.ex (.prim .cutHi (.ex (.var 6) (.ex (.ck (.cst (.int 2))) .nil))) .nil)) .nil)))) .nil)))) (.ex (.prim .cutHi (.ex (.var 6) (.ex (.ck (.cst (.int 2))) .nil))) .nil))) (.var 4) [4]) .nil))) (.cons (.ret (.cst (.bl false)))
  .nil) .nil)
  (.cons (.par false true 15 16 (.lst .nil) (.lst .nil))
  (.cons (.fors (.nm 7) .seq (.bo 2 .nil) (.cons (.asg (.nm 18) (.comp true (.tp (.cons (.nm 17) (.cons (.nm 9) .nil))) .seq (.ex (.var 7) .nil) (.prim .notN (.ex (.var 17) .nil)) (.var 17) [17, 9]))
  (.cons (.asg (.nm 19) (.comp true (.tp (.cons (.nm 17) (.cons (.nm 9) .nil))) .seq (.ex (.var 7) .nil) (.cst (.bl true)) (.tup (.ex (.ite (.prim .isN (.ex (.var 17) .nil)) (.cst .non) (.prim .sub (.ex (.call 15 (.ex (.var 17) .nil)) (.ex (.call 15 (.ex (.prim .ix (.ex (.var 18) (.ex (.cst (.int 0)) .nil))) .nil)) .nil)))) (.ex (.var 9) .nil))) [17, 9]))
  (.cons (.ife (.prim .ne (.ex (.prim .lstOf (.ex (.call 8 (.ex (.var 7) .nil)) .nil)) (.ex (.var 19) .nil))) (.cons (.ret (.cst (.bl false)))
  .nil) .nil)
  (.cons (.asg (.nm 20) (.comp true (.nm 4) .range1 (.ex (.prim .len (.ex (.var 15) .nil)) .nil) (.or (.prim .eq (.ex (.prim .ix (.ex (.prim .ix (.ex (.var 15) (.ex (.var 4) .nil))) (.ex (.cst (.int 0)) .nil))) (.ex (.var 7) .nil))) (.and (.prim .ne (.ex (.var 7) (.ex (.lst .nil) .nil))) (.prim .eq (.ex (.prim .ix (.ex (.prim .ix (.ex (.var 15) (.ex (.var 4) .nil))) (.ex (.cst (.int 1)) .nil))) (.ex (.var 19) .nil))))) (.var 4) [4]))
  (.cons (.app 16 (.ite (.prim .ne (.ex (.var 20) (.ex (.lst .nil) .nil))) (.prim .add (.ex (.prim .ix (.ex (.cst (.str "ABCDE")) (.ex (.prim .ix (.ex (.var 20) (.ex (.cst (.int 0)) .nil))) .nil))) (.ex (.ite (.prim .eq (.ex (.prim .ix (.ex (.prim .ix (.ex (.var 15) (.ex (.prim .ix (.ex (.var 20) (.ex (.cst (.int 0)) .nil))) .nil))) (.ex (.cst (.int 0)) .nil))) (.ex (.var 7) .nil))) (.cst (.str "")) (.cst (.str "'"))) .nil))) (.prim .ix (.ex (.cst (.str "ABCDE")) (.ex (.prim .len (.ex (.var 15) .nil)) .nil)))))
  (.cons (.asg (.nm 15) (.prim .add (.ex (.var 15) (.ex (.prim .mul (.ex (.lst (.ex (.tup (.ex (.var 7) (.ex (.var 19) .nil))) .nil)) (.ex (.prim .toInt (.ex (.prim .eq (.ex (.var 20) (.ex (.lst .nil) .nil))) .nil)) .nil))) .nil))))
  .nil)))))))
  (.cons (.ife (.prim .ne (.ex (.prim .lstOf (.ex (.call 7 (.ex (.var 2) .nil)) .nil)) (.bo 16 .nil))) (.cons (.ret (.cst (.bl false)))
  .nil) .nil)
  (.cons (.asg (.tp (.cons (.nm 21) (.cons (.nm 22) .nil))) (.tup (.ex (.prim .add (.ex (.cst (.int 1)) (.ex (.call 11 (.mu 1 (.ex (.cst (.int 4)) .nil))) .nil))) (.ex (.prim .ix (.ex (.lst (.ex (.cst (.int 0)) (.ex (.cst (.int 2)) (.ex (.cst (.int 7)) .nil)))) (.ex (.call 11 (.mu 1 (.ex (.cst (.int 3)) .nil))) .nil))) .nil))))
  (.cons (.asg (.nm 23) (.comp true (.tp (.cons (.nm 12) (.cons (.nm 13) .nil))) .zip (.ex (.var 6) (.ex (.prim .cutLo (.ex (.var 6) (.ex (.ck (.var 21)) .nil))) .nil)) (.cst (.bl true)) (.tup (.ex (.var 12) (.ex (.var 13) .nil))) [12, 13]))
  (.cons (.asg (.nm 24) (.prim .eq (.ex (.comp true (.tp (.cons (.nm 12) (.cons (.nm 13) .nil))) .seq (.ex (.var 23) .nil) (.or (.prim .ne (.ex (.prim .ix (.ex (.var 12) (.ex (.cst (.int 1)) .nil))) (.ex (.prim .ix (.ex (.var 13) (.ex (.cst (.int 1)) .nil))) .nil))) (.or (.prim .ne (.ex (.prim .isN (.ex (.prim .ix (.ex (.var 12) (.ex (.cst (.int 0)) .nil))) .nil)) (.ex (.prim .isN (.ex (.prim .ix (.ex (.var 13) (.ex (.cst (.int 0)) .nil))) .nil)) .nil))) (.and (.prim .notN (.ex (.prim .ix (.ex (.var 12) (.ex (.cst (.int 0)) .nil))) .nil)) (.prim .ne (.ex (.prim .sub (.ex (.call 15 (.ex (.prim .ix (.ex (.var 13) (.ex (.cst (.int 0)) .nil))) .nil)) (.ex (.call 15 (.ex (.prim .ix (.ex (.var 12) (.ex (.cst (.int 0)) .nil))) .nil)) .nil))) (.ex (.var 22) .nil)))))) (.cst (.int 1)) [12, 13]) (.ex (.lst .nil) .nil))))
  (.cons (.ife (.or (.prim .ne (.ex (.call 9 (.ex (.var 6) (.ex (.var 21) (.ex (.var 22) .nil)))) (.ex (.var 24) .nil))) (.prim .nt (.ex (.call 9 (.ex (.prim .add (.ex (.var 6) (.ex (.var 6) .nil))) (.ex (.prim .max2 (.ex (.cst (.int 1)) (.ex (.prim .len (.ex (.var 6) .nil)) .nil))) (.ex (.cst (.int 0)) .nil)))) .nil))) (.cons (.ret (.cst (.bl false)))
  .nil) .nil)
  .nil))))))))))))))))))
def b_law : SL :=   (.cons (.asg (.nm 17) (.tup (.ex (.cst (.int 0)) (.ex (.cst (.int 0)) (.ex (.cst (.int 4)) .nil)))))
  (.cons (.asg (.nm 25) (.lst (.ex (.lam 1) (.ex (.lam 2) (.ex (.lam 3) .nil)))))
  (.cons (.ife (.or (.prim .ne (.ex (.comp true (.nm 30) .seq (.ex (.var 25) .nil) (.prim .ne (.ex (.told (.var 30) told_ks told_ret) (.ex (.cst (.str "MusicError")) .nil))) (.cst (.int 1)) [30]) (.ex (.lst .nil) .nil))) (.or (.prim .ne (.ex (.call 5 (.ex (.lst (.ex (.cst (.int 1)) (.ex (.cst (.int 1)) (.ex (.cst (.int 1)) .nil)))) .nil)) (.ex (.tup (.ex (.cst (.int 1)) (.ex (.cst (.int 0)) (.ex (.cst (.int 1)) .nil)))) .nil))) (.prim .ne (.ex (.call 5 (.ex (.lst (.ex (.cst (.int 1)) (.ex (.cst (.int 2)) (.ex (.cst (.int 1)) (.ex (.cst (.int 2)) .nil))))) .nil)) (.ex (.tup (.ex (.cst (.int 2)) (.ex (.cst (.int 0)) (.ex (.cst (.int 2)) .nil)))) .nil))))) (.cons (.ret (.cst (.bl false)))
  .nil) .nil)
  (.cons (.ret (.and (.prim .eq (.ex (.call 7 (.ex (.lst (.ex (.lst (.ex (.tup (.ex (.var 17) (.ex (.tup (.ex (.cst (.int 1)) (.ex (.cst (.int 4)) .nil))) .nil))) .nil)) (.ex (.lst (.ex (.tup (.ex (.tup (.ex (.cst (.int 1)) (.ex (.cst (.int 0)) (.ex (.cst (.int 4)) .nil)))) (.ex (.tup (.ex (.cst (.int 1)) (.ex (.cst (.int 4)) .nil))) .nil))) .nil)) (.ex (.lst .nil) .nil)))) .nil)) (.ex (.tup (.ex (.cst (.str "A")) (.ex (.cst (.str "A'")) (.ex (.cst (.str "B")) .nil)))) .nil))) (.and (.call 9 (.ex (.lst (.ex (.tup (.ex (.var 17) (.ex (.tup (.ex (.cst (.int 1)) (.ex (.cst (.int 4)) .nil))) .nil))) (.ex (.tup (.ex (.tup (.ex (.cst (.int 1)) (.ex (.cst (.int 0)) (.ex (.cst (.int 4)) .nil)))) (.ex (.tup (.ex (.cst (.int 1)) (.ex (.cst (.int 4)) .nil))) .nil))) (.ex (.tup (.ex (.tup (.ex (.cst (.int 2)) (.ex (.cst (.int 0)) (.ex (.cst (.int 4)) .nil)))) (.ex (.tup (.ex (.cst (.int 1)) (.ex (.cst (.int 4)) .nil))) .nil))) .nil)))) (.ex (.cst (.int 1)) (.ex (.cst (.int 2)) .nil)))) (.prim .eq (.ex (.call 6 (.ex (.lst (.ex (.cst (.int 1)) (.ex (.cst (.int 1)) (.ex (.cst (.int 1)) .nil)))) (.ex (.lst (.ex (.cst (.int 1)) (.ex (.cst (.int 1)) .nil))) .nil))) (.ex (.tup (.ex (.cst (.int 0)) (.ex (.cst (.int 1)) .nil))) .nil))))))
  .nil))))
def l_law_0 : C := (.comp true (.tp (.cons (.nm 17) (.cons (.nm 9) .nil))) .seq (.ex (.var 26) .nil) (.cst (.bl true)) (.tup (.ex (.ite (.prim .isN (.ex (.var 17) .nil)) (.cst .non) (.call 3 (.ex (.var 17) (.ex (.var 27) .nil)))) (.ex (.var 9) .nil))) [17, 9])
def l_law_1 : C := (.call 5 (.ex (.prim .mul (.ex (.lst (.ex (.tup (.ex (.var 17) (.ex (.tup (.ex (.cst (.int 1)) (.ex (.cst (.int 4)) .nil))) .nil))) .nil)) (.ex (.cst (.int 201)) .nil))) .nil))
def l_law_2 : C := (.call 9 (.ex (.lst .nil) (.ex (.cst (.int 0)) (.ex (.cst (.int 0)) .nil))))
def l_law_3 : C := (.call 7 (.ex (.comp true (.nm 4) .range1 (.ex (.cst (.int 27)) .nil) (.cst (.bl true)) (.lst (.ex (.tup (.ex (.var 17) (.ex (.tup (.ex (.prim .add (.ex (.cst (.int 1)) (.ex (.var 4) .nil))) (.ex (.cst (.int 4)) .nil))) .nil))) .nil)) [4]) .nil))
def fd_law : Fd := { np := 1, mu := none, n := 31, body := b_law, lams := [l_law_0, l_law_1, l_law_2, l_law_3] }
def fds : List Fd := [fd_pitch, fd_half_steps, fd_place_in, fd_moved_by, fd_shape_of, fd_longest_again, fd_places_of, fd_form_letters, fd_moved_shape, fd_is_canon, fd__law_dice, fd__law_roll, fd__law_rounds, fd__law_told, fd__law_tone, fd__law_halves, fd__law_notes, fd_law]
end K11
end
section
set_option maxRecDepth 100000
set_option maxHeartbeats 2000000
namespace MX
open PySem PySem.Spec PyProof.Rows L2 GenW

/-- the names of a generator expression's frame -/
structure GScp (N : List Str) (sc scope : Scope) (own : List (Str × Nat)) : Prop where
  kind : scope.kind = .function
  co : scope.isCoroutine = false
  ix : ∀ p ∈ own, N[p.2]? = some p.1
  nocell : ∀ y ∈ scope.names, y.2 ≠ .cell
  free : ∀ y ∈ scope.names, y.2 = .free → sc.names.lookup y.1 = some .cell ∨ sc.names.lookup y.1 = some .free
  own : ∀ y ∈ scope.names, y.2 = .local → y.1 ∈ own.map (·.1) ∨ y.1 ∉ N
  dot : scope.names.lookup (".0" : Str) = some NameKind.local

abbrev gEnv (X : Cx) (scope : Scope) (C : Addr) (code : Value) : Env := genEnv scope (cloFrom X.env.cells scope.names []) C code builtinsNs X.env
/-- the context of a generator expression's frame -/
def gcx (X : Cx) (Aw : Around) (s4 : Shared) (H4 : Hp) (cenv : Env) (fp : List Addr) (pn : List (Addr × Obj)) (xe : Value → Shared → Prop) : Cx :=
  { X with A := Aw.deeper cenv, s_0 := s4, H_0 := H4, env := cenv, outer := X.stack, stack := cenv :: X.stack, ex := fp, fn := fun _ => false, calm := true, pn := pn, xe := xe }

section
variable {X : Cx} {pins : List (Addr × Obj)} {σ : L2.St} {H4 : Hp} {s4 : Shared}
theorem gx_start {scope : Scope} {own : List (Str × Nat)} {Aw : Around} {fp : List Addr} {code : Value} {xe : Value → Shared → Prop} {m : Str → Option Value} {h5 : Heap} {g5 : Array GenState} {t5 : Nat} {pn : List (Addr × Obj)}
    (I : Inv X pins σ H4 s4) (S : GScp X.N X.env.scope scope own) (hN : X.N.Nodup) (hA : Aw.handled = none) (hfr : Aw.frames = some X.stack) (hfp : ∀ b ∈ fp, FpOk X pins H4 b ∧ b < s4.heap.objs.size)
    (hn : h5.Ns s4.heap.objs.size m) (kp : ∀ b o, s4.heap.get? b = some o → h5.get? b = some o) (hg : AllBare g5)
    (hp : ∀ p ∈ pn, h5.get? p.1 = some p.2 ∧ s4.heap.objs.size < p.1 ∧ ∀ v, p.2.data ≠ .cell v) :
    Inv (gcx X Aw s4 H4 (gEnv X scope s4.heap.objs.size code) fp pn xe) [] (wipe σ (own.map (·.2))) H4 { s4 with heap := h5, gens := g5, toks := t5 } := by
  have hfree : ∀ y ∈ scope.names, y.2 = .free → ∃ c, X.env.cells.lookup y.1 = some c := fun y hy e => by
    rcases S.free y hy e with k | k
    · exact I.ok.has _ (.inl k)
    · exact I.ok.has _ (.inr k)
  have cm : ∀ {y c}, (cloFrom X.env.cells scope.names []).lookup y = some c → X.env.cells.lookup y = some c := fun {y c} e => by
    rcases cloFrom_mem (PySem.mem_of_lookup e) with hm | ⟨h1, h2⟩
    · cases hm
    · obtain ⟨c1, hc⟩ := hfree _ h1 rfl
      have hc : X.env.cells.lookup y = some c1 := hc
      have e2 : c = c1 := by
        rw [h2, hc] <;> rfl
      rw [e2]
      exact hc
  have clt : ∀ {y c}, X.env.cells.lookup y = some c → c < s4.heap.objs.size := fun {y c} e => by
    obtain ⟨v, z⟩ := I.cell y c e
    exact z.lt
  have look : ∀ {y}, scope.names.lookup y = some .free → ∃ c, (cloFrom X.env.cells scope.names []).lookup y = some c := fun {y} hl => by
    have hy : (y, NameKind.free) ∈ scope.names := PySem.mem_of_lookup hl
    exact mem_lookup (cloFrom_has (cells := X.env.cells) (acc := []) hy)
  have ltC : s4.heap.objs.size < h5.objs.size := hn.lt
  refine ⟨⟨I.ok.mod, S.kind, I.ok.glob, rfl, Nat.le_refl _, fun y z c e1 e2 => I.ok.inj y z c (cm e1) (cm e2), fun y hy => ?_, fun y c z _ => ?_, fun _ => hA, Around.frames_deeper hfr, .inr ⟨rfl, rfl⟩, fun b hb => ⟨?_, fun y c e z => ?_⟩, I.bs, Nat.le_trans I.ok.bsz I.sz, fun b o e hb => ?_,
      fun b hb z => ?_, I.stack, I.stkFree⟩,
    rfl, hg, Un.kept kp, ⟨m, hn, fun i y v e1 e2 e3 => ?_⟩, fun y c e => ?_, I.hok.fresh (Nat.le_refl _), fun y c e => ?_, fun p hp' => ?_, I.hok.kept kp, by rw [wipe_length]; exact I.len⟩
  · have hy : scope.names.lookup y = some .cell ∨ scope.names.lookup y = some .free := hy
    rcases hy with hy | hy
    · exact absurd rfl (S.nocell _ (PySem.mem_of_lookup hy))
    · exact look hy
  · have z : false = true := z
    cases z
  · show b ≠ s4.heap.objs.size
    exact Nat.ne_of_lt (hfp b hb).2
  · exact (hfp b hb).1.2.2.2.2.1 y c (cm e) z
  · rcases (hfp b hb).1.2.2.2.1 with z | z
    · exact I.ok.noex b o e z
    · exact absurd (Nat.lt_of_lt_of_le (Heap.lt_size e) (Nat.le_trans I.ok.bsz z)) (Nat.lt_irrefl _)
  · rcases List.mem_cons.mp (I.stkSub b z) with z | z
    · exact (hfp b hb).1.2.1 z
    · exact (hfp b hb).1.2.2.1 z
  · obtain ⟨e2, hne⟩ := wipe_some e2
    have e3 : Vis scope y := e3
    have hfr : scope.names.lookup y = some .free := by
      rcases e3 with k | k | k
      · exfalso
        rcases S.own _ (PySem.mem_of_lookup k) rfl with e' | e'
        · obtain ⟨p, hp, hpy⟩ := List.mem_map.mp e'
          have e3 := S.ix p hp
          have : p.1 = y := hpy
          rw [this] at e3
          exact hne (List.mem_map.mpr ⟨p, hp, nodup_ix hN e3 e1⟩)
        · exact e' (List.mem_of_getElem? e1)
      · exact absurd rfl (S.nocell _ (PySem.mem_of_lookup k))
      · exact k
    obtain ⟨m0, hn0, hl⟩ := I.loc
    have hvis : Vis X.env.scope y := (S.free _ (PySem.mem_of_lookup hfr) rfl).elim (fun k => .inr (.inl k)) (fun k => .inr (.inr k))
    obtain ⟨w', r, q⟩ := hl i y v e1 e2 hvis
    obtain ⟨c2, h2⟩ := look hfr
    refine ⟨w', r, .inr ⟨.inr hfr, c2, h2, ?_⟩⟩
    have c1 := cm h2
    rcases q with ⟨k', _⟩ | ⟨_, c3, e', z⟩
    · have k' : X.env.scope.names.lookup y = some .local := k'
      rcases S.free _ (PySem.mem_of_lookup hfr) rfl with k2 | k2 <;> rw [show X.env.scope.names.lookup y = _ from k2] at k' <;> cases k'
    · rw [c1] at e'
      cases e'
      exact z.keeps kp
  · obtain ⟨w', z⟩ := I.cell y c (cm e)
    exact ⟨w', z.keeps kp⟩
  · exact I.freeC y c (cm e)
  · rcases List.mem_append.mp hp' with hp' | hp'
    · have hp' : p ∈ pn := hp'
      obtain ⟨h1, h2, h3⟩ := hp p hp'
      have h2' : s4.heap.objs.size ≤ p.1 := Nat.le_of_lt h2
      refine ⟨h1, I.hok.fresh h2', Nat.ne_of_gt h2, fun hm => ?_, h3⟩
      rcases List.mem_cons.mp (I.stkSub _ hm) with e | e
      · have h3 := I.lt
        rw [← e] at h3
        exact absurd (Nat.lt_of_lt_of_le h3 h2') (Nat.lt_irrefl _)
      · exact I.nofs h2' e
    · cases hp'
end
end MX
end
section
set_option maxRecDepth 100000
set_option maxHeartbeats 2000000
namespace MX
open PySem PySem.Spec PyProof.Rows L2 GenW

theorem over_gloop {A : Around} {elt : Expr} {gens : List Comprehension} {scope : Scope} {pos : Pos} {it acc : Value} {env : Env} : A.over (.compLoop (.GeneratorExp elt gens scope pos) 0 it acc env) [] = A.deeper env := by
  first
    | rfl
    | (obtain ⟨hd, d, fr, gs, u⟩ := A; simp [Around.over, Around.deeper, marksOver, frameCount, unitsOf, envsOf, guardsOf, pushEnvs, pushGuards, Code.envs, Code.env?, Code.isFrame, Code.guards, Code.isGuard, Code.weight, Code.frames, Code.isCreation, Code.isCaller, Code.cUnits])
theorem over_gstart {A : Around} {elt : Expr} {gens : List Comprehension} {scope : Scope} {pos : Pos} {it acc : Value} {env : Env} : A.over (.compStart (.GeneratorExp elt gens scope pos) 0 it acc env) [] = A.deeper env := by
  first
    | rfl
    | (obtain ⟨hd, d, fr, gs, u⟩ := A; simp [Around.over, Around.deeper, marksOver, frameCount, unitsOf, envsOf, guardsOf, pushEnvs, pushGuards, Code.envs, Code.env?, Code.isFrame, Code.guards, Code.isGuard, Code.weight, Code.frames, Code.isCreation, Code.isCaller, Code.cUnits])

/-- back in the consumer's frame -/
theorem gx_back {X : Cx} {pins pg : List (Addr × Obj)} {σ σg : L2.St} {H4 H : Hp} {s4 s : Shared} {Aw : Around} {fp : List Addr} {cenv : Env} {xe : Value → Shared → Prop} {pn : List (Addr × Obj)}
    (I4 : Inv X pins σ H4 s4) (hfp : ∀ b ∈ fp, FpOk X pins H4 b) (I : Inv (gcx X Aw s4 H4 cenv fp pn xe) pg σg H s) : Inv X pins σ H s :=
  I4.call' (ch := fp) I.os I.base I.hok I.bare fun b hb => ⟨(hfp b hb).2.2.2.1, (hfp b hb).2.1, (hfp b hb).2.2.2.2.1, (hfp b hb).2.2.2.2.2⟩

/-- an exception that flies over X's frames -/
def XFl (X : Cx) (W : WX) (u : Value) (s' : Shared) : Prop :=
  ∃ (a : Addr) (B : Heap) (sI : Shared) (pins : List (Addr × Obj)) (σ : L2.St) (H : Hp) (cls : Value) (d : Option Addr),
    u = .ref a ∧ Inv X pins σ H sI ∧ (∀ b o, sI.heap.get? b = some o → b ∉ frs X.stack → B.get? b = some o) ∧ sI.heap.UpToSlots s'.heap ∧
      HandSPX.FlyingZ B X.stack a (Zc cls d) s'.heap ∧ H a = none ∧ s'.os = sI.os ∧ AllBare s'.gens ∧ W cls d σ H
/-- such an exception is taken -/
def TakF (X : Cx) (W : WX) : Prop := ∀ u s', XFl X W u s' → X.xe u s'
theorem TakF.of {X : Cx} {W : WX} (t : Takes X W) : TakF X W := fun u s' ⟨a, B, sI, pins, σ, H, cls, d, e, I, nb, up, fl, na, os, ag, w⟩ => t u s' ⟨a, B, sI, pins, σ, H, cls, d, e, I, nb, up, .inr (.inl fl), na, os, ag, w⟩
theorem TakF.imp {X : Cx} {W W' : WX} (t : TakF X W) (h : ∀ c d σ H, W' c d σ H → W c d σ H) : TakF X W' := fun u s' ⟨a, B, sI, pins, σ, H, cls, d, e, I, nb, up, sky, na, os, ag, w⟩ =>
  t u s' ⟨a, B, sI, pins, σ, H, cls, d, e, I, nb, up, sky, na, os, ag, h _ _ _ _ w⟩
/-- the part of a heap that is the ground or one of some frames -/
theorem ground_of {B h' : Heap} {fs : List Addr} (st : B.StaysIn h') : ∃ G : Heap, (∀ b o, B.get? b = some o → G.get? b = some o) ∧ (∀ b ∈ fs, G.get? b = h'.get? b) ∧ (∀ b o, G.get? b = some o → h'.get? b = some o) ∧
    ∀ b o, G.get? b = some o → b ∉ fs → B.get? b = some o := by
  obtain ⟨G, up, dn⟩ := restrict h' fun b => (B.get? b).isSome || decide (b ∈ fs)
  refine ⟨G, fun b o e => ?_, fun b hb => up b (by simp [hb]), fun b o e => ?_, fun b o e hb => ?_⟩
  · exact (up b (by simp [e])).trans (st b o e)
  · cases q : ((B.get? b).isSome || decide (b ∈ fs))
    · rw [dn b q] at e; cases e
    · exact (up b q).symm.trans e
  · cases q : B.get? b with
    | some u =>
      have z := st b u q
      rw [← up b (by simp [q]), e] at z
      exact z.symm
    | none =>
      rw [dn b (by simp [q, hb])] at e
      cases e
/-- a call's exception flies -/
theorem XFl.of_call {X : Cx} {W : WX} {E : XK} {pins : List (Addr × Obj)} {σ : L2.St} {H : Hp} {s s' : Shared} {u : Value} (I : Inv X pins σ H s) (hW : ∀ cls d H', E cls d H' → W cls d σ H') (c : L2.CX X.prog X.w X.stack H s E u s') : XFl X W u s' := by
  obtain ⟨a, B, H', cls, d, rfl, fl, hok, ub, na, os, ag, hE⟩ := c
  obtain ⟨G, gB, gF, gh, gn⟩ := ground_of (fs := frs X.stack) fl.1
  have sl : ∀ b o, s.heap.get? b = some o → b ∈ frs X.stack → ∃ sl, G.get? b = some { o with slots := sl } := fun b o e hb => by
    obtain ⟨sl, q⟩ := ub.slot b o e hb
    exact ⟨sl, (gF b hb).trans q⟩
  have J : Inv X pins σ H' { s with heap := G, gens := s'.gens, drawn := s'.drawn, toks := s'.toks } := by
    refine I.call (ch := []) ⟨fun b o e n hb _ => gB b o (ub.keep b o e n hb), fun b o e _ hb _ => sl b o e hb, fun b o e n _ => ub.free b o e n, fun b o e _ => ?_, ub.tups, ub.frzs, ub.tbls⟩ (hok.kept gB) ag fun _ z => nomatch z
    by_cases hb : b ∈ frs X.stack
    · exact (sl b o e hb).elim fun _ q => ⟨_, q⟩
    · exact (ub.there b o e hb).elim fun o' q => ⟨o', gB b o' q⟩
  exact ⟨a, B, _, pins, σ, H', cls, d, rfl, J, gn, Heap.UpToSlots.of_keeps gh, fl, na, os, ag, hW _ _ _ hE⟩
/-- what a callee may let out is taken -/
theorem TakF.passes {X : Cx} {W : WX} {E : XK} (t : TakF X W) (hW : ∀ cls d σ H, E cls d H → W cls d σ H) : Passes (L2.CX X.prog X.w) X E := fun _ σ _ _ e s' I c => t e s' (XFl.of_call I (fun cls d H' h => hW cls d σ H' h) c)

/-- an exception leaves the generator's frame into the consumer's air -/
theorem gx_leave {X : Cx} {pins : List (Addr × Obj)} {σ : L2.St} {H4 : Hp} {s4 : Shared} {Aw : Around} {fp : List Addr} {cenv : Env} {xe : Value → Shared → Prop} {pn : List (Addr × Obj)} {W : WX} {Wg : WX} {E₁ : Value → Shared → Prop}
    (I4 : Inv X pins σ H4 s4) (hfp : ∀ b ∈ fp, FpOk X pins H4 b) (hf : cenv.frame = some cenv.locals) (hW : ∀ cls d σ' H, Wg cls d σ' H → W cls d σ H) {u : Value} {s' : Shared} (x : XE (gcx X Aw s4 H4 cenv fp pn xe) Wg u s') :
    wpAny (model X.prog X.w) (Aw.deeper cenv) (leaving cenv u) (fun _ s'' => XFl X W u s'' ∧ (∀ p ∈ pn, s''.heap.get? p.1 = some p.2) ∧ X.K.In s''.heap ∧ ∃ x oe cls d σ' H, u = .ref x ∧ s''.heap.get? x = some oe ∧ oe.cls = cls ∧ W cls d σ' H) E₁ s' := by
  obtain ⟨a, B, sI, pg, σg, H, cls, d, rfl, I, nb, up, sky, na, os, ag, w⟩ := x
  have hfr : (Aw.deeper cenv).frames = some (cenv :: X.stack) := I.ok.frames
  have J : Inv X pins σ H sI := gx_back I4 hfp I
  have pinB : ∀ p ∈ pn, B.get? p.1 = some p.2 := fun p hp => by
    obtain ⟨h1, _, h3, h4, _⟩ := I.pin p (List.mem_append_left _ hp)
    refine nb p.1 p.2 h1 fun hm => ?_
    rcases List.mem_cons.mp (I.stkSub p.1 hm) with z | z
    · exact h3 z
    · exact h4 z
  have nst : ∀ b o, s4.heap.get? b = some o → b ∉ frs X.stack → b ∉ frs (cenv :: X.stack) := fun b o e hb hm => by
    rcases List.mem_cons.mp (I.stkSub b hm) with z | z
    · have h1 := Heap.lt_size e
      have h2 : s4.heap.objs.size ≤ cenv.locals := I.ok.above
      have z : b = cenv.locals := z
      rw [z] at h1
      exact absurd (Nat.lt_of_lt_of_le h1 h2) (Nat.lt_irrefl _)
    · exact hb z
  have fin : ∀ h', HandSPX.FlyingZ B X.stack a (Zc cls d) h' → s'.heap.UpToSlots h' → (XFl X W (.ref a) { s' with heap := h' } ∧ (∀ p ∈ pn, ({ s' with heap := h' } : Shared).heap.get? p.1 = some p.2) ∧ X.K.In ({ s' with heap := h' } : Shared).heap ∧ ∃ x oe cls d σ' H, (Value.ref a) = .ref x ∧ ({ s' with heap := h' } : Shared).heap.get? x = some oe ∧ oe.cls = cls ∧ W cls d σ' H) := fun h' fl up' => by
    have st : B.StaysIn h' := fl.1
    obtain ⟨G, gB, gF, og, gn⟩ := ground_of (fs := frs X.stack) st
    have slot : ∀ b o, s4.heap.get? b = some o → b ∈ frs X.stack → b ∉ fp → ∃ sl, G.get? b = some { o with slots := sl } := fun b o e hb hx => by
      obtain ⟨_, o₀, e₀, hnf⟩ := I.ok.funs.mem hb
      have e₀ : s4.heap.get? b = some o₀ := e₀
      rw [e] at e₀; cases e₀
      obtain ⟨sl, e1⟩ := I.base.slot b o e (I.ok.frf b hb) hb hx
      obtain ⟨sl2, e2⟩ := up b _ e1 hnf
      obtain ⟨sl3, e3⟩ := up' b _ e2 hnf
      exact ⟨sl3, by rw [gF b hb]; exact e3⟩
    have J : Inv X pins σ H { sI with heap := G, gens := s'.gens, drawn := s'.drawn, toks := s'.toks } := by
      refine I4.call' (ch := fp) I.os ⟨fun b o e n hb hx => gB b o (nb b o (I.base.keep b o e n hb hx) (nst b o e hb)), fun b o e n hb hx => slot b o e hb hx, I.base.free, fun b o e hx => ?_, I.base.tups, I.base.frzs, I.base.tbls⟩
        ((I.inGround nb).kept gB) ag fun b hb => ⟨(hfp b hb).2.2.2.1, (hfp b hb).2.1, (hfp b hb).2.2.2.2.1, (hfp b hb).2.2.2.2.2⟩
      by_cases hb : b ∈ frs X.stack
      · obtain ⟨sl, q⟩ := slot b o e hb hx
        exact ⟨_, q⟩
      · obtain ⟨o', q⟩ := I.base.there b o e hx
        exact ⟨o', gB b o' (nb b o' q (nst b o e hb))⟩
    refine ⟨⟨a, B, _, pins, σ, H, cls, d, rfl, J, gn, Heap.UpToSlots.of_keeps og, fl, na, os, ag, hW _ _ _ _ w⟩, fun p hp => fl.1 p.1 p.2 (pinB p hp), ?_, ?_⟩
    · refine I4.ok.mod.kin.keeps fun b o eb => st b o (nb b o (I.bs b o eb).1 fun hm => ?_)
      rcases List.mem_cons.mp (I.stkSub b hm) with z | z
      · have z : b = cenv.locals := z
        have h1 := Heap.lt_size eb
        have h2 := Nat.le_trans I4.ok.bsz I4.sz
        have h3 : s4.heap.objs.size ≤ cenv.locals := I.ok.above
        rw [z] at h1
        exact absurd (Nat.lt_of_lt_of_le h1 (Nat.le_trans h2 h3)) (Nat.lt_irrefl _)
      · exact I.ok.nofr eb z
    · obtain ⟨oe, vs, he, hz, hd⟩ := fl.there
      exact ⟨a, oe, cls, d, σ, H, rfl, he, hz.1, hW _ _ _ _ w⟩
  rcases sky with ⟨hB, hn, hl, oe, vs, he, hz, hd, h1⟩ | fl | hd
  · exact HandSPX.leaving_firstZ Zc.steady hfr hl hf he hB hn hd h1 hz fin
  · exact HandSPX.leaves_onZ Zc.steady hfr hf fl fin
  · exact HandSPX.leaves_heldZ hf hd fin
end MX
end
section
set_option maxRecDepth 100000
set_option maxHeartbeats 2000000
namespace MX
open PySem PySem.Spec PyProof.Rows L2 GenW

/-- while it sleeps only the consumer's own objects change -/
structure SleptC (cp : List Addr) (s s' : Shared) : Prop where
  os : s'.os = s.os
  bare : AllBare s'.gens
  keep : ∀ b o, b ∉ cp → s.heap.get? b = some o → s'.heap.get? b = some o
  own : ∀ b ∈ cp, ∃ o, s'.heap.get? b = some o ∧ ∀ v, o.data ≠ .cell v
/-- consumer's objects: untracked, none of the frame's -/
def CpOk (Xg : Cx) (cp : List Addr) : Prop := ∀ b ∈ cp, Xg.s_0.heap.objs.size ≤ b ∧ b ≠ Xg.env.locals ∧ (∀ x c, Xg.env.cells.lookup x = some c → c ≠ b) ∧ (∀ p ∈ Xg.pn, p.1 ≠ b)
def Kept (cp : List Addr) (s₀ s : Shared) (H : Hp) : Prop := ∀ b ∈ cp, H b = none ∧ ∀ o, s₀.heap.get? b = some o → s.heap.get? b = some o
theorem Kept.refl {cp : List Addr} {s : Shared} {H : Hp} (h : ∀ b ∈ cp, H b = none) : Kept cp s s H := fun b hb => ⟨h b hb, fun _ e => e⟩
section
variable {Xg : Cx} {pins : List (Addr × Obj)} {σ : L2.St} {H : Hp} {s s' : Shared}
theorem woken {cp : List Addr} (hcp : CpOk Xg cp) (I : Inv Xg [] σ H s) (hH : ∀ b ∈ cp, H b = none) (z : SleptC cp s s') : Inv Xg [] σ H s' := by
  obtain ⟨z1, z2, z3, z4⟩ := z
  have nt : ∀ b u, H b = some u → b ∉ cp := fun b u q hb => by rw [hH b hb] at q; cases q
  obtain ⟨hh, g, d, t, o⟩ := s'
  have ho : o = s.os := z1
  subst ho
  refine I.step (g' := g) (t' := t) (d' := d) (ch := cp) (fun b hb => ?_) (fun b ob _ _ hc q _ => z3 b ob hc q) (fun b ob _ _ hc q _ => ⟨ob.slots, z3 b ob hc q⟩) (fun _ _ _ _ n => n) (fun b ob hc q => ⟨ob, z3 b ob hc q⟩)
    (fun _ _ q => q) (fun _ _ _ q => q) (fun b ps q => ⟨#[], by rw [q]; simp⟩) (fun m hm => ?_) (fun b u q => ?_) z2
  · obtain ⟨h1, h2, h3, h4⟩ := hcp b hb
    exact ⟨.inr h1, h2, h3, fun p hp => by rw [List.append_nil] at hp; exact h4 p hp⟩
  · obtain ⟨ob, es, ep, ho, r⟩ := hm
    exact ⟨ob, es, ep, z3 _ ob (fun hb => (hcp _ hb).2.1 rfl) ho, r⟩
  · refine (I.hok b u q).stay (fun c v hc y => z3 c v ?_ y) (fun _ y => y) fun _ _ y => y
    rcases hc with y | y
    · rw [y]; exact nt b u q
    · exact nt c _ y
/-- the consumer's objects as pins -/
theorem pinC {cp : List Addr} (hcp : CpOk Xg cp) (hfs : ∀ b ∈ cp, b ∉ Xg.fs) (I : Inv Xg [] σ H s) (hH : ∀ b ∈ cp, H b = none) (ho : ∀ b ∈ cp, ∃ o, s.heap.get? b = some o ∧ ∀ v, o.data ≠ .cell v) : Inv Xg (pinsAt cp s.heap) σ H s :=
  I.pins_of fun p hp => by
    obtain ⟨hb, e⟩ := of_pinsAt hp
    obtain ⟨h1, h2, h3, h4⟩ := hcp p.1 hb
    obtain ⟨o, e', hd⟩ := ho p.1 hb
    rw [e] at e'; cases e'
    exact ⟨e, hH p.1 hb, h2, hfs p.1 hb, hd⟩
end

/-- the protocol of a generator expression; L: the most that it hands out -/
def gYp {α : Type} (ct : Heap → α) (Xg : Cx) (σw : L2.St) (fp cp : List Addr) (tn : Nat → Heap → Prop) (W : α → Nat → Nat → Nat → Hp → Prop) (Yd : α → Nat → Nat → Nat → V → Hp → Prop) (L : Nat) : Protocol := fun n s₀ v s kap =>
  ∃ k y H i m, k + (n + 1) = L ∧ k + 1 < L ∧ RelV y v ∧ Yd (ct s₀.heap) k i m y H ∧ Inv Xg [] σw H s ∧ tn i s.heap ∧ (∀ b ∈ fp, H b = none) ∧ Kept cp s₀ s H ∧ ∀ s'', SleptC cp s s'' → W (ct s''.heap) (k + 1) i m H → kap (.send .none) s''
def gFp {α : Type} (ct : Heap → α) (Xg : Cx) (σw : L2.St) (cp : List Addr) (Fin : α → Nat → Hp → Prop) (L : Nat) : Nat → Shared → Shared → Prop := fun n s₀ s1 =>
  ∃ k H, k + n = L ∧ Inv Xg [] σw H s1 ∧ Fin (ct s₀.heap) k H ∧ Kept cp s₀ s1 H

theorem seg_leaveX {M : Model} {A : Around} {R : GenEnd} {Y : Protocol} {n : Nat} {s₀ s : Shared} {c : Code} {env : Env} {x : Value}
    (h : wpAny M (A.over c []) (leaving env x) (fun _ s' => R n s₀ (.error x) s') (fun y s' => R n s₀ (.error y) s') s) :
    Seg M A R Y n s₀ c ((leaving env x).bind fun _ => (.raise x : Sem PySem.Fin)) [] s := by
  rw [Sem.bind_eq_wrap]
  exact seg_wrap (wpAny_mono h (fun _ s' h' => seg_end (.error x) h') fun y s' h' => seg_end (.error y) h')

section
variable {Xg : Cx} {Aw : Around} {σ : L2.St} {vs : List Nat} {fp cp : List Addr} {it : Addr} {J : It} {tn : Nat → Heap → Prop} {α : Type} {ct : Heap → α} {W : α → Nat → Nat → Nat → Hp → Prop} {Yd : α → Nat → Nat → Nat → V → Hp → Prop} {Fin : α → Nat → Hp → Prop} {Er : Value → Shared → Prop} {L : Nat}
  {elt tg iter : Expr} {ifs : List Expr} {scope : Scope} {pos : Pos} {g : TG} {tt : TT} {te : TE}
theorem seg_gloop (hA : Xg.A = Aw.deeper Xg.env) (hc : Xg.calm = true) (hco : Xg.env.scope.isCoroutine = false) (T : Turn Xg.prog Xg.w Xg.K tg J fp it tn) (hcp : CpOk Xg cp) (hcf : ∀ b ∈ cp, b ∉ fp) (hcs : ∀ b ∈ cp, b ∉ Xg.fs)
    (stat : ∀ b ∈ fp, b ≠ Xg.env.locals ∧ b ∉ Xg.fs ∧ (b ∈ Xg.ex ∨ Xg.s_0.heap.objs.size ≤ b) ∧ (∀ x c, Xg.env.cells.lookup x = some c → c ≠ b) ∧ ∀ p ∈ Xg.pn, p.1 ≠ b)
    (pg : PG Xg tg g) (pt : PTs Xg ifs tt) (pe : PE Xg elt te)
    (hxe : ∀ x s', Xg.xe x s' → wpAny (model Xg.prog Xg.w) Xg.A (leaving Xg.env x) (fun _ s'' => Er x s'') (fun y s'' => Er y s'') s')
    (turn : ∀ c k i m H, W c k i m H → (J.stop i H ∧ Fin c k H) ∨ (J.go i H ∧ ∀ x H', J.yld i H x H' → g x (wipe σ vs) H' fun σ2 H2 => wipe σ2 vs = wipe σ vs ∧ tt σ2 H2 fun b H3 =>
      if b = true then te σ2 H3 fun y H4 => k + 1 < L ∧ ∃ m', m' < m ∧ Yd c k (i + 1) m' y H4 else ∃ m', m' < m ∧ W c k (i + 1) m' H3)) :
    ∀ (m k n i : Nat) (s₀ s : Shared) (H : Hp), k + n = L → Inv Xg (pinsAt cp s.heap) (wipe σ vs) H s → tn i s.heap → (∀ b ∈ fp, H b = none) → W (ct s₀.heap) k i m H → Kept cp s₀ s H → (∀ b ∈ cp, ∃ o, s.heap.get? b = some o ∧ ∀ v, o.data ≠ .cell v) →
      Seg (model Xg.prog Xg.w) Aw (fun n s₀ r s₁ => ((r = .ok (.ret .none) ∨ r = .ok .next) ∧ gFp ct Xg (wipe σ vs) cp Fin L n s₀ s₁) ∨ ∃ e, r = .error e ∧ Er e s₁) (gYp ct Xg (wipe σ vs) fp cp tn W Yd L) n s₀
        (.compLoop (.GeneratorExp elt [⟨tg, iter, ifs, 0⟩] scope pos) 0 (.ref it) .none Xg.env)
        ((model Xg.prog Xg.w).den (.compLoop (.GeneratorExp elt [⟨tg, iter, ifs, 0⟩] scope pos) 0 (.ref it) .none Xg.env)) [] s := by
  intro m
  induction m using Nat.strongRecOn with
  | ind m ih =>
    intro k n i s₀ s H hkn I st nf w hk ho
    have over : Aw.over (.compLoop (.GeneratorExp elt [⟨tg, iter, ifs, 0⟩] scope pos) 0 (.ref it) .none Xg.env) [] = Xg.A := by rw [hA]; exact over_gloop
    -- an exception
    have ex : ∀ x s', Xg.xe x s' → Seg (model Xg.prog Xg.w) Aw (fun n s₀ r s₁ => ((r = .ok (.ret .none) ∨ r = .ok .next) ∧ gFp ct Xg (wipe σ vs) cp Fin L n s₀ s₁) ∨ ∃ e, r = .error e ∧ Er e s₁) (gYp ct Xg (wipe σ vs) fp cp tn W Yd L) n s₀
        (.compLoop (.GeneratorExp elt [⟨tg, iter, ifs, 0⟩] scope pos) 0 (.ref it) .none Xg.env) ((leaving Xg.env x).bind fun _ => (.raise x : Sem PySem.Fin)) [] s' := fun x s' hx => by
      refine seg_leaveX ?_
      rw [over]
      exact wpAny_mono (hxe x s' hx) (fun _ s'' h => .inr ⟨x, rfl, h⟩) fun y s'' h => .inr ⟨y, rfl, h⟩
    -- the pins of the consumer
    have pinned : ∀ {pl : List (Addr × Obj)} {σ' : L2.St} {H' : Hp} {s' : Shared}, Inv Xg (pinsAt cp s.heap ++ pl) σ' H' s' → Kept cp s s' H' := fun {pl σ' H' s'} I' b hb => by
      have key : ∀ o, s.heap.get? b = some o → s'.heap.get? b = some o ∧ H' b = none := fun o e =>
        let z := I'.pin (b, o) (List.mem_append_right _ (List.mem_append_left _ (mem_pinsAt hb e)))
        ⟨z.1, z.2.1⟩
      obtain ⟨o, e, _⟩ := ho b hb
      exact ⟨(key o e).2, fun o' e' => (key o' e').1⟩
    have keep2 : ∀ {s' : Shared} {H' : Hp}, Kept cp s s' H' → Kept cp s₀ s' H' := fun {s' H'} q b hb => ⟨(q b hb).1, fun o e => (q b hb).2 o ((hk b hb).2 o e)⟩
    have ho2 : ∀ {s' : Shared} {H' : Hp}, Kept cp s s' H' → ∀ b ∈ cp, ∃ o, s'.heap.get? b = some o ∧ ∀ v, o.data ≠ .cell v := fun {s' H'} q b hb => by
      obtain ⟨o, e, d⟩ := ho b hb
      exact ⟨o, (q b hb).2 o e, d⟩
    have statF : ∀ {σ' : L2.St} {H' : Hp} {s' : Shared}, (∀ b ∈ fp, H' b = none) → ∀ b ∈ fp, FpOk Xg (pinsAt cp s.heap) H' b := fun {σ' H' s'} hn b hb => by
      obtain ⟨h1, h2, h3, h4, h5⟩ := stat b hb
      refine ⟨hn b hb, h1, h2, h3, h4, fun p hp => ?_⟩
      rcases List.mem_append.mp hp with hp | hp
      · exact h5 p hp
      · intro z
        exact hcf p.1 (of_pinsAt hp).1 (by rw [z]; exact hb)
    show Seg _ Aw _ _ _ s₀ _ ((compTurn (.GeneratorExp elt [⟨tg, iter, ifs, 0⟩] scope pos) 0 (.ref it) .none Xg.env).onRaise (leaving Xg.env)) [] s
    rw [compTurn_gen, Sem.onRaise_eq_wrap]
    refine seg_bind_wrap (wpAny_standAt ?_)
    rcases turn _ k i m H w with ⟨stop, fin⟩ | ⟨go, step⟩
    · refine seg_bind_wrap ?_
      rw [over]
      refine thnF (T.done Xg rfl rfl rfl hc i _ s _ H (fun _ _ => False) I (statF (s' := s) (σ' := σ) nf) st stop) fun r s6 ⟨hr, I6⟩ => ?_
      subst hr
      refine seg_end (.ok .next) (.inl ⟨.inr rfl, k, H, hkn, ?_, fin, ?_⟩)
      · exact I6.pins_of fun p hp => absurd hp (by simp)
      · exact keep2 (pinned (pl := []) (by rw [List.append_nil]; exact I6))
    · refine seg_bind_wrap ?_
      rw [over]
      refine thnF (T.item Xg rfl rfl rfl hc i _ s _ H (fun _ _ => False) I (statF (s' := s) (σ' := σ) nf) st go) fun r s6 ⟨u, hr, h6⟩ => ?_
      subst hr
      refine seg_bind_wrap ?_
      rw [over]
      refine thnF h6 fun _ s7 ⟨x, H7, I7, r7, y7, st7, n7⟩ => ?_
      have I7' := I7.pinned (statF (s' := s7) (σ' := σ) n7) (T.obj _ _ st7)
      refine seg_bind_wrap ?_
      rw [over]
      refine wpAny_mono (pg.run _ s7 _ H7 x u _ I7' r7 (step x H7 y7)) (fun _ s8 ⟨σ8, H8, I8, hw8, q8⟩ => ?_) fun y s' h' => ex y s' h'
      refine seg_bind_wrap ?_
      rw [over]
      refine wpAny_mono (pt.run _ s8 σ8 H8 _ I8 q8) (fun b s9 ⟨H9, I9, q9⟩ => ?_) fun y s' h' => ex y s' h'
      -- the turn's end
      have fin : ∀ {s' : Shared} {H' : Hp}, Inv Xg (pinsAt cp s.heap ++ pinsAt fp s7.heap) σ8 H' s' → Inv Xg [] (wipe σ vs) H' s' ∧ tn (i + 1) s'.heap ∧ (∀ b ∈ fp, H' b = none) ∧ Kept cp s s' H' := fun {s' H'} I' => by
        have pin' : ∀ b ∈ fp, ∀ o, s7.heap.get? b = some o → s'.heap.get? b = some o ∧ H' b = none := fun b hb o e =>
          let z := I'.pin (b, o) (List.mem_append_right _ (List.mem_append_right _ (mem_pinsAt hb e)))
          ⟨z.1, z.2.1⟩
        have hl : (wipe σ vs).length = σ8.length := by rw [← hw8, wipe_length]
        refine ⟨(I'.pins_of fun p hp => absurd hp (by simp)).weak hl fun j v e => ?_, T.keep _ _ _ st7 fun b hb o e => (pin' b hb o e).1, fun b hb => ?_, pinned I'⟩
        · rw [← hw8] at e
          exact (wipe_some e).1
        · obtain ⟨o, e, _⟩ := T.obj _ _ st7 b hb
          exact (pin' b hb o e).2
      cases b with
      | false =>
        simp only [Bool.false_eq_true, if_false] at q9 ⊢
        obtain ⟨m', hm, w'⟩ := q9
        obtain ⟨J1, J2, J3, J4⟩ := fin I9
        exact seg_again rfl (ih m' hm k n (i + 1) s₀ s9 H9 hkn (pinC hcp hcs J1 (fun b hb => (J4 b hb).1) (ho2 J4)) J2 J3 w' (keep2 J4) (ho2 J4))
      | true =>
        simp only [if_true] at q9 ⊢
        have hy : ∀ v, yieldOut Xg.env v = yieldValue v := fun v => by simp only [yieldOut, hco, Bool.false_eq_true, if_false]
        simp only [hy]
        rw [Sem.bind_eq_wrap', Sem.bind_eq_wrap', Sem.wrap_wrap, Sem.wrap_wrap]
        refine seg_wrap ?_
        rw [over]
        refine wpAny_mono (pe.run _ s9 σ8 H9 _ I9 q9) (fun v s10 ⟨y, H10, I10, r10, hlt, m', hm, yd⟩ => ?_) fun y s' h' => ex y s' h'
        obtain ⟨n, rfl⟩ : ∃ n', n = n' + 1 := ⟨n - 1, by omega⟩
        obtain ⟨J1, J2, J3, J4⟩ := fin I10
        refine seg_at (seg_yield rfl rfl rfl ⟨k, y, H10, i + 1, m', hkn, hlt, r10, yd, J1, J2, J3, keep2 J4, fun s'' z w' => ?_⟩)
        have hH : ∀ b ∈ cp, H10 b = none := fun b hb => (J4 b hb).1
        have I'' := woken hcp J1 hH z
        exact seg_again rfl (ih m' hm (k + 1) n (i + 1) s'' s'' H10 (by omega) (pinC hcp hcs I'' hH z.own) (T.keep _ _ _ J2 fun b hb o e => z.keep b o (fun hc' => hcf b hc' hb) e) J3 w' (Kept.refl hH) z.own)
end
end MX
end
section
set_option maxRecDepth 100000
set_option maxHeartbeats 2000000
namespace MX
open PySem PySem.Spec PyProof.Rows L2 GenW

abbrev gR {α : Type} (ct : Heap → α) (Xg : Cx) (σw : L2.St) (cp : List Addr) (Fin : α → Nat → Hp → Prop) (Er : Value → Shared → Prop) (L : Nat) : GenEnd := fun n s₀ r s₁ => ((r = .ok (.ret .none) ∨ r = .ok .next) ∧ gFp ct Xg σw cp Fin L n s₀ s₁) ∨ ∃ e, r = .error e ∧ Er e s₁
/-- the generator sleeps behind k items -/
structure GAt {α : Type} (ct : Heap → α) (Xg : Cx) (Aw : Around) (σw : L2.St) (fp cp : List Addr) (tn : Nat → Heap → Prop) (W : α → Nat → Nat → Nat → Hp → Prop) (Yd : α → Nat → Nat → Nat → V → Hp → Prop) (Fin : α → Nat → Hp → Prop) (Er : Value → Shared → Prop) (L : Nat) (a : Addr) (g : Nat) (k i m : Nat) (H : Hp) (s : Shared) : Prop where
  kL : k < L
  inv : Inv Xg [] σw H s
  nfp : ∀ b ∈ fp, H b = none
  ncp : ∀ b ∈ cp, H b = none
  isg : s.heap.IsGen a g
  go : ∃ gs, s.gens[g]? = some gs ∧ gs.bare = true ∧ ∀ n s'', k + n = L → SleptC cp s s'' → W (ct s''.heap) k i m H → gs.Goes (model Xg.prog Xg.w) Aw (gR ct Xg σw cp Fin Er L) (gYp ct Xg σw fp cp tn W Yd L) n (.send .none) s''

section
variable {Xg : Cx} {A Aw : Around} {σw : L2.St} {fp cp : List Addr} {tn : Nat → Heap → Prop} {α : Type} {ct : Heap → α} {W : α → Nat → Nat → Nat → Hp → Prop} {Yd : α → Nat → Nat → Nat → V → Hp → Prop} {Fin : α → Nat → Hp → Prop} {Er : Value → Shared → Prop} {L : Nat} {a : Addr} {g k i m : Nat} {H : Hp} {s : Shared}
theorem GAt.slept {s' : Shared} (hcp : CpOk Xg cp) (hac : a ∉ cp) (G : GAt ct Xg Aw σw fp cp tn W Yd Fin Er L a g k i m H s) (hg : s'.gens[g]? = s.gens[g]?) (z : SleptC cp s s') : GAt ct Xg Aw σw fp cp tn W Yd Fin Er L a g k i m H s' := by
  obtain ⟨h1, h2, h3, h4, ⟨o, nm, qn, ho, hr⟩, gs, h6, h7, h8⟩ := G
  refine ⟨h1, woken hcp h2 h4 z, h3, h4, ⟨o, nm, qn, z.keep a o hac ho, hr⟩, gs, hg.trans h6, h7, fun n s'' hn z2 w => h8 n s'' hn ⟨z2.os.trans z.os, z2.bare, fun b o hb e => z2.keep b o hb (z.keep b o hb e), z2.own⟩ w⟩

theorem gx_next {Q : Option Value → Shared → Prop} {E : Value → Shared → Prop} (hA : Aw = A.in1) (hh : A.handled = none) (hroom : A.depth < recursionLimit) (hcp : CpOk Xg cp) (hac : a ∉ cp)
    (G : GAt ct Xg Aw σw fp cp tn W Yd Fin Er L a g k i m H s) (w : W (ct s.heap) k i m H) (hpn : ∃ go, (a, go) ∈ Xg.pn) (ho : ∀ b ∈ cp, ∃ o, s.heap.get? b = some o ∧ ∀ v, o.data ≠ .cell v)
    (hY : ∀ y v H' s' i' m', RelV y v → Yd (ct s.heap) k i' m' y H' → GAt ct Xg Aw σw fp cp tn W Yd Fin Er L a g (k + 1) i' m' H' s' → Kept cp s s' H' → k + 1 < L → Q (some v) s')
    (hF : ∀ H' s', Inv Xg [] σw H' s' → Fin (ct s.heap) k H' → Kept cp s s' H' → Q none s')
    (hE : ∀ e s', Er e s' → s'.heap.IsGen a g ∧ NotStop (model Xg.prog Xg.w) e s'.heap ∧ E e (s'.setGen g .finished)) :
    wpAny (model Xg.prog Xg.w) A (pyNext (.ref a)) Q E s := by
  subst hA
  obtain ⟨hk, I, nfp, ncp, isg, gs, hgs, hb, hgo⟩ := G
  have hlt : g < s.gens.size := by
    obtain ⟨h, _⟩ := Array.getElem?_eq_some_iff.mp hgs
    exact h
  obtain ⟨n, hn⟩ : ∃ n, k + (n + 1) = L := ⟨L - k - 1, by omega⟩
  have z0 : SleptC cp s (s.setGen g .running) := ⟨rfl, allBare_setGen I.bare rfl, fun _ _ _ e => e, ho⟩
  have aL : ∀ {H' : Hp} {s' : Shared}, Inv Xg [] σw H' s' → s'.heap.IsGen a g := fun {H' s'} I' => by
    obtain ⟨go, hgo⟩ := hpn
    have e := (I'.pin (a, go) (List.mem_append_left _ hgo)).1
    have e0 := (I.pin (a, go) (List.mem_append_left _ hgo)).1
    obtain ⟨o, nm, qn, h1, h2⟩ := isg
    rw [h1] at e0
    have e0 := Option.some.inj e0
    subst e0
    exact ⟨o, nm, qn, e, h2⟩
  refine wpAny_gsz (n := s.gens.size) (Nat.le_refl _) ?_
  refine next_genG (n := n + 1) (F := gFp ct Xg σw cp Fin L) (Er := Er) (Y := gYp ct Xg σw fp cp tn W Yd L) hh I.nolimit hroom isg hgs (hgo (n + 1) _ hn z0 w) (fun v s₁ gs' hb' hy hsz => ?_) (fun s₁ hf h' hk' hsz => ?_) fun e s₁ he => ?_
  · obtain ⟨k', y, H', i, m, e1, hk1, rv, yd, I', st, nf, kp, kap⟩ := hy
    have ek : k' = k := by omega
    subst ek
    have kp' : Kept cp s s₁ H' := fun b hb => ⟨(kp b hb).1, fun o e => (kp b hb).2 o e⟩
    have ho' : ∀ b ∈ cp, ∃ o, s₁.heap.get? b = some o ∧ ∀ v, o.data ≠ .cell v := fun b hb => by
      obtain ⟨o, e, d⟩ := ho b hb
      exact ⟨o, (kp b hb).2 o e, d⟩
    have nc : ∀ b ∈ cp, H' b = none := fun b hb => (kp b hb).1
    have hsz : s.gens.size ≤ (s₁.setGen g gs').gens.size := hsz
    rw [setGen_size] at hsz
    have z1 : SleptC cp s₁ (s₁.setGen g gs') := ⟨rfl, allBare_setGen I'.bare hb', fun _ _ _ e => e, ho'⟩
    have I2 := woken hcp I' nc z1
    refine hY y v H' _ i m rv yd ⟨hk1, I2, nf, nc, aL I2, gs', setGen_at (Nat.lt_of_lt_of_le hlt hsz), hb', fun n' s'' hn' z w => ?_⟩ kp' hk1
    have en : n' = n := by omega
    subst en
    exact kap s'' ⟨z.os, z.bare, fun b o hb e => z.keep b o hb e, z.own⟩ w
  · obtain ⟨k', H', e1, I', fin, kp⟩ := hf
    have ek : k' = k := by omega
    subst ek
    have kp' : Kept cp s { s₁.setGen g .finished with heap := h' } H' := fun b hb => ⟨(kp b hb).1, fun o e => hk' b o ((kp b hb).2 o e)⟩
    refine hF H' _ ?_ fin kp'
    have I2 : Inv Xg [] σw H' { s₁ with heap := h', gens := (s₁.setGen g .finished).gens, toks := s₁.toks, drawn := s₁.drawn } :=
      I'.call' (ch := []) rfl (Un.kept hk') (I'.hok.kept hk') (allBare_setGen I'.bare rfl) fun b z => by simp at z
    exact I2
  · obtain ⟨h1, h2, h3⟩ := hE e s₁ he
    exact ⟨h1, h2, fun _ => h3⟩
end
end MX
end
section
set_option maxRecDepth 100000
set_option maxHeartbeats 2000000
namespace MX
open PySem PySem.Spec PyProof.Rows L2 GenW GxR

theorem compSt_eq {prog : Program} {w : World} {elt tg iter : Expr} {ifs : List Expr} {scope : Scope} {pos : Pos} {it : Value} {env : Env} :
    (model prog w).den (.compStart (.GeneratorExp elt [⟨tg, iter, ifs, 0⟩] scope pos) 0 it .none env) = (compStart (.GeneratorExp elt [⟨tg, iter, ifs, 0⟩] scope pos) 0 it .none env).onRaise (leaving env) := rfl

section
variable {X : Cx} {pins : List (Addr × Obj)} {σ : L2.St} {H : Hp} {s : Shared}
/-- what stands behind the making of a generator expression -/
structure GMk (X : Cx) (pins : List (Addr × Obj)) (σ : L2.St) (P : Addr) (elt tg iter : Expr) (ifs : List Expr) (scope : Scope) (gpos : Pos) (own : List (Str × Nat)) (J : It) (H2 : Hp) (a : Addr) (s5 : Shared) (it : Addr) (fp : List Addr) (tn : Nat → Heap → Prop) (H4 : Hp) (s4 : Shared) (code : Value) (go : Obj) (g : Nat) : Prop where
  inv : Inv X pins σ H4 s4
  turn : Turn X.prog X.w X.K tg J fp it tn
  fpok : ∀ b ∈ fp, FpOk X pins H4 b
  fsz : ∀ b ∈ fp, b < s4.heap.objs.size
  tab : Tabbed P H2 H4
  st : tn 0 s5.heap
  isg : s5.heap.IsGen a g
  gob : s5.heap.get? a = some go
  gen : s5.gens[g]? = some (.fresh (.compStart (.GeneratorExp elt [⟨tg, iter, ifs, 0⟩] scope gpos) 0 (.ref it) .none (gEnv X scope s4.heap.objs.size code)))
  young : s4.heap.objs.size < a ∧ a < s5.heap.objs.size
  started : ∀ (Aw : Around) (xe : Value → Shared → Prop), Aw.handled = none → Aw.frames = some X.stack → Inv (gcx X Aw s4 H4 (gEnv X scope s4.heap.objs.size code) fp [(a, go)] xe) [] (wipe σ (own.map (·.2))) H4 s5

theorem gx_make {c P : Addr} {elt tg iter : Expr} {ifs : List Expr} {gpos : Pos} {scope : Scope} {own : List (Str × Nat)} {wi : TI} {k : Nat} {Q' : Value → Shared → Prop} {R : It → Hp → Prop}
    (hr : Room k X.A) (hN : X.N.Nodup) (TB : TabB X.base X.mg c P) (hcode : X.env.code = .ref c) (S : GScp X.N X.env.scope scope own) (hi : PI X tg iter wi)
    (hs : ∀ v, genFold iter X.env v = pure v) (I : Inv X pins σ H s) (h : wi σ H fun J H1 => TabG H1 P ∧ R J H1)
    (hQ : ∀ J H2 a s5 it fp tn H4 s4 code go g, R J H2 → GMk X pins σ P elt tg iter ifs scope gpos own J H2 a s5 it fp tn H4 s4 code go g → Q' (.ref a) s5) :
    wpAny (model X.prog X.w) X.A (eval (.GeneratorExp elt [⟨tg, iter, ifs, 0⟩] scope gpos) X.env) Q' X.xe s := by
  have hfree : ∀ y ∈ scope.names, y.2 = .free → ∃ c, X.env.cells.lookup y.1 = some c := fun y hy e => by
    rcases S.free y hy e with k | k
    · exact I.ok.has _ (.inl k)
    · exact I.ok.has _ (.inr k)
  refine wpAny_GeneratorExp_make S.co (closure_ok hfree) S.nocell S.dot S.kind (by have := hr.dp; omega) ?_ hs
  refine thn (hi.run pins s σ H _ I h) fun xv s1 hx => thn hx fun itv s2 h2 => ?_
  obtain ⟨it, fp, tn, J, H2, e, I2, T, st2, f2, ⟨ps, hP, ht⟩, q⟩ := h2
  subst e
  have hP2 : s2.heap.get? P = some { cls := .none, data := .fields ps } := I2.hok P _ hP
  have cd : PySem.W.CodeHd s2.heap c P := TB.code.keeps fun b u e => I2.bk b u e
  have sz : ∀ b ∈ fp, b < s2.heap.objs.size := fun b hb => by
    obtain ⟨o, e, _⟩ := T.obj _ _ st2 b hb
    exact Heap.lt_size e
  have fne : ∀ b ∈ fp, b ≠ P := fun b hb z => by
    have e := (f2 b hb).1
    rw [z, hP] at e
    cases e
  have cont : ∀ (code : Value) (h3 : Heap) (tk : Nat) (ps' : Array Value), Heap.ExtBut P s2.heap h3 → s2.heap.objs.size ≤ h3.objs.size → h3.get? P = some { cls := .none, data := .fields ps' } → (∃ more, ps' = ps ++ more) → TriplesOk ps'.toList →
      wpAny (model X.prog X.w) X.A (builtinsFor X.env.globals X.env.builtins) (fun bi s₄ =>
        ∀ h', h'.Ns s₄.heap.objs.size (fun y => if y = ".0" then some (.ref it) else none) → Heap.SameBut s₄.heap.objs.size (s₄.heap.push { cls := .type "frame", data := .dict #[] }) h' →
          Q' (.ref h'.objs.size) { s₄ with
            gens := s₄.gens.push (.fresh (.compStart (.GeneratorExp elt [⟨tg, iter, ifs, 0⟩] scope gpos) 0 (.ref it) .none (genEnv scope (cloFrom X.env.cells scope.names []) s₄.heap.objs.size code bi X.env))),
            toks := s₄.toks + 1 + 1 + 1,
            heap := h'.push { cls := .type "generator", data := .fields #[.int s₄.gens.size 0, .str "<genexpr>" (s₄.toks + 1), .str (X.env.qual ++ "<genexpr>") (s₄.toks + 1 + 1)] } }) X.xe { s2 with heap := h3, toks := tk } := by
    intro code h3 tk ps' hx hsz hP3 hmore ht3
    obtain ⟨bm, ob, e1, e2, e3, e4, e5, e6, e7, e8⟩ := TB.bm
    have keep3 : ∀ b u, b ≠ P → s2.heap.get? b = some u → h3.get? b = some u := fun b u hb e => hx b u hb e
    refine wpAny_builtinsFor (m := X.mg) (by rw [I2.ok.glob]; exact ((I2.mod.glob.keeps I2.bk)).extBut hx TB.gP) e1 e2 (keep3 _ _ e4 (I2.bk _ _ e5)) e6 e7 e8 ?_
    obtain ⟨more, em⟩ := hmore
    intro h' hn' hs'
    have I4 : Inv X pins σ (upd H2 P (.tbl (ps ++ more))) { s2 with heap := h3, toks := tk } :=
      inv_tab (more := more) (h' := h3) (g' := s2.gens) (d' := s2.drawn) (t' := tk) I2 hP keep3 (by rw [← em]; exact hP3) I2.bare
    have f4 : ∀ b ∈ fp, FpOk X pins (upd H2 P (.tbl (ps ++ more))) b := fun b hb => ⟨by rw [upd_ne (fne b hb)]; exact (f2 b hb).1, (f2 b hb).2⟩
    have sz4 : ∀ b ∈ fp, b < h3.objs.size := fun b hb => Nat.lt_of_lt_of_le (sz b hb) hsz
    have hsz' : h'.objs.size = h3.objs.size + 1 := by rw [hs'.1, Heap.size_push]
    have keep' : ∀ b o, h3.get? b = some o → h'.get? b = some o := fun b o e => hs'.extBut b o (Nat.ne_of_lt (Heap.lt_size e)) (Heap.get?_push_of_some _ e)
    have keep5 : ∀ (go : Obj) b o, h3.get? b = some o → (h'.push go).get? b = some o := fun go b o e => Heap.get?_push_of_some _ (keep' b o e)
    refine hQ J H2 _ _ it fp tn (upd H2 P (.tbl (ps ++ more))) _ code _ _ q ⟨I4, T, f4, sz4, ⟨⟨ps ++ more, upd_same, by rw [← em]; exact ht3⟩, fun b hb => upd_ne hb⟩, ?_, ⟨_, _, _, Heap.get?_push_size _ rfl, rfl, rfl, rfl⟩, Heap.get?_push_size _ rfl, Array.getElem?_push_size .., ⟨?_, ?_⟩, fun Aw xe hA hfr => ?_⟩
    · exact T.keep _ _ _ st2 fun b hb o e => keep5 _ b o (keep3 b o (fne b hb) e)
    · show h3.objs.size < h'.objs.size
      omega
    · show h'.objs.size < (h'.push _).objs.size
      rw [Heap.size_push]
      omega
    · refine gx_start I4 S hN hA hfr (fun b hb => ⟨f4 b hb, sz4 b hb⟩) (hn'.push _) (keep5 _) (AllBare.push I2.bare rfl) fun p hp => ?_
      rw [List.mem_singleton.mp hp]
      refine ⟨Heap.get?_push_size _ rfl, ?_, fun v z => by cases z⟩
      show h3.objs.size < h'.objs.size
      omega
  refine ⟨I2.nolimit, ?_⟩
  cases hf : codeAmong gpos ps.toList with
  | none =>
    refine wpAny_genexprCodeX hcode (cd.code hP2 ht) (cd.tab hP2) hf fun c' h' tk hx hge hlt hco' _ htab' _ => ?_
    obtain ⟨o1, vs, f1, tf, fl, tg, inF, tx, tt, op, _, _, _, _, _, _, _, _, _, htr, _⟩ := hco'
    exact cont _ h' tk _ hx (Nat.le_trans hge (Nat.le_of_lt hlt)) htab'.2 ⟨_, rfl⟩ htr
  | some cv =>
    refine wpAny_genexprCode_hit hcode (cd.code hP2 ht) hf ?_
    exact cont cv s2.heap s2.toks ps (Heap.ExtBut.refl _ _) (Nat.le_refl _) hP2 ⟨#[], by simp⟩ ht
end
end MX
end
section
set_option maxRecDepth 100000
set_option maxHeartbeats 2000000
namespace MX
open PySem PySem.Spec PyProof.Rows L2 GenW GxR

theorem hideT (a : Around) : a.in1.handled = a.handled := rfl
section
variable {X : Cx} {pins : List (Addr × Obj)} {σ : L2.St} {P : Addr} {elt tg iter : Expr} {ifs : List Expr} {scope : Scope} {gpos : Pos} {own : List (Str × Nat)} {J : It} {H2 : Hp} {a : Addr} {s5 : Shared} {it : Addr} {fp : List Addr} {tn : Nat → Heap → Prop} {H4 : Hp} {s4 : Shared} {code : Value} {go : Obj} {g : Nat}
  {Aw : Around} {cp : List Addr} {α : Type} {ct : Heap → α} {W : α → Nat → Nat → Nat → Hp → Prop} {Yd : α → Nat → Nat → Nat → V → Hp → Prop} {Fin : α → Nat → Hp → Prop} {L : Nat} {gg : TG} {tt : TT} {te : TE} {WX0 : WX}
/-- what an exception of the generator's code comes to in the consumer's builtin -/
def gEr (X : Cx) (W : WX) (a : Addr) (go : Obj) : Value → Shared → Prop := fun e s' => XFl X W e s' ∧ s'.heap.get? a = some go ∧ X.K.In s'.heap ∧ ∃ x oe cls d σ' H, e = .ref x ∧ s'.heap.get? x = some oe ∧ oe.cls = cls ∧ W cls d σ' H
/-- the wish within the generator's frame -/
abbrev gXe (X : Cx) (Aw : Around) (cenv : Env) (W : WX) (a : Addr) (go : Obj) : Value → Shared → Prop := fun e s' => wpAny (model X.prog X.w) (Aw.deeper cenv) (leaving cenv e) (fun _ s'' => gEr X W a go e s'') (fun e' s'' => gEr X W a go e' s'') s'
abbrev GMk.cx (_ : GMk X pins σ P elt tg iter ifs scope gpos own J H2 a s5 it fp tn H4 s4 code go g) (Aw : Around) (W : WX) : Cx :=
  gcx X Aw s4 H4 (gEnv X scope s4.heap.objs.size code) fp [(a, go)] (gXe X Aw (gEnv X scope s4.heap.objs.size code) W a go)
theorem GMk.takes (G : GMk X pins σ P elt tg iter ifs scope gpos own J H2 a s5 it fp tn H4 s4 code go g) {Wg : WX} (hW : ∀ cls d σ' H, Wg cls d σ' H → WX0 cls d σ H) : Takes (G.cx Aw WX0) Wg := fun u s' x => by
  refine wpAny_mono (gx_leave (E₁ := fun _ _ => False) G.inv G.fpok rfl hW x) (fun _ s'' h => ⟨h.1, h.2.1 _ (List.mem_singleton.mpr rfl), h.2.2⟩) fun _ _ z => z.elim

theorem gx_at0 (G : GMk X pins σ P elt tg iter ifs scope gpos own J H2 a s5 it fp tn H4 s4 code go g) (S : GScp X.N X.env.scope scope own) (hA : Aw.handled = none) (hfr : Aw.frames = some X.stack)
    (hcp : ∀ b ∈ cp, s5.heap.objs.size ≤ b) (hL : 0 < L)
    (pg : PG (G.cx Aw WX0) tg gg) (pt : PTs (G.cx Aw WX0) ifs tt) (pe : PE (G.cx Aw WX0) elt te)
    (turn : ∀ c k i m H, W c k i m H → (J.stop i H ∧ Fin c k H) ∨ (J.go i H ∧ ∀ x H', J.yld i H x H' → gg x (wipe σ (own.map (·.2))) H' fun σ2 H2 => wipe σ2 (own.map (·.2)) = wipe σ (own.map (·.2)) ∧ tt σ2 H2 fun b H3 =>
      if b = true then te σ2 H3 fun y H4 => k + 1 < L ∧ ∃ m', m' < m ∧ Yd c k (i + 1) m' y H4 else ∃ m', m' < m ∧ W c k (i + 1) m' H3))
    (m0 : Nat) :
    GAt ct (G.cx Aw WX0) Aw (wipe σ (own.map (·.2))) fp cp tn W Yd Fin (gEr X WX0 a go) L a g 0 0 m0 H4 s5 ∧ CpOk (G.cx Aw WX0) cp ∧ a ∉ cp := by
  have I5 : Inv (G.cx Aw WX0) [] (wipe σ (own.map (·.2))) H4 s5 := G.started Aw _ hA hfr
  have sz : s4.heap.objs.size ≤ s5.heap.objs.size := I5.sz
  have ltL : s4.heap.objs.size < s5.heap.objs.size := I5.lt
  have nac : a ∉ cp := fun z => absurd (Nat.lt_of_lt_of_le G.young.2 (hcp a z)) (Nat.lt_irrefl _)
  have hCp : CpOk (G.cx Aw WX0) cp := fun b hb => by
    have h1 := hcp b hb
    refine ⟨Nat.le_trans sz h1, Nat.ne_of_gt (Nat.lt_of_lt_of_le ltL h1), fun x c e z => ?_, fun p hp z => ?_⟩
    · obtain ⟨v, q⟩ := I5.cell x c e
      have := q.lt
      rw [z] at this
      exact absurd (Nat.lt_of_lt_of_le this h1) (Nat.lt_irrefl _)
    · have : p = (a, go) := List.mem_singleton.mp hp
      rw [this] at z
      exact nac (by rw [show a = b from z]; exact hb)
  have nfs : ∀ b ∈ cp, b ∉ (G.cx Aw WX0).fs := fun b hb => I5.nofs (hcp b hb)
  have stat : ∀ b ∈ fp, b ≠ (G.cx Aw WX0).env.locals ∧ b ∉ (G.cx Aw WX0).fs ∧ (b ∈ (G.cx Aw WX0).ex ∨ (G.cx Aw WX0).s_0.heap.objs.size ≤ b) ∧ (∀ x c, (G.cx Aw WX0).env.cells.lookup x = some c → c ≠ b) ∧ ∀ p ∈ (G.cx Aw WX0).pn, p.1 ≠ b := fun b hb => by
    refine ⟨(I5.ok.exf b hb).1, I5.ok.exfs b hb, .inl hb, fun x c e => (I5.ok.exf b hb).2 x c e, fun p hp z => ?_⟩
    have : p = (a, go) := List.mem_singleton.mp hp
    rw [this] at z
    have z : a = b := z
    obtain ⟨o, e, _⟩ := G.turn.obj _ _ G.st b hb
    -- fp lies below the frame
    have hlt : b < s4.heap.objs.size := G.fsz b hb
    rw [← z] at hlt
    exact absurd (Nat.lt_trans hlt G.young.1) (Nat.lt_irrefl _)
  have hcf : ∀ b ∈ cp, b ∉ fp := fun b hb z => by
    obtain ⟨o, e, _⟩ := G.turn.obj _ _ G.st b z
    exact absurd (Nat.lt_of_lt_of_le (Heap.lt_size e) (hcp b hb)) (Nat.lt_irrefl _)
  have ncp : ∀ b ∈ cp, H4 b = none := fun b hb => I5.hok.fresh (hcp b hb)
  have hd : Aw.in1.handled = none := hA
  refine ⟨⟨hL, I5, fun b hb => (G.fpok b hb).1, ncp, G.isg, _, G.gen, rfl, fun n s'' hn z w0 => ⟨rfl, ?_⟩⟩, hCp, nac⟩
  have I'' := woken hCp I5 ncp z
  have st'' : tn 0 s''.heap := G.turn.keep _ _ _ G.st fun b hb o e => z.keep b o (fun hc => hcf b hc hb) e
  have loop := seg_gloop (Xg := G.cx Aw WX0) (Aw := Aw) (iter := iter) (scope := scope) (pos := gpos) (ct := ct) (Er := gEr X WX0 a go) (Yd := Yd) (Fin := Fin) rfl rfl S.co G.turn hCp hcf nfs stat pg pt pe (fun x s' h => h) turn m0 0 n 0 s'' s'' H4 hn (pinC hCp nfs I'' ncp z.own) st'' (fun b hb => (G.fpok b hb).1) w0 (Kept.refl ncp) z.own
  show Seg _ Aw _ _ _ s'' _ ((compStart (.GeneratorExp elt [⟨tg, iter, ifs, 0⟩] scope gpos) 0 (.ref it) .none (gEnv X scope s4.heap.objs.size code)).onRaise (leaving (gEnv X scope s4.heap.objs.size code))) [] s''
  unfold compStart
  rw [Sem.onRaise_eq_wrap]
  show Seg _ Aw _ _ _ s'' _ ((ask >>= _).wrap _ _ _ _) [] s''
  refine seg_bind_wrap (wpAny_askSetting ?_)
  split
  · exact seg_again rfl loop
  · refine seg_bind_wrap (wpAny_rule ?_)
    show Seg _ Aw _ _ _ s'' _ ((standAt iter.pos >>= _).wrap _ _ _ _) [] s''
    exact seg_bind_wrap (wpAny_standAt (seg_bind_wrap (G.turn.self _ 0 _ _ _ st'' (seg_again rfl loop))))
end
end MX
end
section
set_option maxRecDepth 100000
set_option maxHeartbeats 2000000
namespace MX
open PySem PySem.Spec PyProof.Rows L2 GenW GxR

/-- the turns of a generator expression -/
def gTurn (J : It) (gg : TG) (tt : TT) (te : TE) (σ : L2.St) (vs : List Nat) (L : Nat) {α : Type} (W : α → Nat → Nat → Nat → Hp → Prop) (Yd : α → Nat → Nat → Nat → V → Hp → Prop) (Fin : α → Nat → Hp → Prop) : Prop :=
  ∀ c k i m H, W c k i m H → (J.stop i H ∧ Fin c k H) ∨ (J.go i H ∧ ∀ x H', J.yld i H x H' → gg x (wipe σ vs) H' fun σ2 H2 => wipe σ2 vs = wipe σ vs ∧ tt σ2 H2 fun b H3 =>
      if b = true then te σ2 H3 fun y H4 => k + 1 < L ∧ ∃ m', m' < m ∧ Yd c k (i + 1) m' y H4 else ∃ m', m' < m ∧ W c k (i + 1) m' H3)

section
variable {Xg : Cx} {A Aw : Around} {σw : L2.St} {fp : List Addr} {tn : Nat → Heap → Prop} {W : Nat → Nat → Nat → Hp → Prop} {Fin : Nat → Hp → Prop} {Er : Value → Shared → Prop} {L : Nat} {a : Addr} {g : Nat} {R : Result → Shared → Prop} {q : Bool → Hp → Prop}
/-- the loop of any: b = true; of all: b = false -/
theorem any_loop (hA : Aw = A.in1.in1) (hh : A.handled = none) (hroom : A.depth < recursionLimit) (hpn : ∃ go, (a, go) ∈ Xg.pn) (hE : ∀ e s', Er e s' → s'.heap.IsGen a g ∧ NotStop (model Xg.prog Xg.w) e s'.heap ∧ R (.error e) (s'.setGen g .finished))
    (hend : ∀ k H s, Inv Xg [] σw H s → Fin k H → R (.ok (.ret (.bool false))) s) (hhit : ∀ H s, Inv Xg [] σw H s → q true H → R (.ok (.ret (.bool true))) s) :
    ∀ (d k i m : Nat) (H : Hp) (s : Shared), L - k = d → GAt (fun _ => ()) Xg Aw σw fp [] tn (fun _ => W) (fun _ k i m y H => ∃ c, y = .bl c ∧ if c = true then q true H else W (k + 1) i m H) (fun _ => Fin) Er L a g k i m H s → W k i m H →
      codeAny (model Xg.prog Xg.w) A (.builtin "any.loop" ⟨[.ref a], []⟩) R s := by
  intro d
  induction d with
  | zero => intro k i m H s hd G; exact absurd G.kL (by omega)
  | succ d ih =>
    intro k i m H s hd G w
    refine codeAny_builtin F.entry_any_loop ?_
    rw [Around.under_plainId F.plain_any_loop _]
    show wpAny _ A.in1 (pyNext (.ref a) >>= _) _ _ s
    refine wpAny_bind (gx_next (cp := []) hA hh hroom (fun _ z => nomatch z) (fun z => nomatch z) G w hpn (fun _ z => nomatch z) (fun y v H' s' i' m' rv yd G' kp hk => ?_) (fun H' s' I' fin kp => ?_) hE)
    · obtain ⟨c, rfl, hc⟩ := yd
      obtain rfl : v = Value.bool c := rv
      refine wpAny_bind (wpAny_holding (wpAny_truthy_bool ?_))
      refine wpAny_bind (wpAny_letGo ?_)
      cases c with
      | true =>
        simp only [if_true]
        rw [if_pos rfl] at hc
        exact wpAny_bind (wpAny_rule (wpAny_pure (hhit H' s' G'.inv hc)))
      | false =>
        simp only [Bool.false_eq_true, if_false]
        rw [if_neg Bool.false_ne_true] at hc
        exact wpAny_pure ⟨plainId_quiet F.plain_any_loop _, ih (k + 1) i' m' H' s' (by omega) G' hc⟩
    · exact wpAny_bind (wpAny_rule (wpAny_pure (hend k H' s' I' fin)))
theorem all_loop (hA : Aw = A.in1.in1) (hh : A.handled = none) (hroom : A.depth < recursionLimit) (hpn : ∃ go, (a, go) ∈ Xg.pn) (hE : ∀ e s', Er e s' → s'.heap.IsGen a g ∧ NotStop (model Xg.prog Xg.w) e s'.heap ∧ R (.error e) (s'.setGen g .finished))
    (hend : ∀ k H s, Inv Xg [] σw H s → Fin k H → R (.ok (.ret (.bool true))) s) (hhit : ∀ H s, Inv Xg [] σw H s → q false H → R (.ok (.ret (.bool false))) s) :
    ∀ (d k i m : Nat) (H : Hp) (s : Shared), L - k = d → GAt (fun _ => ()) Xg Aw σw fp [] tn (fun _ => W) (fun _ k i m y H => ∃ c, y = .bl c ∧ if c = true then W (k + 1) i m H else q false H) (fun _ => Fin) Er L a g k i m H s → W k i m H →
      codeAny (model Xg.prog Xg.w) A (.builtin "all.loop" ⟨[.ref a], []⟩) R s := by
  intro d
  induction d with
  | zero => intro k i m H s hd G; exact absurd G.kL (by omega)
  | succ d ih =>
    intro k i m H s hd G w
    refine codeAny_builtin F.entry_all_loop ?_
    rw [Around.under_plainId F.plain_all_loop _]
    show wpAny _ A.in1 (pyNext (.ref a) >>= _) _ _ s
    refine wpAny_bind (gx_next (cp := []) hA hh hroom (fun _ z => nomatch z) (fun z => nomatch z) G w hpn (fun _ z => nomatch z) (fun y v H' s' i' m' rv yd G' kp hk => ?_) (fun H' s' I' fin kp => ?_) hE)
    · obtain ⟨c, rfl, hc⟩ := yd
      obtain rfl : v = Value.bool c := rv
      refine wpAny_bind (wpAny_holding (wpAny_truthy_bool ?_))
      refine wpAny_bind (wpAny_letGo ?_)
      cases c with
      | true =>
        simp only [if_true]
        rw [if_pos rfl] at hc
        exact wpAny_pure ⟨plainId_quiet F.plain_all_loop _, ih (k + 1) i' m' H' s' (by omega) G' hc⟩
      | false =>
        simp only [Bool.false_eq_true, if_false]
        rw [if_neg Bool.false_ne_true] at hc
        exact wpAny_bind (wpAny_rule (wpAny_pure (hhit H' s' G'.inv hc)))
    · exact wpAny_bind (wpAny_rule (wpAny_pure (hend k H' s' I' fin)))
end

/-- the readings of any(..), all(..) of a generator expression -/
def tGxAny (P : Addr) (wi : TI) (gg : TG) (tt : TT) (te : TE) (vs : List Nat) : TE := fun σ H Q => wi σ H fun J H1 => TabG H1 P ∧ ∀ H4, Tabbed P H1 H4 → ∃ W : Nat → Nat → Nat → Hp → Prop, (∃ m, W 0 0 m H4) ∧
  gTurn J gg tt te σ vs (sizeLine + 1) (fun (_ : Unit) => W) (fun _ k i m y H => ∃ c, y = .bl c ∧ if c = true then Q (.bl true) H else W (k + 1) i m H) (fun _ _ H => Q (.bl false) H)
def tGxAll (P : Addr) (wi : TI) (gg : TG) (tt : TT) (te : TE) (vs : List Nat) : TE := fun σ H Q => wi σ H fun J H1 => TabG H1 P ∧ ∀ H4, Tabbed P H1 H4 → ∃ W : Nat → Nat → Nat → Hp → Prop, (∃ m, W 0 0 m H4) ∧
  gTurn J gg tt te σ vs (sizeLine + 1) (fun (_ : Unit) => W) (fun _ k i m y H => ∃ c, y = .bl c ∧ if c = true then W (k + 1) i m H else Q (.bl false) H) (fun _ _ H => Q (.bl true) H)
end MX
end
section
set_option maxRecDepth 100000
set_option maxHeartbeats 2000000
namespace MX
open PySem PySem.Spec PyProof.Rows L2 GenW GxR

/-- no exception of the wish ends an iterator -/
def NoStopW (K : PySem.W.Frag) (W : WX) : Prop := ∀ cls d σ H, W cls d σ H → PySem.W.subIn K cls (.type "StopIteration") = some false
theorem gEr_use {X : Cx} {W : WX} {a : Addr} {go : Obj} {g : Nat} {e : Value} {s' : Shared} {h : Heap} (tk : TakF X W) (hns : NoStopW X.K W) (isg : h.IsGen a g) (gob : h.get? a = some go) (x : gEr X W a go e s') :
    s'.heap.IsGen a g ∧ NotStop (model X.prog X.w) e s'.heap ∧ X.xe e (s'.setGen g .finished) := by
  obtain ⟨hx, h1, kin, y, oe, cls, d, σ', H', rfl, he, hc, hw⟩ := x
  refine ⟨?_, ?_, ?_⟩
  · obtain ⟨o, nm, qn, h2, h3⟩ := isg
    rw [gob] at h2; cases h2
    exact ⟨go, nm, qn, h1, h3⟩
  · intro A Q E s2 hs hq
    have L := PySem.W.looks_subIn (M := model X.prog X.w) kin (hns cls d σ' H' hw)
    simp only [isInstance]
    refine wpAny_bind (wpAny_typeOf_ref (o := oe) (by rw [hs]; exact he) ?_)
    rw [hc]
    exact L A Q E s2 (fun b o z => by rw [hs]; exact z) hq
  · refine tk _ _ ?_
    obtain ⟨a, B, sI, pins, σ, H, cls, d, e1, I, nb, up, sky, na, os, ag, w⟩ := hx
    exact ⟨a, B, sI, pins, σ, H, cls, d, e1, I, nb, up, sky, na, os, allBare_setGen ag rfl, w⟩
theorem room_in2 {k : Nat} {A : Around} {env : Env} (hr : Room (k + 1) A) : Room k (A.in1.in1.deeper env) := ⟨hr.hd, by
    have := hr.dp; show A.depth + 1 + 3 * k + 5 < _; omega, by
    have := hr.un; show A.units + 1 + 1 + 3 + 16 * k + 200 < _; omega⟩

section
variable {X : Cx} {c P : Addr} {elt tg iter : Expr} {ifs : List Expr} {scope : Scope} {own : List (Str × Nat)} {wi : TI} {gg : TG} {tt : TT} {te : TE} {k : Nat} {W : WX} {p pos gpos : Pos}
/-- what the parts of a generator expression's frame are asked -/
def GParts (X : Cx) (tg : Expr) (ifs : List Expr) (elt : Expr) (scope : Scope) (k : Nat) (W : WX) (gg : TG) (tt : TT) (te : TE) : Prop :=
  ∀ (Aw : Around) (s4 : Shared) (H4 : Hp) (code : Value) (fp : List Addr) (pn : List (Addr × Obj)) (xe : Value → Shared → Prop),
    Room k (Aw.deeper (gEnv X scope s4.heap.objs.size code)) → (∀ Wg : WX, (∀ cls d σ' H, Wg cls d σ' H → ∀ σ, W cls d σ H) → Takes (gcx X Aw s4 H4 (gEnv X scope s4.heap.objs.size code) fp pn xe) Wg) →
    PG (gcx X Aw s4 H4 (gEnv X scope s4.heap.objs.size code) fp pn xe) tg gg ∧ PTs (gcx X Aw s4 H4 (gEnv X scope s4.heap.objs.size code) fp pn xe) ifs tt ∧ PE (gcx X Aw s4 H4 (gEnv X scope s4.heap.objs.size code) fp pn xe) elt te

theorem pe_anyG (hr : Room (k + 1) X.A) (hN : X.N.Nodup) (hc : X.calm = true) (hg : Gl X "any") (hm : X.mg "any" = none) (TB : TabB X.base X.mg c P) (hcode : X.env.code = .ref c) (S : GScp X.N X.env.scope scope own) (hi : PI X tg iter wi)
    (tk : TakF X W) (hns : NoStopW X.K W) (parts : GParts X tg ifs elt scope k W gg tt te)
    (hs : ∀ v, genFold iter X.env v = pure v)
    (he : starEach [.GeneratorExp elt [⟨tg, iter, ifs, 0⟩] scope gpos] X.env = (false, eval (.GeneratorExp elt [⟨tg, iter, ifs, 0⟩] scope gpos) X.env) :: starEach [] X.env := by rfl) :
    PE X (.Call (.Name "any" p) [.GeneratorExp elt [⟨tg, iter, ifs, 0⟩] scope gpos] [] pos) (tGxAny P wi gg tt te (own.map (·.2))) := by
  refine ⟨fun pins s σ H Q I h => ?_⟩
  refine wpAny_Call_Name_kw (ld_blt I hg hm boot_any ?_)
  refine PyProof.Rows.callWith_builtin1 ?_ he (by rfl)
  rw [he]
  show wpAny _ _ (spliced ((false, eval (.GeneratorExp elt [⟨tg, iter, ifs, 0⟩] scope gpos) X.env) :: backTo pos (starEach [] X.env))) _ _ s
  refine Calls.spliced_cons (gx_make hr hN TB hcode S hi hs I h fun J H2 a s5 it fp tn H4 s4 code go g hR G => ?_)
  refine Calls.spliced_nil ?_
  obtain ⟨Wm, ⟨m0, w0⟩, turn⟩ := hR H4 G.tab
  have hfr : X.A.in1.in1.frames = some X.stack := I.ok.frames
  obtain ⟨pg, pt, pe⟩ := parts X.A.in1.in1 s4 H4 code fp [(a, go)] (gXe X X.A.in1.in1 (gEnv X scope s4.heap.objs.size code) W a go) (room_in2 hr) fun Wg hW => G.takes fun cls d σ' H h => hW cls d σ' H h σ
  obtain ⟨G0, hcp, hac⟩ := gx_at0 (Aw := X.A.in1.in1) (cp := []) (WX0 := W) (L := sizeLine + 1) (ct := fun _ => ()) (W := fun _ => Wm) (Yd := fun _ k i m y H => ∃ c, y = .bl c ∧ if c = true then Q (.bl true) H else Wm (k + 1) i m H) (Fin := fun _ _ H => Q (.bl false) H) G S hr.hd hfr (fun _ z => nomatch z) (Nat.succ_pos _) pg pt pe turn m0
  have G0' : GAt (fun _ => ()) (G.cx X.A.in1.in1 W) X.A.in1.in1 (wipe σ (own.map (·.2))) fp [] tn (fun _ => Wm) (fun _ k i m y H => ∃ c, y = .bl c ∧ if c = true then Q (.bl true) H else Wm (k + 1) i m H) (fun _ _ H => Q (.bl false) H) (gEr X W a go) (sizeLine + 1) a g 0 0 m0 H4 s5 := G0
  refine call_function_tree F.kind_any F.plain_any F.entry_any (F.args_any1 _) ?_
  unfold Builtin.«any»
  refine wpAny_bind (m := oneArg "any" _) (wpAny_pure ?_)
  refine wpAny_bind (wpAny_pyIter_gen G.isg ?_)
  refine wpAny_pure ⟨plainId_quiet F.plain_any_loop _, any_loop (Xg := G.cx X.A.in1.in1 W) (q := fun b H => Q (.bl b) H) rfl hr.hd (by have := hr.dp; show X.A.depth < _; omega) ⟨go, List.mem_singleton.mpr rfl⟩ (fun e s' x => ?_) (fun k H' s' I' q => ?_) (fun H' s' I' q => ?_) _ 0 0 m0 H4 s5 rfl G0' w0⟩
  · exact gEr_use tk hns G.isg G.gob x
  · exact ⟨.bl false, H', gx_back G.inv G.fpok I', rfl, q⟩
  · exact ⟨.bl true, H', gx_back G.inv G.fpok I', rfl, q⟩
theorem boot_allB : bootBuiltins "all" = some (.builtin "all") := by decide +kernel
theorem pe_allG (hr : Room (k + 1) X.A) (hN : X.N.Nodup) (hc : X.calm = true) (hg : Gl X "all") (hm : X.mg "all" = none) (TB : TabB X.base X.mg c P) (hcode : X.env.code = .ref c) (S : GScp X.N X.env.scope scope own) (hi : PI X tg iter wi)
    (tk : TakF X W) (hns : NoStopW X.K W) (parts : GParts X tg ifs elt scope k W gg tt te)
    (hs : ∀ v, genFold iter X.env v = pure v)
    (he : starEach [.GeneratorExp elt [⟨tg, iter, ifs, 0⟩] scope gpos] X.env = (false, eval (.GeneratorExp elt [⟨tg, iter, ifs, 0⟩] scope gpos) X.env) :: starEach [] X.env := by rfl) :
    PE X (.Call (.Name "all" p) [.GeneratorExp elt [⟨tg, iter, ifs, 0⟩] scope gpos] [] pos) (tGxAll P wi gg tt te (own.map (·.2))) := by
  refine ⟨fun pins s σ H Q I h => ?_⟩
  refine wpAny_Call_Name_kw (ld_blt I hg hm boot_allB ?_)
  refine PyProof.Rows.callWith_builtin1 ?_ he (by rfl)
  rw [he]
  show wpAny _ _ (spliced ((false, eval (.GeneratorExp elt [⟨tg, iter, ifs, 0⟩] scope gpos) X.env) :: backTo pos (starEach [] X.env))) _ _ s
  refine Calls.spliced_cons (gx_make hr hN TB hcode S hi hs I h fun J H2 a s5 it fp tn H4 s4 code go g hR G => ?_)
  refine Calls.spliced_nil ?_
  obtain ⟨Wm, ⟨m0, w0⟩, turn⟩ := hR H4 G.tab
  have hfr : X.A.in1.in1.frames = some X.stack := I.ok.frames
  obtain ⟨pg, pt, pe⟩ := parts X.A.in1.in1 s4 H4 code fp [(a, go)] (gXe X X.A.in1.in1 (gEnv X scope s4.heap.objs.size code) W a go) (room_in2 hr) fun Wg hW => G.takes fun cls d σ' H h => hW cls d σ' H h σ
  obtain ⟨G0, hcp, hac⟩ := gx_at0 (Aw := X.A.in1.in1) (cp := []) (WX0 := W) (L := sizeLine + 1) (ct := fun _ => ()) (W := fun _ => Wm) (Yd := fun _ k i m y H => ∃ c, y = .bl c ∧ if c = true then Wm (k + 1) i m H else Q (.bl false) H) (Fin := fun _ _ H => Q (.bl true) H) G S hr.hd hfr (fun _ z => nomatch z) (Nat.succ_pos _) pg pt pe turn m0
  have G0' : GAt (fun _ => ()) (G.cx X.A.in1.in1 W) X.A.in1.in1 (wipe σ (own.map (·.2))) fp [] tn (fun _ => Wm) (fun _ k i m y H => ∃ c, y = .bl c ∧ if c = true then Wm (k + 1) i m H else Q (.bl false) H) (fun _ _ H => Q (.bl true) H) (gEr X W a go) (sizeLine + 1) a g 0 0 m0 H4 s5 := G0
  refine call_function_tree F.kind_all F.plain_all F.entry_all (F.args_all1 _) ?_
  unfold Builtin.«all»
  refine wpAny_bind (m := oneArg "all" _) (wpAny_pure ?_)
  refine wpAny_bind (wpAny_pyIter_gen G.isg ?_)
  refine wpAny_pure ⟨plainId_quiet F.plain_all_loop _, all_loop (Xg := G.cx X.A.in1.in1 W) (q := fun b H => Q (.bl b) H) rfl hr.hd (by have := hr.dp; show X.A.depth < _; omega) ⟨go, List.mem_singleton.mpr rfl⟩ (fun e s' x => ?_) (fun k H' s' I' q => ?_) (fun H' s' I' q => ?_) _ 0 0 m0 H4 s5 rfl G0' w0⟩
  · exact gEr_use tk hns G.isg G.gob x
  · exact ⟨.bl true, H', gx_back G.inv G.fpok I', rfl, q⟩
  · exact ⟨.bl false, H', gx_back G.inv G.fpok I', rfl, q⟩
end
end MX
end
section
set_option maxRecDepth 100000
set_option maxHeartbeats 2000000
namespace MX
open PySem PySem.Spec PyProof.Rows L2 GenW GxR

def cW (W : List V → Nat → Nat → Hp → Prop) : Option Obj → Nat → Nat → Nat → Hp → Prop := fun o k i m H => ∃ ys acc c, o = some (lstObj acc c) ∧ Vals ys acc.toList ∧ ys.length = k ∧ W ys i m H
def cY (W : List V → Nat → Nat → Hp → Prop) : Option Obj → Nat → Nat → Nat → V → Hp → Prop := fun o k i m y H => ∃ ys acc c, o = some (lstObj acc c) ∧ Vals ys acc.toList ∧ ys.length = k ∧ W (ys ++ [y]) i m H
def cF (F : List V → Hp → Prop) : Option Obj → Nat → Hp → Prop := fun o k H => ∃ ys acc c, o = some (lstObj acc c) ∧ Vals ys acc.toList ∧ ys.length = k ∧ F ys H

section
variable {Xg : Cx} {A Aw : Around} {σw : L2.St} {fp : List Addr} {tn : Nat → Heap → Prop} {W : List V → Nat → Nat → Hp → Prop} {F0 : List V → Hp → Prop} {Er : Value → Shared → Prop} {a S : Addr} {g : Nat} {R : Result → Shared → Prop} {res : Value}
theorem ext_loop (hA : Aw = A.in1.in1) (hh : A.handled = none) (hroom : A.depth < recursionLimit) (hpn : ∃ go, (a, go) ∈ Xg.pn) (hcp : CpOk Xg [S]) (hac : a ∉ [S]) (hE : ∀ e s', Er e s' → s'.heap.IsGen a g ∧ NotStop (model Xg.prog Xg.w) e s'.heap ∧ R (.error e) (s'.setGen g .finished))
    (hend : ∀ (H : Hp) (s : Shared) (ys : List V) (acc : Array Value) (c : Nat), Inv Xg [] σw H s → s.heap.get? S = some (lstObj acc c) → Vals ys acc.toList → ys.length ≤ sizeLine → H S = none → F0 ys H → R (.ok (.ret res)) s) :
    ∀ (d k i m : Nat) (H : Hp) (s : Shared), (sizeLine + 1) - k = d → GAt (fun h => h.get? S) Xg Aw σw fp [S] tn (cW W) (cY W) (cF F0) Er (sizeLine + 1) a g k i m H s → cW W (s.heap.get? S) k i m H →
      codeAny (model Xg.prog Xg.w) A (.builtin "list.extend.loop" ⟨[.ref S, .ref a, res], []⟩) R s := by
  intro d
  induction d with
  | zero => intro k i m H s hd G; exact absurd G.kL (by omega)
  | succ d ih =>
    intro k i m H s hd G w
    refine codeAny_builtin F.entry_extend_loop ?_
    rw [Around.under_plainId F.plain_extend_loop _]
    show wpAny _ A.in1 (pyNext (.ref a) >>= _) _ _ s
    obtain ⟨ys0, acc0, c0, hS0, r0, l0, w0⟩ := id w
    have own : ∀ b ∈ [S], ∃ o, s.heap.get? b = some o ∧ ∀ v, o.data ≠ .cell v := fun b hb => by
      rw [List.mem_singleton.mp hb]
      exact ⟨_, hS0, fun v z => by cases z⟩
    refine wpAny_bind (gx_next (cp := [S]) hA hh hroom hcp hac G w hpn own (fun y v H' s' i' m' rv yd G' kp hk => ?_) (fun H' s' I' fin kp => ?_) hE)
    · obtain ⟨ys, acc, c, hS, r, l, w'⟩ := yd
      have hS : s.heap.get? S = some (lstObj acc c) := hS
      have hS' : s'.heap.get? S = some (lstObj acc c) := (kp S (List.mem_singleton.mpr rfl)).2 _ hS
      have hsz : acc.size = k := by
        rw [← l, r.length, Array.length_toList]
      show wpAny _ A.in1 (updateSeq S (·.push v) >>= _) _ _ _
      refine wpAny_bind ?_
      refine wpAny_updateSeq hS' rfl (wpAny_pure ⟨plainId_quiet F.plain_extend_loop _, ?_⟩) (by rw [hsz]; omega) (by show (acc.push v).size ≤ sizeLine + 1; rw [Array.size_push, hsz]; omega)
      have hS2 := Heap.get?_update_self (Obj.mapSeq (·.push v)) hS' rfl
      have z : SleptC [S] s' { s' with heap := s'.heap.update S (Obj.mapSeq (·.push v)) } := ⟨rfl, G'.inv.bare, fun b o hb e => (Heap.get?_update_other _ _ (fun h : S = b => hb (by rw [h]; exact List.mem_singleton.mpr rfl))).trans e, fun b hb => by
        rw [List.mem_singleton.mp hb]
        exact ⟨_, hS2, fun v z => by cases z⟩⟩
      refine ih (k + 1) i' m' H' _ (by omega) (G'.slept hcp hac rfl z) ⟨ys ++ [y], acc.push v, _, hS2, ?_, ?_, w'⟩
      · rw [Array.toList_push]
        exact r.append (.cons rv .nil)
      · rw [List.length_append, l]; rfl
    · obtain ⟨ys, acc, c, hS, r, l, f⟩ := fin
      have hS : s.heap.get? S = some (lstObj acc c) := hS
      have hS' : s'.heap.get? S = some (lstObj acc c) := (kp S (List.mem_singleton.mpr rfl)).2 _ hS
      exact wpAny_pure (hend H' s' ys acc c I' hS' r (by have := G.kL; omega) (kp S (List.mem_singleton.mpr rfl)).1 f)
end

section
variable {Xg : Cx} {A Aw : Around} {σw : L2.St} {fp : List Addr} {tn : Nat → Heap → Prop} {W : List V → Nat → Nat → Hp → Prop} {F0 : List V → Hp → Prop} {Er : Value → Shared → Prop} {a : Addr} {g m0 : Nat} {Q : List Value → Shared → Prop} {E : Value → Shared → Prop} {H0 : Hp} {s : Shared}
theorem collect_gx (hA : Aw = A.in1.in1) (hh : A.handled = none) (hroom : A.depth < recursionLimit) (hpn : ∃ go, (a, go) ∈ Xg.pn) (hcp : CpOk Xg [s.heap.objs.size]) (hac : a ∉ [s.heap.objs.size])
    (G : GAt (fun h => h.get? s.heap.objs.size) Xg Aw σw fp [s.heap.objs.size] tn (cW W) (cY W) (cF F0) Er (sizeLine + 1) a g 0 0 m0 H0 s) (w0 : W [] 0 m0 H0)
    (hE : ∀ e s', Er e s' → s'.heap.IsGen a g ∧ NotStop (model Xg.prog Xg.w) e s'.heap ∧ E e (s'.setGen g .finished))
    (hQ : ∀ (H : Hp) (s' : Shared) (ys : List V) (acc : Array Value), Inv Xg [] σw H s' → Vals ys acc.toList → ys.length ≤ sizeLine → F0 ys H → Q acc.toList s') : wpAny (model Xg.prog Xg.w) A (collect (.ref a)) Q E s := by
  have hSI : s.heap.objs.size ≠ a := fun e => hac (by rw [e]; exact List.mem_singleton.mpr rfl)
  have gty : ∀ {h : Heap}, (∀ b o, s.heap.get? b = some o → h.get? b = some o) → h.IsGen a g := fun {h} q => G.isg.keeps q
  unfold collect
  refine wpAny_bind (wpAny_runValue (codeAny_builtin F.entry_proto_collect ?_))
  rw [Around.under_plainId F.plain_proto_collect _]
  show wpAny _ A.in1 (newList [] >>= fun l => again (.builtin "list.__iadd__" ⟨[l, .ref a], []⟩)) _ _ s
  refine wpAny_bind (wpAny_newObj_type ?_)
  refine wpAny_pure ⟨plainId_quiet F.plain_list_iadd _, codeAny_builtin F.entry_list_iadd ?_⟩
  rw [Around.under_plainId F.plain_list_iadd _]
  have k1 : ∀ b o, s.heap.get? b = some o → (s.heap.push { cls := .type "list", data := .seq ([] : List Value).toArray }).get? b = some o := fun b o e => Heap.get?_push_of_some _ e
  show wpAny _ A.in1 (Builtin.List.listExtendWith (.ref s.heap.objs.size) (.ref a) (.ref s.heap.objs.size)) _ _ _
  unfold Builtin.List.listExtendWith
  refine wpAny_bind (wpAny_typeOf (Heap.IsGen.typeIs (s := { s with heap := _ }) (gty k1)) ?_)
  have h1 : Builtin.List.listSameRef (.ref s.heap.objs.size) (.ref a) = false := by simp [Builtin.List.listSameRef, hSI]
  have h2 : (Value.type "generator" == Value.type "list") = false := by decide
  have h3 : (Value.type "generator" == Value.type "tuple") = false := by decide
  simp only [h1, h2, h3, Bool.or_false, Bool.false_eq_true, if_false]
  refine wpAny_bind (wpAny_pyIter_gen (s := { s with heap := _ }) (gty k1) ?_)
  refine wpAny_bind (wpAny_holding ?_)
  unfold Builtin.List.listLengthHint
  refine wpAny_bind (wpAny_specialOf (Heap.IsGen.typeIs (s := { s with heap := _ }) (gty k1)) F.gen_no_len ?_)
  show wpAny _ A.in1 (specialOf (Value.ref a) (Str.ofString "__length_hint__") >>= _) _ _ _
  refine wpAny_bind (wpAny_specialOf (Heap.IsGen.typeIs (s := { s with heap := _ }) (gty k1)) F.gen_no_hint ?_)
  refine wpAny_pure ?_
  show wpAny _ A.in1 (rule "list.extend.makes-room" >>= fun _ => Builtin.List.listTouch (.ref s.heap.objs.size) >>= fun _ =>
    again (.builtin "list.extend.loop" ⟨[.ref s.heap.objs.size, .ref a, .ref s.heap.objs.size], []⟩)) _ _ _
  refine wpAny_bind (wpAny_rule ?_)
  have hS₁ : (s.heap.push { cls := .type "list", data := .seq ([] : List Value).toArray }).get? s.heap.objs.size = some { cls := .type "list", data := .seq ([] : List Value).toArray } := Heap.get?_push_size _ rfl
  refine wpAny_bind ?_
  show wpAny _ A.in1 (updateSeq s.heap.objs.size (·.push .none) >>= fun _ => updateSeq s.heap.objs.size (·.pop)) _ _ _
  refine wpAny_bind (wpAny_updateSeq hS₁ rfl ?_)
  have hS₂ := Heap.get?_update_self (Obj.mapSeq (·.push Value.none)) hS₁ rfl
  refine wpAny_updateSeq hS₂ rfl ?_
  have hS₃ := Heap.get?_update_self (Obj.mapSeq (·.pop)) hS₂ rfl
  have oth : ∀ b o, b ≠ s.heap.objs.size → (s.heap.push { cls := .type "list", data := .seq ([] : List Value).toArray }).get? b = some o →
      (((s.heap.push { cls := .type "list", data := .seq ([] : List Value).toArray }).update s.heap.objs.size (Obj.mapSeq (·.push Value.none))).update s.heap.objs.size (Obj.mapSeq (·.pop))).get? b = some o :=
    fun b o hb e => (Heap.get?_update_other _ _ (Ne.symm hb)).trans ((Heap.get?_update_other _ _ (Ne.symm hb)).trans e)
  have z : SleptC [s.heap.objs.size] s { s with heap := ((s.heap.push { cls := .type "list", data := .seq ([] : List Value).toArray }).update s.heap.objs.size (Obj.mapSeq (·.push Value.none))).update s.heap.objs.size (Obj.mapSeq (·.pop)) } :=
    ⟨rfl, G.inv.bare, fun b o hb e => oth b o (fun h => hb (h ▸ List.mem_cons_self)) (k1 b o e), fun b hb => by
      rw [List.mem_singleton.mp hb]
      exact ⟨_, hS₃, fun v z => by cases z⟩⟩
  refine wpAny_pure ⟨plainId_quiet F.plain_extend_loop _, ext_loop hA hh hroom hpn hcp hac hE (fun H s' ys acc c I' hS' r l hn f => ?_) _ 0 0 m0 H0 _ rfl (G.slept hcp hac rfl z) ⟨[], _, _, hS₃, .nil, rfl, w0⟩⟩
  show wpAny _ A (load s.heap.objs.size >>= _) _ _ s'
  refine wpAny_bind (wpAny_load hS' ?_)
  exact wpAny_pure (hQ H s' ys acc I' r l f)
end

/-- the turns of a generator expression whose items are gathered -/
def gTurnL (J : It) (gg : TG) (tt : TT) (te : TE) (σ : L2.St) (vs : List Nat) (W : List V → Nat → Nat → Hp → Prop) (F0 : List V → Hp → Prop) : Prop :=
  ∀ ys i m H, W ys i m H → (J.stop i H ∧ F0 ys H) ∨ (J.go i H ∧ ∀ x H', J.yld i H x H' → gg x (wipe σ vs) H' fun σ2 H2 => wipe σ2 vs = wipe σ vs ∧ tt σ2 H2 fun b H3 =>
      if b = true then te σ2 H3 fun y H4 => ys.length < sizeLine ∧ ∃ m', m' < m ∧ W (ys ++ [y]) (i + 1) m' H4 else ∃ m', m' < m ∧ W ys (i + 1) m' H3)
theorem ite_mono2 {b : Bool} {A B A' B' : Prop} (ha : A → A') (hb : B → B') (h : if b = true then A else B) : if b = true then A' else B' := by
  cases b with
  | true => exact ha h
  | false => exact hb h
/-- the readings of the parts are monotone in what is wanted -/
structure MonoP (gg : TG) (tt : TT) (te : TE) : Prop where
  g : ∀ x σ H Q Q', (∀ σ' H', Q σ' H' → Q' σ' H') → gg x σ H Q → gg x σ H Q'
  t : ∀ σ H Q Q', (∀ b H', Q b H' → Q' b H') → tt σ H Q → tt σ H Q'
  e : ∀ σ H Q Q', (∀ v H', Q v H' → Q' v H') → te σ H Q → te σ H Q'
theorem gTurnL.to {J : It} {gg : TG} {tt : TT} {te : TE} {σ : L2.St} {vs : List Nat} {W : List V → Nat → Nat → Hp → Prop} {F0 : List V → Hp → Prop} (mo : MonoP gg tt te) (h : gTurnL J gg tt te σ vs W F0) :
    ∀ c k i m H, cW W c k i m H → (J.stop i H ∧ cF F0 c k H) ∨ (J.go i H ∧ ∀ x H', J.yld i H x H' → gg x (wipe σ vs) H' fun σ2 H2 => wipe σ2 vs = wipe σ vs ∧ tt σ2 H2 fun b H3 =>
      if b = true then te σ2 H3 fun y H4 => k + 1 < sizeLine + 1 ∧ ∃ m', m' < m ∧ cY W c k (i + 1) m' y H4 else ∃ m', m' < m ∧ cW W c k (i + 1) m' H3) := by
  rintro o k i m H ⟨ys, acc, c, rfl, r, l, w⟩
  rcases h ys i m H w with ⟨h1, h2⟩ | ⟨h1, h2⟩
  · exact .inl ⟨h1, ys, acc, c, rfl, r, l, h2⟩
  · refine .inr ⟨h1, fun x H' y => mo.g _ _ _ _ _ (fun σ2 H2 q => ⟨q.1, mo.t _ _ _ _ (fun b H3 q => ite_mono2 (fun q => mo.e _ _ _ _ (fun y H4 q => ?_) q) (fun q => ?_) q) q.2⟩) (h2 x H' y)⟩
    · obtain ⟨q1, m', q2, q3⟩ := q
      exact ⟨by omega, m', q2, ys, acc, c, rfl, r, l, q3⟩
    · obtain ⟨m', q2, q3⟩ := q
      exact ⟨m', q2, ys, acc, c, rfl, r, l, q3⟩
def tGxTup (P : Addr) (wi : TI) (gg : TG) (tt : TT) (te : TE) (vs : List Nat) : TE := fun σ H Q => wi σ H fun J H1 => TabG H1 P ∧ ∀ H4, Tabbed P H1 H4 → ∃ W : List V → Nat → Nat → Hp → Prop, (∃ m, W [] 0 m H4) ∧
  gTurnL J gg tt te σ vs W (fun ys H => ∀ p, H p = none → Q (.ref p) (upd H p (.tup ys)))
theorem room_in4 {k : Nat} {A : Around} {env : Env} (hr : Room (k + 1) A) : Room k (A.in1.in1.in1.in1.deeper env) := ⟨hr.hd, by
    have := hr.dp; show A.depth + 1 + 3 * k + 5 < _; omega, by
    have := hr.un; show A.units + 1 + 1 + 1 + 1 + 3 + 16 * k + 200 < _; omega⟩

section
variable {X : Cx} {c P : Addr} {elt tg iter : Expr} {ifs : List Expr} {scope : Scope} {own : List (Str × Nat)} {wi : TI} {gg : TG} {tt : TT} {te : TE} {k : Nat} {W : WX} {p pos gpos : Pos}
theorem pe_tupG (hr : Room (k + 1) X.A) (hN : X.N.Nodup) (hc : X.calm = true) (hg : Gl X "tuple") (hm : X.mg "tuple" = none) (hb : bootBuiltins "tuple" = some (.type "tuple")) (TB : TabB X.base X.mg c P) (hcode : X.env.code = .ref c) (S : GScp X.N X.env.scope scope own) (hi : PI X tg iter wi)
    (tk : TakF X W) (hns : NoStopW X.K W) (parts : GParts X tg ifs elt scope k W gg tt te) (mo : MonoP gg tt te)
    (hs : ∀ v, genFold iter X.env v = pure v)
    (he : starEach [.GeneratorExp elt [⟨tg, iter, ifs, 0⟩] scope gpos] X.env = (false, eval (.GeneratorExp elt [⟨tg, iter, ifs, 0⟩] scope gpos) X.env) :: starEach [] X.env := by rfl) :
    PE X (.Call (.Name "tuple" p) [.GeneratorExp elt [⟨tg, iter, ifs, 0⟩] scope gpos] [] pos) (tGxTup P wi gg tt te (own.map (·.2))) := by
  refine ⟨fun pins s σ H Q I h => ?_⟩
  refine wpAny_Call_Name_kw (ld_blt I hg hm hb ?_)
  refine PyProof.Rows.callWith_type1 ?_ he (by rfl)
  rw [he]
  show wpAny _ _ (spliced ((false, eval (.GeneratorExp elt [⟨tg, iter, ifs, 0⟩] scope gpos) X.env) :: backTo pos (starEach [] X.env))) _ _ s
  refine Calls.spliced_cons (gx_make hr hN TB hcode S hi hs I h fun J H2 a s5 it fp tn H4 s4 code go g hR G => ?_)
  refine Calls.spliced_nil ?_
  obtain ⟨Wm, ⟨m0, w0⟩, turn⟩ := hR H4 G.tab
  have hfr : X.A.in1.in1.in1.in1.frames = some X.stack := I.ok.frames
  obtain ⟨pg, pt, pe⟩ := parts X.A.in1.in1.in1.in1 s4 H4 code fp [(a, go)] (gXe X X.A.in1.in1.in1.in1 (gEnv X scope s4.heap.objs.size code) W a go) (room_in4 hr) fun Wg hW => G.takes fun cls d σ' H h => hW cls d σ' H h σ
  obtain ⟨G0, hcp, hac⟩ := gx_at0 (Aw := X.A.in1.in1.in1.in1) (cp := [s5.heap.objs.size]) (WX0 := W) (L := sizeLine + 1) (ct := fun h => h.get? s5.heap.objs.size) (W := cW Wm) (Yd := cY Wm) (Fin := cF fun ys H => ∀ p, H p = none → Q (.ref p) (upd H p (.tup ys))) G S hr.hd hfr (fun b hb => by rw [List.mem_singleton.mp hb]; exact Nat.le_refl _) (Nat.succ_pos _) pg pt pe (turn.to mo) m0
  refine callType_codes (Q₁ := fun obj s₁ => s₁.TypeIs obj "tuple" ∧ EP X pins σ Q obj s₁) F.called_tuple (F.typeCall_tuple_1 _) F.entry_object_init ?_ fun obj s₁ h₁ => ?_
  rotate_left
  · exact ⟨h₁.1, F.args_object_init_2 obj _, object_init_meets F.called_tuple.init.lookup F.called_tuple.made (by decide) X.prog X.w X.A.in1 _ s₁ ⟨h₁.1, rfl, h₁.2⟩⟩
  refine codeAny_of_tree ?_
  show wpAny _ X.A.in1.in1 (do checkBuiltinCall "tuple.__new__" ⟨[.type "tuple", .ref a], []⟩; again (.builtin "tuple.__new__" ⟨[.type "tuple", .ref a], []⟩)) _ _ s5
  refine wpAny_bind (wpAny_of_eq (F.newCall_tuple_1 _) (wpAny_pure ⟨plainId_quiet F.plain_tuple_new _, codeAny_builtin F.entry_tuple_new ?_⟩))
  rw [Around.under_plainId F.plain_tuple_new _]
  have hsub := sub_tuple_self
  have hinit := init_tuple_lookup
  have hmh := madeHere_tuple
  have hTI : s5.TypeIs (.ref a) "generator" := G.isg.typeIs
  have hcol : ∀ (Q2 : List Value → Shared → Prop) (E2 : Value → Shared → Prop), (∀ e s', X.xe e s' → E2 e s') →
      (∀ (H : Hp) (s' : Shared) (ys : List V) (acc : Array Value), Inv (G.cx X.A.in1.in1.in1.in1 W) [] (wipe σ (own.map (·.2))) H s' → Vals ys acc.toList → ys.length ≤ sizeLine → (∀ p, H p = none → Q (.ref p) (upd H p (.tup ys))) → Q2 acc.toList s') →
      wpAny (model X.prog X.w) X.A.in1.in1 (collect (.ref a)) Q2 E2 s5 := fun Q2 E2 hE hQ => by
    refine collect_gx (Xg := G.cx X.A.in1.in1.in1.in1 W) rfl hr.hd (by have := hr.dp; show X.A.depth < _; omega) ⟨go, List.mem_singleton.mpr rfl⟩ hcp hac G0 w0 (fun e s' x => ?_) hQ
    obtain ⟨a1, a2, a3⟩ := gEr_use tk hns G.isg G.gob x
    exact ⟨a1, a2, hE _ _ a3⟩
  wp_walk using wpAny_typeOf hTI, hcol
  · exact fun e s' h => h
  intro H' s' ys acc I' r l f
  show wpAny _ _ (Builtin.Tuple.tupleExact acc.toList.toArray >>= fun v => ret v) _ _ _
  unfold Builtin.Tuple.tupleExact
  refine wpAny_bind (wpAny_newObj_type ?_ (by show acc.toList.toArray.size ≤ sizeLine; simp only [Array.toArray_toList]; rw [← Array.length_toList, ← r.length]; exact l))
  refine wpAny_pure ?_
  have e : acc.toList.toArray = acc := by simp
  rw [e]
  have J' := gx_back G.inv G.fpok I'
  have hp : H' s'.heap.objs.size = none := J'.hok.fresh (Nat.le_refl _)
  refine ⟨⟨_, Heap.get?_push_size _ rfl, rfl⟩, .ref s'.heap.objs.size, upd H' s'.heap.objs.size (.tup ys), J'.laid (t' := s'.toks) (fun b u e => Heap.get?_push_of_some _ e) (Nat.le_refl _) ?_, rfl, f _ hp⟩
  exact ⟨l, acc.toList, r, ⟨_, Heap.get?_push_size _ rfl, rfl, _, by rw [e]⟩⟩
end
end MX
end
section
set_option maxRecDepth 100000
set_option maxHeartbeats 2000000
namespace MX
open PySem PySem.Spec PyProof.Rows L2

theorem noteFrame_congr {e : Value} {env env' : Env} (h : env.frame = env'.frame) : noteFrame e env = noteFrame e env' := by
  unfold noteFrame PySem.frameOf
  rw [h]

/-- what a comprehension's block comes to, the exception's way with the block's own env -/
def cPost (M : Model) (A : Around) (E : Value → Shared → Prop) (use : Option (Value → Sem Unit)) (Q : Value → Shared → Prop) (acc : Value) (ce : Env) (r : Result) (s' : Shared) : Prop :=
  match r with
  | .ok f => compPost M A E use Q acc ce.locals (.ok f) s'
  | .error x => ∃ m, s'.heap.Ns ce.locals m ∧ ∀ h', Heap.SameBut ce.locals s'.heap h' → wpAny M A (passOn "comprehension.variables-let-go" x ce : Sem Value) (fun _ _ => False) E { s' with heap := h' }

theorem compr_x {M : Model} {A : Around} {E : Value → Shared → Prop} {s : Shared} {env : Env} {e : Expr} {scope : Scope} {pos : Pos} {newAcc first : Sem Value} {g : Comprehension} {gs : List Comprehension} {cl : List (Str × Addr)} {use : Option (Value → Sem Unit)} {Q : Value → Shared → Prop}
    (h1 : clausesOf e = g :: gs) (h2 : ∀ x, foldedSetIterable g.iter env x = pure x) (h3 : closureFor scope env = pure cl) (h4 : scope.kind = .function) (h5 : ∀ x ∈ scope.names, x.2 = .local → scope.names.lookup x.1 = some .local)
    (h : wpAny M A first (fun x s₁ => wpAny M A (pyIter x) (fun it s₂ => wpAny M A newAcc (fun acc s₃ => wpAny M A (newFunctionEnv scope env.globals cl [] env.qual none .none (some env)) (fun cenv s₄ =>
        codeAny M A (.compStart e 0 it acc { cenv with scope := relabel scope env }) (cPost M A E use Q acc { cenv with scope := relabel scope env }) s₄) E s₃) E s₂) E s₁) E s) :
    wpAny M A (comprehension e scope env pos newAcc false first use) Q E s := by
  have keepE : ∀ (x : Value) (s' : Shared), E x s' → E x s' := fun _ _ y => y
  unfold comprehension
  rw [h3, h1]
  refine wpAny_bind (wpAny_mono h (fun x s₁ q1 => ?_) keepE)
  refine wpAny_bind (wpAny_standAt (wpAny_bind (wpAny_of_eq (h2 x) (wpAny_bind (wpAny_holding (wpAny_mono q1 (fun it s₂ q2 => ?_) keepE))))))
  refine wpAny_standIf (wpAny_bind (wpAny_mono q2 (fun acc s₃ q3 => ?_) keepE))
  refine wpAny_bind (wpAny_pure (wpAny_bind (wpAny_mono q3 (fun cenv s₄ q4 => ?_) keepE)))
  dsimp only
  generalize hvs : (scope.names.filter fun x => (x.2 == .local || x.2 == .cell) && x.1 != (".0" : Str)).reverse = vs
  have mv : ∀ x ∈ vs, x ∈ scope.names := fun x hx => by
    rw [← hvs] at hx
    exact (List.mem_filter.mp (List.mem_reverse.mp hx)).1
  have loc : ∀ x ∈ vs, x.2 = .local → Env.kindOf { cenv with scope := relabel scope env } x.1 = some .local := fun x hx hl => lookup_relabel_local (h5 x (mv x hx) hl)
  have loc' : ∀ x ∈ vs.drop 1 ++ vs.take 1, x.2 = .local → Env.kindOf { cenv with scope := relabel scope env } x.1 = some .local := fun x hx => (List.mem_append.mp hx).elim (fun z => loc x (List.mem_of_mem_drop z)) fun z => loc x (List.mem_of_mem_take z)
  refine wpAny_holding (wpAny_bind (wpAny_attempt (wpAny_holding (wpAny_run (codeAny_mono q4 fun r s' hr => ?_)))))
  cases r with
  | error x =>
    obtain ⟨m, hn, q⟩ := hr
    refine wpAny_bind (wpAny_holding (wpAny_comp_letGo (cenv := { cenv with scope := relabel scope env }) h4 vs s' m loc hn fun h' m' _ sb => ?_))
    exact wpAny_mono (q h' sb) (fun _ _ f => f.elim) keepE
  | ok f =>
    cases use with
    | none =>
      obtain ⟨m, hn, q⟩ := hr
      refine wpAny_bind (wpAny_holding (wpAny_comp_letGo (cenv := { cenv with scope := relabel scope env }) h4 vs s' m loc hn fun h' m' _ sb => ?_))
      exact wpAny_pure (q h' sb)
    | some u =>
      refine wpAny_bind (wpAny_rule (wpAny_bind (wpAny_holding (wpAny_mono hr (fun _ s'' q => ?_) keepE))))
      obtain ⟨m, hn, q⟩ := q
      exact wpAny_bind (wpAny_comp_letGo (cenv := { cenv with scope := relabel scope env }) h4 (vs.drop 1 ++ vs.take 1) s'' m loc' hn fun h' m' _ sb => wpAny_pure (q h' sb))
end MX
end
section
set_option maxRecDepth 100000
set_option maxHeartbeats 2000000
namespace MX
open PySem PySem.Spec PyProof.Rows L2

/-- a comprehension's block with a wish of its own -/
abbrev bcx (X : Cx) (s : Shared) (H : Hp) (scope : Scope) (ce : Env) (fp : List Addr) (xe : Value → Shared → Prop) : Cx := { X.blk s H scope ce fp with xe := xe }
theorem Inv.bcx {X : Cx} {s s' : Shared} {H H' : Hp} {scope : Scope} {ce : Env} {fp : List Addr} {xe : Value → Shared → Prop} {pins : List (Addr × Obj)} {σ : L2.St} (I : Inv (X.blk s H scope ce fp) pins σ H' s') : Inv (bcx X s H scope ce fp xe) pins σ H' s' :=
  ⟨⟨I.ok.mod, I.ok.kind, I.ok.glob, I.ok.blt, I.ok.above, I.ok.inj, I.ok.has, I.ok.cab, I.ok.hd, I.ok.frames, I.ok.stk, I.ok.exf, I.ok.bs, I.ok.bsz, I.ok.noex, I.ok.exfs, I.ok.funs, I.ok.frf⟩, I.os, I.bare, I.base, I.loc, I.cell, I.free, I.freeC, I.pin, I.hok, I.len⟩

theorem funs_at {h h' base : Heap} : ∀ {l : List Env}, h.FunFrames base l → (∀ b ∈ frs l, h'.get? b = h.get? b) → h'.FunFrames base l
  | [], _, _ => trivial
  | env :: l, q, k => by
    obtain ⟨hk, ⟨L, o, hf, hn, ho, hd⟩, hr⟩ := q
    have hm : L ∈ frs (env :: l) := by unfold frs; rw [List.filterMap_cons, hf]; exact List.mem_cons_self
    refine ⟨hk, ⟨L, o, hf, hn, (k L hm).trans ho, hd⟩, funs_at hr fun b hb => k b ?_⟩
    unfold frs at hb ⊢
    rw [List.filterMap_cons, hf]
    exact List.mem_cons_of_mem _ hb
section
variable {X : Cx} {pins : List (Addr × Obj)} {σ : L2.St} {H3 : Hp} {s3 : Shared} {scope : Scope} {ce : Env} {fp : List Addr} {W Wb : WX} {xe : Value → Shared → Prop} {use : Option (Value → Sem Unit)} {Qf : Value → Shared → Prop} {acc : Value}
theorem blk_leave (I3 : Inv X pins σ H3 s3) (hfp : ∀ b ∈ fp, FpOk X pins H3 b) (hs : X.stack = X.env :: X.outer) (hf : X.env.frame = some X.env.locals) (hce : ce.frame = X.env.frame) (tk : Takes X W) (hW : ∀ cls d σ' H, Wb cls d σ' H → W cls d σ H)
    {u : Value} {s' : Shared} (x : XFl (bcx X s3 H3 scope ce fp xe) Wb u s') :
    notedBy (model X.prog X.w) X.A ce (fun e s' => cPost (model X.prog X.w) X.A X.xe use Qf acc ce (.error e) s') u s' := by
  obtain ⟨a, B, sI, pb, σb, H, cls, d, rfl, I, nb, up, fl, na, os, ag, w⟩ := x
  have hfr : X.A.frames = some (X.env :: X.outer) := by rw [I3.ok.frames, hs]
  have hL : s3.heap.objs.size ≤ ce.locals := I.ok.above
  have nF : ce.locals ∉ frs X.stack := fun hm => by
    obtain ⟨_, o, ho, _⟩ := I.ok.funs.mem hm
    exact absurd (Nat.lt_of_lt_of_le (Heap.lt_size ho) hL) (Nat.lt_irrefl _)
  -- the ground without the block's own dict
  obtain ⟨B', up', dn'⟩ := restrict B fun b => decide (b ≠ ce.locals)
  have b1 : ∀ b o, b ≠ ce.locals → B.get? b = some o → B'.get? b = some o := fun b o hb e => (up' b (decide_eq_true hb)).trans e
  have b2 : ∀ b o, B'.get? b = some o → B.get? b = some o ∧ b ≠ ce.locals := fun b o e => by
    by_cases hb : b = ce.locals
    · rw [dn' b (decide_eq_false fun z => z hb)] at e
      cases e
    · exact ⟨(up' b (decide_eq_true hb)).symm.trans e, hb⟩
  have bn : ∀ b, B.get? b = none → B'.get? b = none := fun b e => by
    cases q : B'.get? b with
    | none => rfl
    | some o => rw [(b2 b o q).1] at e; cases e
  obtain ⟨m, hn, _⟩ := I.loc
  have hn : sI.heap.Ns ce.locals m := hn
  obtain ⟨oC, es, ep, hoC, hdC, hrC⟩ := hn
  have hBC : B.get? ce.locals = some oC := nb _ _ hoC nF
  have fl' : HandSPX.FlyingZ B' (X.env :: X.outer) a (Zc cls d) s'.heap := by
    obtain ⟨f1, f2, f3, oe, vs, T, oT, ts, t1, t2, t3, t4, t5, t6⟩ := fl
    have f3 : s'.heap.FunFrames B X.stack := f3
    refine ⟨fun b o e => f1 b o (b2 b o e).1, bn a f2, ?_, oe, vs, T, oT, ts, t1, t2, t3, t4, bn T t5, t6⟩
    rw [← hs]
    exact funFrames_none f3 fun L hL => by
      obtain ⟨z, _⟩ := f3.mem hL
      exact bn L z
  show wpAny _ _ (noteFrame (.ref a) ce) _ _ _
  rw [noteFrame_congr (env' := X.env) hce]
  refine HandSPX.looks_onZ Zc.steady hfr hf fl' fun h1 hh u1 => ?_
  have stB : B.StaysIn s'.heap := fl.1
  have hC0 : s'.heap.get? ce.locals = some oC := stB _ _ hBC
  have nfC : ∀ vs, oC.data ≠ .fields vs := fun vs z => by rw [hdC] at z; cases z
  obtain ⟨slC, hC1⟩ := u1 _ _ hC0 nfC
  refine ⟨m, ⟨_, es, ep, hC1, hdC, hrC⟩, fun h2 sb => ?_⟩
  have hh2 : HandSPX.HeldZ B' (X.env :: X.outer) a (Zc cls d) X.env.locals h2 := by
    obtain ⟨f1, f2, f3, oe, vs, T, oT, ts, t1, t2, t3, t4, t5, t6, t7, t8, t9⟩ := hh
    have ne : ∀ {b : Addr} {o : Obj} {vs : Array Value}, h1.get? b = some o → o.data = .fields vs → b ≠ ce.locals := fun {b o vs} e hd z => by
      rw [z, hC1] at e
      cases e
      exact nfC vs hd
    refine ⟨fun b o e => (sb.2 b (b2 b o e).2).trans (f1 b o e), f2, funs_at f3 fun b hb => sb.2 b fun z => nF (by rw [hs, ← z]; exact hb), oe, vs, T, oT, ts, (sb.2 a (ne t1 t3)).trans t1, t2, t3, t4, t5, t6, (sb.2 T (ne t7 t8)).trans t7, t8, t9⟩
  have u2 : ∀ b o, sI.heap.get? b = some o → b ≠ ce.locals → (∀ vs, o.data ≠ .fields vs) → ∃ sl, h2.get? b = some { o with slots := sl } := fun b o e hb hd => by
    obtain ⟨sl, e1⟩ := up b o e hd
    obtain ⟨sl2, e2⟩ := u1 b _ e1 hd
    exact ⟨sl2, (sb.2 b hb).trans e2⟩
  obtain ⟨oe, vs, T, oT, ts, t1, t2, t3, t4, t5, t6, t7, t8, t9⟩ := hh2.2.2.2
  unfold PySem.passOn
  refine wpAny_bind (wpAny_field t1 t3 t4 ?_)
  rw [if_neg (show ¬ ((Value.ref T == Value.none) = true) from by simp)]
  refine wpAny_bind ?_
  rw [hce, hf]
  refine HandSPX.setFlight_onZ (s := { s' with heap := h2 }) hh2 fun h3 hh3 u3 => wpAny_throw (tk _ _ ?_)
  obtain ⟨G, gB, gF, gh, gn⟩ := ground_of (fs := frs X.stack) hh3.1
  have hCs3 : ∀ b o, s3.heap.get? b = some o → b ≠ ce.locals := fun b o e z => by
    have := Heap.lt_size e
    rw [z] at this
    exact absurd (Nat.lt_of_lt_of_le this hL) (Nat.lt_irrefl _)
  have slot : ∀ b o, s3.heap.get? b = some o → b ∈ frs X.stack → b ∉ fp → ∃ sl, G.get? b = some { o with slots := sl } := fun b o e hb hx => by
    obtain ⟨_, o₀, e₀, hnf⟩ := I.ok.funs.mem hb
    have e₀ : s3.heap.get? b = some o₀ := e₀
    rw [e] at e₀; cases e₀
    obtain ⟨sl, e1⟩ := I.base.slot b o e (I.ok.frf b hb) hb hx
    obtain ⟨sl2, e2⟩ := u2 b _ e1 (hCs3 b o e) hnf
    obtain ⟨sl3, e3⟩ := u3 b _ e2 hnf
    exact ⟨sl3, (gF b hb).trans e3⟩
  have toB : ∀ b o, sI.heap.get? b = some o → b ∉ frs X.stack → b ≠ ce.locals → G.get? b = some o := fun b o e hb hn => gB b o (b1 b o hn (nb b o e hb))
  have hokB : HOk X.prog X.w H B' := fun b o e => by
    refine (I.inGround nb b o e).stay (fun c u hc q => b1 c u (fun z => ?_) q) (fun _ q => q) fun _ _ q => q
    have hfree : H ce.locals = none := I.free
    rcases hc with hc | hc
    · rw [← hc, z, hfree] at e; cases e
    · rw [z, hfree] at hc; cases hc
  have J : Inv X pins σ H { sI with heap := G, gens := s'.gens, drawn := s'.drawn, toks := s'.toks } := by
    refine I3.call' (ch := fp) I.os ⟨fun b o e n hb hx => toB b o (I.base.keep b o e n hb hx) hb (hCs3 b o e), fun b o e n hb hx => slot b o e hb hx, I.base.free, fun b o e hx => ?_, I.base.tups, I.base.frzs, I.base.tbls⟩
      (hokB.kept gB) ag fun b hb => ⟨(hfp b hb).2.2.2.1, (hfp b hb).2.1, (hfp b hb).2.2.2.2.1, (hfp b hb).2.2.2.2.2⟩
    by_cases hb : b ∈ frs X.stack
    · obtain ⟨sl, q⟩ := slot b o e hb hx
      exact ⟨_, q⟩
    · obtain ⟨o', q⟩ := I.base.there b o e hx
      exact ⟨o', toB b o' q hb (hCs3 b o e)⟩
  refine ⟨a, B', _, pins, σ, H, cls, d, rfl, J, gn, Heap.UpToSlots.of_keeps gh, .inr (.inr ?_), na, os, ag, hW _ _ _ _ w⟩
  rw [hs]
  exact hh3
end
end MX
end
section
set_option maxRecDepth 100000
set_option maxHeartbeats 2000000
namespace MX
open PySem PySem.Spec PyProof.Rows L2

/-- what is asked of the parts of a comprehension's block; σ: the names around it, at its start -/
def BParts (X : Cx) (tg : Expr) (ifs : List Expr) (elt : Expr) (scope : Scope) (W : WX) (g : L2.St → TG) (tt : L2.St → TT) (te : L2.St → TE) : Prop :=
  ∀ (s : Shared) (H : Hp) (C : Addr) (cl : List (Str × Addr)) (fp : List Addr) (xe : Value → Shared → Prop) (pins : List (Addr × Obj)) (σ : L2.St), Inv X pins σ H s → (∀ b ∈ fp, FpOk X pins H b) →
    (∀ Wg : WX, (∀ cls d σ' H, Wg cls d σ' H → ∀ σ, W cls d σ H) → TakF (bcx X s H scope (compEnvC scope cl C X.env) fp xe) Wg) →
    PG (bcx X s H scope (compEnvC scope cl C X.env) fp xe) tg (g σ) ∧ PTs (bcx X s H scope (compEnvC scope cl C X.env) fp xe) ifs (tt σ) ∧ PE (bcx X s H scope (compEnvC scope cl C X.env) fp xe) elt (te σ)

/-- [elt for target in iter if ..]: as HandS has it, the parts told at the names around -/
def tLcX (wi : TI) (g : L2.St → TG) (tt : L2.St → TT) (te : L2.St → TE) (vs : List Nat) : TE := fun σ H Q => wi σ H fun J H1 => ∀ D, H1 D = none → ∃ W : Nat → Nat → Hp → Prop, (∃ m, W 0 m (upd H1 D (.lst []))) ∧ ∀ i m H, W i m H →
  (J.stop i H ∧ Q (.ref D) H) ∨ (J.go i H ∧ ∃ Nx : Hp → Prop, (∀ H', Nx H' → ∃ m', m' < m ∧ W (i + 1) m' H') ∧ ∀ x H', J.yld i H x H' → g σ x (wipe σ vs) H' fun σ2 H2 => wipe σ2 vs = wipe σ vs ∧ tt σ σ2 H2 fun b H3 =>
    if b = true then te σ σ2 H3 fun y H4 => ∃ acc, H4 D = some (.lst acc) ∧ acc.length < sizeLine ∧ Nx (upd H4 D (.lst (acc ++ [y]))) else Nx H3)

section
variable {X : Cx}
theorem lc_x {pins : List (Addr × Obj)} {s : Shared} {σ : L2.St} {H : Hp} {Q : VK} {elt tg iter : Expr} {ifs : List Expr} {scope : Scope} {own : List (Str × Nat)} {pos pos' : Pos} {wi : TI} {g : L2.St → TG} {tt : L2.St → TT} {te : L2.St → TE} {use : Option (Value → Sem Unit)} {Qf : Value → Shared → Prop} {W : WX}
    (hc : X.calm = true) (hN : X.N.Nodup) (I : Inv X pins σ H s) (hi : PI X tg iter wi) (ok : BlkOk X.N X.env.scope scope own) (tkb : (X.stack = X.env :: X.outer ∧ X.env.frame = some X.env.locals ∧ Takes X W) ∨ (∀ cls d σ H, ¬ W cls d σ H))
    (parts : BParts X tg ifs elt scope W g tt te) (hs : ∀ x, foldedSetIterable iter X.env x = pure x)
    (h : tLcX wi g tt te (own.map (·.2)) σ H Q)
    (hRR : ∀ D C s' m H', Inv X pins σ H' s' → Q (.ref D) H' → s'.heap.Ns C m → FpOk X pins H' C → compPost (model X.prog X.w) X.A X.xe use Qf (.ref D) C (.ok .next) s') :
    wpAny (model X.prog X.w) X.A (comprehension (.ListComp elt [⟨tg, iter, ifs, 0⟩] scope pos) scope X.env pos' (newList []) false (eval iter X.env) use) Qf X.xe s := by
  have hfree : ∀ y ∈ scope.names, y.2 = .free → ∃ c, X.env.cells.lookup y.1 = some c := fun y hy e => (ok.free y hy e).elim (fun k => I.ok.has _ (.inl k)) fun k => I.ok.has _ (.inr k)
  refine compr_x (use := use) rfl hs (closure_ok hfree) ok.kind (fun y hy e => by rw [ok.uniq y hy, e]) (thn (hi.run pins s σ H _ I h) fun xv s1 hx => thn hx fun itv s2 h2 => ?_)
  obtain ⟨it, fp, tn, J, H2, e, I2, T, st2, f2, q⟩ := h2
  subst e
  refine wpAny_newObj_type (newEnv_comp ?_) (by show 0 ≤ sizeLine; decide)
  generalize hD : s2.heap.objs.size = D
  have hDn : H2 D = none := I2.hok.fresh (Nat.le_of_eq hD)
  obtain ⟨Wm, ⟨m0, w0⟩, turn⟩ := q D hDn
  generalize hs3 : ({ s2 with heap := s2.heap.push { cls := .type "list", data := .seq ([] : List Value).toArray } } : Shared) = s3
  have h3 : s3.heap = s2.heap.push { cls := .type "list", data := .seq ([] : List Value).toArray } := by rw [← hs3]
  have I3 : Inv X pins σ (upd H2 D (.lst [])) s3 := by
    rw [← hs3]
    refine I2.laid (t' := s2.toks) (fun b o e => Heap.get?_push_of_some _ e) (Nat.le_of_eq hD) ⟨Nat.zero_le _, [], 0, .nil, ?_⟩
    rw [← hD]; exact Heap.get?_push_size _ rfl
  have sz : ∀ b ∈ fp, b < s2.heap.objs.size := fun b hb => (T.obj _ _ st2 b hb).elim fun o z => Heap.lt_size z.1
  have f3 : ∀ b ∈ fp, FpOk X pins (upd H2 D (.lst [])) b ∧ b < s3.heap.objs.size := fun b hb => by
    have hlt := sz b hb
    refine ⟨⟨?_, (f2 b hb).2⟩, by rw [h3, Heap.size_push]; exact Nat.lt_succ_of_lt hlt⟩
    rw [upd_ne (by rw [← hD]; exact Nat.ne_of_lt hlt)]; exact (f2 b hb).1
  have st3 : tn 0 s3.heap := T.keep _ _ _ st2 fun b _ o e => by rw [h3]; exact Heap.get?_push_of_some _ e
  have I4 := block_start I3 ok hN f3
  have nfp : ∀ b ∈ fp, (upd H2 D (.lst [])) b = none := fun b hb => (f3 b hb).1.1
  generalize hcl : cellsFrom (s3.heap.objs.size + 1) scope.names (cloFrom X.env.cells scope.names []) = cl at I4
  show codeAny _ _ (.compStart (.ListComp elt [⟨tg, iter, ifs, 0⟩] scope pos) 0 (.ref it) (.ref D) (compEnvC scope cl s3.heap.objs.size X.env)) (cPost (model X.prog X.w) X.A X.xe use Qf (.ref D) (compEnvC scope cl s3.heap.objs.size X.env)) { s3 with heap := pushCells (s3.heap.push { cls := .type "dict", data := .dict #[] }) scope.names }
  generalize hxe : (notedBy (model X.prog X.w) X.A (compEnvC scope cl s3.heap.objs.size X.env) fun e s' => cPost (model X.prog X.w) X.A X.xe use Qf (.ref D) (compEnvC scope cl s3.heap.objs.size X.env) (.error e) s') = xe
  obtain ⟨pg, pt, pe⟩ := parts s3 (upd H2 D (.lst [])) s3.heap.objs.size cl fp xe pins σ I3 (fun b hb => (f3 b hb).1) fun Wg hW => by
    rcases tkb with ⟨k1, k2, k3⟩ | k
    · intro u s' x
      have z := blk_leave (ce := compEnvC scope cl s3.heap.objs.size X.env) (use := use) (Qf := Qf) (acc := .ref D) I3 (fun b hb => (f3 b hb).1) k1 k2 rfl k3 (fun cls d σ' H h => hW cls d σ' H h σ) x
      rw [hxe] at z
      exact z
    · rintro u s' ⟨a, B, sI, pb, σb, Hb, cls, d, _, _, _, _, _, _, _, _, w⟩
      exact (k cls d σb Hb (hW _ _ _ _ w σb)).elim
  generalize hce : compEnvC scope cl s3.heap.objs.size X.env = ce at I4 pg pt pe hxe ⊢
  have cL : ce.locals = s3.heap.objs.size := by subst hce; rfl
  generalize hH3 : upd H2 D (.lst []) = H3 at I3 I4 pg pt pe w0 nfp f3
  generalize hs4 : ({ s3 with heap := pushCells (s3.heap.push { cls := .type "dict", data := .dict #[] }) scope.names } : Shared) = s4 at I4 ⊢
  have I4 : Inv (bcx X s3 H3 scope ce fp xe) [] (wipe σ (own.map (·.2))) H3 s4 := Inv.bcx I4
  have st4 : tn 0 s4.heap := T.keep _ _ _ st3 fun b _ o e => by rw [← hs4]; exact pushCells_keeps _ _ _ _ (Heap.get?_push_of_some _ e)
  have stat : ∀ {σ' : L2.St} {H' : Hp} {s' : Shared}, Inv (bcx X s3 H3 scope ce fp xe) [] σ' H' s' → (∀ b ∈ fp, H' b = none) → ∀ b ∈ fp, FpOk (bcx X s3 H3 scope ce fp xe) [] H' b := fun {σ' H' s'} I' hn b hb =>
    ⟨hn b hb, (I'.ok.exf b hb).1, I'.ok.exfs b hb, .inl hb, fun x c e => (I'.ok.exf b hb).2 x c e, fun p hp => nomatch (show p ∈ ([] : List (Addr × Obj)) from hp)⟩
  have loop : codeAny (model X.prog X.w) X.A (.compLoop (.ListComp elt [⟨tg, iter, ifs, 0⟩] scope pos) 0 (.ref it) (.ref D) ce) (cPost (model X.prog X.w) X.A X.xe use Qf (.ref D) ce) s4 := by
    refine compLoop_any (fun n s' => ∃ i H', Inv (bcx X s3 H3 scope ce fp xe) [] (wipe σ (own.map (·.2))) H' s' ∧ tn i s'.heap ∧ (∀ b ∈ fp, H' b = none) ∧ Wm i n H') ?_ m0 ⟨0, H3, I4, st4, nfp, w0⟩
    rintro n s5 ⟨i, H5, I5, st5, n5, w5⟩
    rw [hxe]
    rcases turn i n H5 w5 with ⟨stop, qq⟩ | ⟨go, Nx, hNx, step⟩
    · refine thnF (T.done (bcx X s3 H3 scope ce fp xe) rfl rfl rfl hc i [] s5 _ H5 (fun _ _ => False) I5 (stat I5 n5) st5 stop) fun r s6 ⟨hr, I6⟩ => ?_
      subst hr
      have I7 : Inv X pins σ H5 s6 := I3.call' (ch := fp) I6.os I6.base I6.hok I6.bare fun b hb => ⟨(f3 b hb).1.2.2.2.1, (f3 b hb).1.2.1, (f3 b hb).1.2.2.2.2.1, (f3 b hb).1.2.2.2.2.2⟩
      have nC : H5 ce.locals = none := I6.free
      obtain ⟨m, hn, _⟩ := I6.loc
      have hn : s6.heap.Ns ce.locals m := hn
      exact hRR D ce.locals s6 m H5 I7 qq hn (by rw [cL] at nC ⊢; exact I3.fpOk (Nat.le_refl _) nC)
    · refine thnF (T.item (bcx X s3 H3 scope ce fp xe) rfl rfl rfl hc i [] s5 _ H5 (fun _ _ => False) I5 (stat I5 n5) st5 go) fun r s6 ⟨u, hr, h6⟩ => ?_
      subst hr
      refine thnF h6 fun _ s7 ⟨x, H7, I7, r7, y7, st7, n7⟩ => ?_
      have I7' := I7.pinned (stat I7 n7) (T.obj _ _ st7)
      refine thn (pg.run _ s7 _ H7 x u _ I7' r7 (step x H7 y7)) fun _ s8 ⟨σ8, H8, I8, hw8, q8⟩ => ?_
      refine thn (pt.run _ s8 σ8 H8 _ I8 q8) fun b s9 ⟨H9, I9, q9⟩ => ?_
      have fin : ∀ {s' : Shared} {H' : Hp}, Inv (bcx X s3 H3 scope ce fp xe) ([] ++ pinsAt fp s7.heap) σ8 H' s' → Nx H' → ∃ m, m < n ∧ ∃ i H', Inv (bcx X s3 H3 scope ce fp xe) [] (wipe σ (own.map (·.2))) H' s' ∧ tn i s'.heap ∧ (∀ b ∈ fp, H' b = none) ∧ Wm i m H' := fun {s' H'} I' nx => by
        obtain ⟨m', hm, w'⟩ := hNx H' nx
        have pin' : ∀ b ∈ fp, ∀ o, s7.heap.get? b = some o → s'.heap.get? b = some o ∧ H' b = none := fun b hb o e =>
          (I'.pin (b, o) (List.mem_append_right _ (List.mem_append_right _ (mem_pinsAt hb e)))).elim fun z1 z2 => ⟨z1, z2.1⟩
        have hl : (wipe σ (own.map (·.2))).length = σ8.length := by rw [← hw8, wipe_length]
        refine ⟨m', hm, i + 1, H', (I'.unpinned (pins := [])).weak hl (fun j v e => ?_), T.keep _ _ _ st7 fun b hb o e => (pin' b hb o e).1, fun b hb => ?_, w'⟩
        · rw [← hw8] at e
          exact (wipe_some e).1
        · obtain ⟨o, e, _⟩ := T.obj _ _ st7 b hb
          exact (pin' b hb o e).2
      cases b with
      | false =>
        simp only [Bool.false_eq_true, if_false] at q9 ⊢
        exact fin I9 q9
      | true =>
        simp only [if_true] at q9 ⊢
        refine thn (pe.run _ s9 σ8 H9 _ I9 q9) fun z s10 ⟨yv, H10, I10, r10, acc, hD10, hz10, nx⟩ => ?_
        exact app_ok (X := bcx X s3 H3 scope ce fp xe) I10 hD10 hz10 r10 fun s11 I11 => fin I11 nx
  exact codeAny_compStart_list loop (T.self X.A 0 _ _ _ st4 loop)
/-- as a value -/
theorem pe_lcX {elt tg iter : Expr} {ifs : List Expr} {scope : Scope} {own : List (Str × Nat)} {pos : Pos} {wi : TI} {g : L2.St → TG} {tt : L2.St → TT} {te : L2.St → TE} {W : WX} (hc : X.calm = true) (hN : X.N.Nodup) (hi : PI X tg iter wi) (ok : BlkOk X.N X.env.scope scope own)
    (tkb : (X.stack = X.env :: X.outer ∧ X.env.frame = some X.env.locals ∧ Takes X W) ∨ (∀ cls d σ H, ¬ W cls d σ H)) (parts : BParts X tg ifs elt scope W g tt te) (hs : ∀ x, foldedSetIterable iter X.env x = pure x) :
    PE X (.ListComp elt [⟨tg, iter, ifs, 0⟩] scope pos) (tLcX wi g tt te (own.map (·.2))) := by
  refine ⟨fun pins s σ H Q I h => ?_⟩
  rw [eval_ListComp]
  refine lc_x hc hN I hi ok tkb parts hs h fun D C s' m H' I' q hn f => ⟨m, hn, fun h'' sb => ?_⟩
  obtain ⟨f0, f1, f2, f3, f4, f5⟩ := f
  exact ⟨.ref D, H', I'.turned (t' := s'.toks) (fun b o hb e => (sb.2 b hb).trans e) f0 f1 f3 f4 f5, rfl, q⟩
/-- name = [..], the stores exchanged -/
theorem ps_lcX {i : Nat} {y : Str} {py : Pos} {elt tg iter : Expr} {ifs : List Expr} {scope : Scope} {own : List (Str × Nat)} {pos spos : Pos} {wi : TI} {g : L2.St → TG} {tt : L2.St → TT} {te : L2.St → TE} {W : WX} (hc : X.calm = true) (hN : X.N.Nodup) (hy : X.N[i]? = some y) (hyl : X.env.scope.names.lookup y = some .local)
    (hsw : swapsWith (.ListComp elt [⟨tg, iter, ifs, 0⟩] scope pos) (some (.Name y py)) spos.line X.env = pure true) (hi : PI X tg iter wi) (ok : BlkOk X.N X.env.scope scope own)
    (tkb : (X.stack = X.env :: X.outer ∧ X.env.frame = some X.env.locals ∧ Takes X W) ∨ (∀ cls d σ H, ¬ W cls d σ H)) (parts : BParts X tg ifs elt scope W g tt te) (hs : ∀ x, foldedSetIterable iter X.env x = pure x) :
    PS X (.Assign [.Name y py] (.ListComp elt [⟨tg, iter, ifs, 0⟩] scope pos) spos) (tAsg (tLcX wi g tt te (own.map (·.2))) (gName i)) := by
  refine ⟨fun pins s σ H D I h => ?_⟩
  rw [exec_Assign_Name_used _ _ _ _ hsw]
  refine wpAny_bind (wpAny_standAt (wpAny_bind ?_))
  show wpAny _ X.A (do let _ ← comprehension (.ListComp elt [⟨tg, iter, ifs, 0⟩] scope pos) scope X.env (firstIterPos [⟨tg, iter, ifs, 0⟩] pos) (newList []) false (eval iter X.env) (some (assign (.Name y py) X.env))) _ _ s
  have h : tLcX wi g tt te (own.map (·.2)) σ H (fun x H1 => gName i x σ H1 D.nx) := h
  refine wpAny_bind (thn (lc_x (Qf := fun _ s' => SP X pins D .next s') hc hN I hi ok tkb parts hs h fun L C s' m H' I' q hn f => ?_) fun _ s' hq => wpAny_pure (wpAny_pure hq))
  show wpAny _ _ (assign (.Name y py) X.env (.ref L)) _ _ _
  refine wpAny_assign_Name (store_ok2 (v := V.ref L) I' hN hy (.inl hyl) rfl (fun s2 I2 ⟨a, sb, ha⟩ => ?_) (.inr hyl))
  obtain ⟨f0, f1, f2, f3, f4, f5⟩ := f
  have haC : C ≠ a := ha.elim (fun z => by rw [z]; exact f1) fun z e => f4 y a z e.symm
  exact ⟨m, hn.sameBut sb haC, fun h3 sb3 => ⟨_, H', I2.turned (t' := s2.toks) (fun b o hb e => (sb3.2 b hb).trans e) f0 f1 f3 f4 f5, q⟩⟩
end
end MX
end
section
set_option maxRecDepth 100000
set_option maxHeartbeats 2000000
namespace MX
open PySem PySem.Spec PyProof.Rows L2 LamX

/-- the closure of a lambda without parameters, as it stands at f -/
def CloH (f c' : Addr) (qual : Str) (params : Arguments) (body : Expr) (scope : Scope) (cl : List (Str × Addr)) : HO :=
  .ext fun h => ∃ pm ctv, h.get? f = some (PySem.W.kla_obj "<lambda>" qual params body scope cl pm c' ctv)
theorem cloH_ne {f c' : Addr} {qual : Str} {params : Arguments} {body : Expr} {scope : Scope} {cl : List (Str × Addr)} (ps : Array Value) : CloH f c' qual params body scope cl ≠ .tbl ps := fun z => by
  unfold CloH at z; cases z
section
variable {X : Cx} {pins : List (Addr × Obj)} {σ : L2.St} {H : Hp} {s : Shared}
/-- an object of ours is tracked from now on -/
theorem Inv.track {f : Addr} {u : HO} (I : Inv X pins σ H s) (hf : X.s_0.heap.objs.size ≤ f) (hL : f ≠ X.env.locals) (hC : ∀ x c, X.env.cells.lookup x = some c → c ≠ f) (hp : ∀ p ∈ X.pn ++ pins, p.1 ≠ f) (hn : H f = none)
    (hu : ObjOk X.prog X.w (upd H f u) s.heap f u) : Inv X pins σ (upd H f u) s := by
  have ne : ∀ {b o}, H b = some o → b ≠ f := fun {b o} e => ne_of_none e hn
  have lt : ∀ b o, X.s_0.heap.get? b = some o → b ≠ f := fun b o e z => by
    have := Heap.lt_size e
    rw [z] at this
    exact absurd (Nat.lt_of_lt_of_le this hf) (Nat.lt_irrefl _)
  refine ⟨I.ok, I.os, I.bare, ⟨I.base.keep, I.base.slot, fun b o e n hx => by rw [upd_ne (lt b o e)]; exact I.base.free b o e n hx, I.base.there, fun b xs e => ?_, fun b o u e => ?_, fun b ps e => ?_⟩, I.loc, I.cell, by rw [upd_ne (Ne.symm hL)]; exact I.free,
    fun x c e => by rw [upd_ne (hC x c e)]; exact I.freeC x c e, fun p hp' => ?_, fun b o e => ?_, I.len⟩
  · have z := I.base.tups b xs e
    rw [upd_ne (ne z)]; exact z
  · have z := I.base.frzs b o u e
    rw [upd_ne (ne z)]; exact z
  · obtain ⟨more, z⟩ := I.base.tbls b ps e
    exact ⟨more, by rw [upd_ne (ne z)]; exact z⟩
  · obtain ⟨h1, h2, h3⟩ := I.pin p hp'
    exact ⟨h1, by rw [upd_ne (hp p hp')]; exact h2, h3⟩
  · by_cases hb : b = f
    · subst hb
      rw [upd_same] at e; cases e
      exact hu
    · rw [upd_ne hb] at e
      exact (I.hok b o e).stay (fun _ _ _ q => q) (fun c q => by rw [upd_ne (ne q)]; exact q) fun c xs q => by rw [upd_ne (ne q)]; exact q
theorem Inv.trackYoung {f : Addr} {u : HO} {h0 : Nat} (I : Inv X pins σ H s) (I0 : ∃ H0 s0, Inv X pins σ H0 s0 ∧ s0.heap.objs.size ≤ f) (hn : H f = none)
    (hu : ObjOk X.prog X.w (upd H f u) s.heap f u) : Inv X pins σ (upd H f u) s := by
  obtain ⟨H0, s0, J, hf⟩ := I0
  have F := J.fpOk (H' := H) hf hn
  refine Inv.track I (Nat.le_trans J.sz hf) F.2.1 F.2.2.2.2.1 F.2.2.2.2.2 hn hu

/-- a lambda is made: a closure that is tracked -/
theorem lam_mk {T : List (Addr × Str)} {c P : Addr} {params : Arguments} {body : Expr} {scope : Scope} {pos : Pos} {E : Value → Shared → Prop} {Q : Value → Shared → Prop} (I : Inv X pins σ H s) (TB : LamX.TabB X.base X.mg c P) (hcode : X.env.code = .ref c)
    (hm : (P, X.env.qual ++ "<lambda>") ∈ T) (hu : ∀ p ∈ T, p.1 = P → p.2 = X.env.qual ++ "<lambda>") (hT : Tabs T H) (hdef : defaultsOf params X.env = ([], [])) (hfree : ∀ y ∈ scope.names, y.2 = .free → ∃ c, X.env.cells.lookup y.1 = some c)
    (h : ∀ (f c' : Addr) (H1 : Hp) (s' : Shared), Inv X pins σ H1 s' → ExtN H H1 → Tabs T H1 → (∀ b ps, b ≠ P → H b = some (.tbl ps) → H1 b = some (.tbl ps)) → H f = none → H1 f = some (CloH f c' (X.env.qual ++ "<lambda>") params body scope (cloFrom X.env.cells scope.names [])) → H1 c' = some (CodeO c' (X.env.qual ++ "<lambda>")) → Q (.ref f) s') :
    wpAny (model X.prog X.w) X.A (eval (.Lambda params body scope pos) X.env) Q E s := by
  obtain ⟨ps, hP, ht, ha⟩ := hT _ hm
  refine PySem.W.kla_eval hdef ?_
  have bP : s.heap.BuiltinsAt X.mg P := TB.bm.keeps I.bk
  have hP' : s.heap.get? P = some { cls := .none, data := .fields ps } := I.hok P _ hP
  have fin : ∀ (f c' : Addr) (H1 : Hp) (s' : Shared), s.heap.objs.size ≤ f → Inv X pins σ H1 s' → ExtN H H1 → Tabs T H1 → (∀ b ps, b ≠ P → H b = some (.tbl ps) → H1 b = some (.tbl ps)) → H1 f = none → (∃ pm ctv, s'.heap.get? f = some (PySem.W.kla_obj "<lambda>" (X.env.qual ++ "<lambda>") params body scope (cloFrom X.env.cells scope.names []) pm c' ctv)) →
      H1 c' = some (CodeO c' (X.env.qual ++ "<lambda>")) → Q (.ref f) s' := fun f c' H1 s' hf I1 eN T1 eT hn hob hco => by
    have ne : ∀ {b o}, H1 b = some o → b ≠ f := fun {b o} e => ne_of_none e hn
    have I2 := Inv.trackYoung (h0 := 0) (u := CloH f c' (X.env.qual ++ "<lambda>") params body scope (cloFrom X.env.cells scope.names [])) I1 ⟨H, s, I, hf⟩ hn ⟨hob, hob.elim fun _ z => z.elim fun _ z => ⟨_, z⟩, fun h1 h2 q st => q.elim fun pm z => z.elim fun ctv z => ⟨pm, ctv, st _ z⟩⟩
    have e2 : ExtN H1 (upd H1 f (CloH f c' (X.env.qual ++ "<lambda>") params body scope (cloFrom X.env.cells scope.names []))) := fun b o e _ => by rw [upd_ne (ne e)]; exact e
    refine h f c' _ s' I2 (eN.trans e2) (fun p hp => ?_) (fun b ps hb e => by rw [upd_ne (ne (eT b ps hb e))]; exact eT b ps hb e) (I.hok.fresh hf) upd_same (e2 _ _ hco codeO_ne)
    obtain ⟨ps', a1, a2, a3⟩ := T1 p hp
    refine ⟨ps', by rw [upd_ne (ne a1)]; exact a1, a2, fun p' cv hcv => ?_⟩
    obtain ⟨c0, e0, e1⟩ := a3 p' cv hcv
    exact ⟨c0, e0, e2 _ _ e1 codeO_ne⟩
  cases hc : codeAmong pos ps.toList with
  | some cv =>
    obtain ⟨c', rfl, hco⟩ := ha pos cv hc
    refine PySem.W.kla_makeFunctionHit (mg := X.mg) (c := c) (P := P) (ps := ps) (closure_ok hfree) I.ok.glob (I.mod.glob.keeps I.bk) hcode (TB.code.keeps I.bk) hP' ht hc bP fun ctv h' tk hx hsz => ?_
    refine fin h'.objs.size c' H { s with heap := h'.push (PySem.W.kla_obj "<lambda>" (X.env.qual ++ "<lambda>") params body scope (cloFrom X.env.cells scope.names []) ((X.mg "__name__").getD .none) c' ctv), toks := tk } hsz ?_ (ExtN.refl H) hT (fun _ _ _ e => e) (I.hok.fresh hsz) ⟨_, _, Heap.get?_push_size _ rfl⟩ hco
    exact I.kept fun b o e => Heap.get?_push_of_some _ (hx b o e)
  | none =>
    refine PySem.W.kla_makeFunction (mg := X.mg) (c := c) (P := P) (ps := ps) (closure_ok hfree) I.ok.glob (I.mod.glob.keeps I.bk) hcode (TB.code.keeps I.bk) hP' ht hc TB.gP bP fun c' ctv h' tk hx hge hlt hrec htb => ?_
    obtain ⟨c2, oc, vs, t, e2, hoc, hd, hv⟩ := hrec
    cases e2
    have hsz : s.heap.objs.size ≤ h'.objs.size := Nat.le_trans hge (Nat.le_of_lt hlt)
    have nC : H c' = none := I.hok.fresh hge
    have I1 := LamX.inv_table (t' := tk) (more := #[rawInt pos.line, rawInt pos.col, .ref c']) (h' := h'.push (PySem.W.kla_obj "<lambda>" (X.env.qual ++ "<lambda>") params body scope (cloFrom X.env.cells scope.names []) ((X.mg "__name__").getD .none) c' ctv)) I hP
      (fun b o hb e => Heap.get?_push_of_some _ (hx b o hb e)) (Heap.get?_push_of_some _ htb) hge ⟨oc, vs, t, Heap.get?_push_of_some _ hoc, hd, hv⟩
    have hE : ExtN H (upd (upd H P (.tbl (ps ++ #[rawInt pos.line, rawInt pos.col, .ref c']))) c' (CodeO c' (X.env.qual ++ "<lambda>"))) := fun b o e n => by
      rw [upd_ne (ne_of_none e nC), upd_ne (fun z => n ps (Option.some.inj (e.symm.trans (by rw [z]; exact hP))))]; exact e
    have eL : (ps ++ #[rawInt pos.line, rawInt pos.col, .ref c']).toList = ps.toList ++ [rawInt pos.line, rawInt pos.col, .ref c'] := by simp
    refine fin h'.objs.size c' _ _ hsz I1 hE (fun p hp => ?_) (fun b ps hb e => by rw [upd_ne (ne_of_none e nC), upd_ne hb]; exact e) ?_ ⟨_, _, Heap.get?_push_size _ rfl⟩ upd_same
    · by_cases hb : p.1 = P
      · rw [hu p hp hb, hb]
        refine ⟨_, by rw [upd_ne (ne_of_none hP nC), upd_same], by rw [eL]; exact PySem.TriplesOk_snoc _ _ _ _ ht, fun p' cv hcv => ?_⟩
        rw [eL] at hcv
        rcases among_app _ ht hcv with z | z
        · exact (ha p' cv z).elim fun c0 q => ⟨c0, q.1, hE _ _ q.2 codeO_ne⟩
        · exact ⟨c', z, upd_same⟩
      · obtain ⟨ps', a1, a2, a3⟩ := hT p hp
        exact ⟨ps', by rw [upd_ne (ne_of_none a1 nC), upd_ne hb]; exact a1, a2, fun p' cv hcv => (a3 p' cv hcv).elim fun c0 q => ⟨c0, q.1, hE _ _ q.2 codeO_ne⟩⟩
    · have n1 : h'.objs.size ≠ c' := Nat.ne_of_gt hlt
      have n2 : h'.objs.size ≠ P := Nat.ne_of_gt (Nat.lt_of_lt_of_le (Heap.lt_size hP') hsz)
      rw [upd_ne n1, upd_ne n2]
      exact I.hok.fresh hsz
end
end MX
end
section
set_option maxRecDepth 100000
set_option maxHeartbeats 2000000
namespace MX
open PySem PySem.Spec PyProof.Rows L2 LamX

/-- what a closure's cells cl hold, told by the slots σ -/
structure CloF (N : List Str) (scope : Scope) (cl : List (Str × Addr)) (σ : L2.St) (H : Hp) (h : Heap) : Prop where
  inj : ∀ x y c, cl.lookup x = some c → cl.lookup y = some c → x = y
  has : ∀ y, scope.names.lookup y = some .free → ∃ c, cl.lookup y = some c
  cell : ∀ y c, cl.lookup y = some c → H c = none ∧ ∃ v, h.IsCell c v
  val : ∀ (i : Nat) (y : Str) (v : V), N[i]? = some y → σ[i]? = some (some v) → scope.names.lookup y = some .free → ∃ c u, cl.lookup y = some c ∧ RelV v u ∧ h.IsCell c (some u)
section
variable {X : Cx} {pins : List (Addr × Obj)} {σ : L2.St} {H : Hp} {s : Shared} {scope : Scope}
theorem clo_mem (hfree : ∀ y ∈ scope.names, y.2 = .free → ∃ c, X.env.cells.lookup y.1 = some c) {y : Str} {c : Addr} (e : (cloFrom X.env.cells scope.names []).lookup y = some c) : X.env.cells.lookup y = some c := by
  rcases cloFrom_mem (PySem.mem_of_lookup e) with hm | ⟨h1, h2⟩
  · cases hm
  · obtain ⟨c1, hc⟩ := hfree _ h1 rfl
    have hc : X.env.cells.lookup y = some c1 := hc
    rw [h2, hc]; rfl
/-- in the frame that made it -/
theorem cloF_here (I : Inv X pins σ H s) (L : LamS X.env.scope scope) : CloF X.N scope (cloFrom X.env.cells scope.names []) σ H s.heap := by
  have cm : ∀ {y c}, (cloFrom X.env.cells scope.names []).lookup y = some c → X.env.cells.lookup y = some c := fun {y c} e => clo_mem (L.has I.ok) e
  have look : ∀ {y}, scope.names.lookup y = some .free → ∃ c, (cloFrom X.env.cells scope.names []).lookup y = some c := fun {y} hl => by
    have hy : (y, NameKind.free) ∈ scope.names := PySem.mem_of_lookup hl
    exact mem_lookup (cloFrom_has (cells := X.env.cells) (acc := []) hy)
  refine ⟨fun x y c e1 e2 => I.ok.inj x y c (cm e1) (cm e2), fun y => look, fun y c e => ⟨I.freeC y c (cm e), I.cell y c (cm e)⟩, fun i y v e1 e2 k => ?_⟩
  obtain ⟨m, hn, hl⟩ := I.loc
  have hvis : Vis X.env.scope y := (L.free _ (PySem.mem_of_lookup k) rfl).elim (fun k => .inr (.inl k)) (fun k => .inr (.inr k))
  obtain ⟨u, r, q⟩ := hl i y v e1 e2 hvis
  obtain ⟨c2, h2⟩ := look k
  have c1 := cm h2
  rcases q with ⟨k', _⟩ | ⟨_, c3, e', z⟩
  · have k' : X.env.scope.names.lookup y = some .local := k'
    rcases L.free _ (PySem.mem_of_lookup k) rfl with k2 | k2 <;> rw [show X.env.scope.names.lookup y = _ from k2] at k' <;> cases k'
  · rw [c1] at e'; cases e'
    exact ⟨c2, u, h2, r, z⟩
theorem CloF.un {N : List Str} {cl : List (Str × Addr)} {fs : List Addr} {H' : Hp} {h h' : Heap} (F : CloF N scope cl σ H h) (u : Un fs [] H H' h h') : CloF N scope cl σ H' h' := by
  have cK : ∀ {c : Addr} {v : Option Value}, H c = none → h.IsCell c v → h'.IsCell c v := fun {c v} n ⟨o, ho, hd⟩ => (u.any ho n (by simp)).elim fun sl q => ⟨_, q, hd⟩
  refine ⟨F.inj, F.has, fun y c e => ?_, fun i y v e1 e2 k => ?_⟩
  · obtain ⟨n, v, z⟩ := F.cell y c e
    obtain ⟨o, ho, _⟩ := id z
    exact ⟨u.free c o ho n (by simp), v, cK n z⟩
  · obtain ⟨c, w, h1, r, z⟩ := F.val i y v e1 e2 k
    exact ⟨c, w, h1, r, cK (F.cell y c h1).1 z⟩
theorem CloF.kept {N : List Str} {cl : List (Str × Addr)} {h h' : Heap} (F : CloF N scope cl σ H h) (k : ∀ b o, h.get? b = some o → h'.get? b = some o) : CloF N scope cl σ H h' :=
  ⟨F.inj, F.has, fun y c e => ⟨(F.cell y c e).1, (F.cell y c e).2.elim fun v z => ⟨v, z.keeps k⟩⟩, fun i y v e1 e2 q => (F.val i y v e1 e2 q).elim fun c z => z.elim fun u z => ⟨c, u, z.1, z.2.1, z.2.2.keeps k⟩⟩
/-- other slots that tell no more -/
theorem CloF.weak {N : List Str} {cl : List (Str × Addr)} {σ' : L2.St} {h : Heap} (F : CloF N scope cl σ H h) (k : ∀ (i : Nat) (y : Str) (v : V), N[i]? = some y → scope.names.lookup y = some .free → σ'[i]? = some (some v) → σ[i]? = some (some v)) : CloF N scope cl σ' H h :=
  ⟨F.inj, F.has, F.cell, fun i y v e1 e2 q => F.val i y v e1 (k i y v e1 q e2) q⟩
/-- in a comprehension's block of that frame -/
theorem cloF_blk {sB : Scope} {ce : Env} {fp : List Addr} {xe : Value → Shared → Prop} {pb : List (Addr × Obj)} {σb : L2.St} {H' : Hp} {s' : Shared} (I : Inv X pins σ H s) (L : LamS X.env.scope scope) (J : Inv (bcx X s H sB ce fp xe) pb σb H' s')
    (hfp : ∀ x c, X.env.cells.lookup x = some c → c ∉ fp) (k : ∀ (i : Nat) (y : Str) (v : V), X.N[i]? = some y → scope.names.lookup y = some .free → σb[i]? = some (some v) → σ[i]? = some (some v)) : CloF X.N scope (cloFrom X.env.cells scope.names []) σb H' s'.heap := by
  have F := cloF_here I L
  have cm : ∀ {y c}, (cloFrom X.env.cells scope.names []).lookup y = some c → X.env.cells.lookup y = some c := fun {y c} e => clo_mem (L.has I.ok) e
  have cK : ∀ {y c : _} {v : Option Value}, X.env.cells.lookup y = some c → s.heap.IsCell c v → s'.heap.IsCell c v := fun {y c v} e ⟨o, ho, hd⟩ => (J.base.any ho (I.freeC y c e) (hfp y c e)).elim fun sl q => ⟨_, q, hd⟩
  refine ⟨F.inj, F.has, fun y c e => ?_, fun i y v e1 e2 q => ?_⟩
  · obtain ⟨n, v, z⟩ := F.cell y c e
    obtain ⟨o, ho, _⟩ := id z
    exact ⟨J.base.free c o ho n (hfp y c (cm e)), v, cK (cm e) z⟩
  · obtain ⟨c, u, h1, r, z⟩ := F.val i y v e1 (k i y v e1 q e2) q
    exact ⟨c, u, h1, r, cK (cm h1) z⟩
end
/-- the env of a lambda's frame -/
abbrev lEnv (qual : Str) (scope : Scope) (cl : List (Str × Addr)) (L f c' : Addr) : Env := PySem.W.envX qual scope L f (.ref c') cl
/-- the context of a lambda's body -/
def lcx (X : Cx) (A : Around) (outer : List Env) (s : Shared) (H : Hp) (E : XK) (qual : Str) (scope : Scope) (cl : List (Str × Addr)) (f c' : Addr) : Cx where
  prog := X.prog
  w := X.w
  K := X.K
  mg := X.mg
  base := X.base
  A := A.deeper (lEnv qual scope cl s.heap.objs.size f c')
  N := X.N
  s_0 := s
  H_0 := H
  env := lEnv qual scope cl s.heap.objs.size f c'
  outer := outer
  stack := lEnv qual scope cl s.heap.objs.size f c' :: outer
  ex := []
  fn := fun _ => false
  calm := true
  pn := []
  xe := fun e s' => wpAny (model X.prog X.w) (A.deeper (lEnv qual scope cl s.heap.objs.size f c')) (leaving (lEnv qual scope cl s.heap.objs.size f c') e) (fun _ s'' => L2.CX X.prog X.w outer H s E e s'') (fun e' s'' => L2.CX X.prog X.w outer H s E e' s'') s'
section
variable {X : Cx} {σ : L2.St} {HZ : Hp} {s1 : Shared}
theorem l_start {A : Around} {outer : List Env} {E : XK} {qual : Str} {scope : Scope} {cl : List (Str × Addr)} {f c' : Addr} {h₁ : Heap} {tk : Nat} (hlen : σ.length = X.N.length) (kind : scope.kind = .function) (own : ∀ y ∈ scope.names, y.2 ≠ .local ∧ y.2 ≠ .cell)
    (F : CloF X.N scope cl σ HZ s1.heap) (e0 : Env0 X.prog X.w X.K X.mg X.base A outer s1 HZ) (hd : A.handled = none)
    (hns : h₁.Ns s1.heap.objs.size fun y => ([] : List (Str × Value)).reverse.lookup y) (kp : ∀ b o, s1.heap.get? b = some o → h₁.get? b = some o) :
    Inv (lcx X A outer s1 HZ E qual scope cl f c') [] σ HZ { s1 with heap := h₁, toks := tk } := by
  have noA : ∀ b : Addr, b ∉ (lcx X A outer s1 HZ E qual scope cl f c').ex := fun b z => nomatch (show b ∈ ([] : List Addr) from z)
  have clt : ∀ {y c}, cl.lookup y = some c → c < s1.heap.objs.size := fun {y c} e => (F.cell y c e).2.elim fun v z => z.lt
  refine ⟨⟨e0.mod, kind, rfl, rfl, Nat.le_refl _, F.inj, fun y hy => ?_, fun y c z _ => Bool.noConfusion (show false = true from z), fun _ => hd, Around.frames_deeper e0.frames, .inr ⟨rfl, rfl⟩, fun b z => absurd z (noA b), e0.bs, e0.bsz, fun b _ _ => noA b,
      fun b z => absurd z (noA b), e0.funs, e0.frf⟩,
    rfl, e0.bare, Un.kept kp, ⟨_, hns, fun i y v e1 e2 e3 => ?_⟩, fun y c e => ?_, e0.hok.fresh (Nat.le_refl _), fun y c e => (F.cell y c e).1, (fun q hq => nomatch (show q ∈ ([] : List (Addr × Obj)) from hq)), e0.hok.kept kp, hlen⟩
  · have hy : scope.names.lookup y = some .cell ∨ scope.names.lookup y = some .free := hy
    exact hy.elim (fun hy => absurd rfl (own _ (PySem.mem_of_lookup hy)).2) fun hy => F.has y hy
  · have e3 : Vis scope y := e3
    rcases e3 with k | k | k
    · exact absurd rfl (own _ (PySem.mem_of_lookup k)).1
    · exact absurd rfl (own _ (PySem.mem_of_lookup k)).2
    · obtain ⟨c, u, h1, r, z⟩ := F.val i y v e1 e2 k
      exact ⟨u, r, .inr ⟨.inr k, c, h1, z.keeps kp⟩⟩
  · exact (F.cell y c e).2.elim fun v z => ⟨v, z.keeps kp⟩
end
end MX
end
section
set_option maxRecDepth 100000
set_option maxHeartbeats 2000000
namespace MX
open PySem PySem.Spec PyProof.Rows L2 LamX

/-- a lambda literal: no parameters, captured names and globals alone -/
structure LamLit where
  params : Arguments
  body : Expr
  scope : Scope
structure LitOk (l : LamLit) : Prop where
  kind : l.scope.kind = .function
  co : l.scope.isCoroutine = false
  gen : l.scope.isGenerator = false
  own : ∀ y ∈ l.scope.names, y.2 ≠ .local ∧ y.2 ≠ .cell
  bind : ∀ (q : Str) (cl : List (Str × Addr)) (pm cv ctv : Value), bindArgs (PySem.W.kla_fn "<lambda>" q l.params l.body l.scope cl pm cv ctv) ⟨[], []⟩ = pure []

section
variable {X : Cx} {pins : List (Addr × Obj)} {σ : L2.St} {H : Hp} {s : Shared}
/-- what() in the def that got the closure -/
theorem l_act {CXg : CXT} {Eg : XK} {Ng : List Str} {qg : Str} {sg : Scope} {g f c' : Addr} {cdg : Value} {l : LamLit} {qual : Str} {cl : List (Str × Addr)} {k i : Nat} {a : Str} {pn : List (Addr × Obj)} {xe : Value → Shared → Prop} {W : WX} {E : XK} {tb : TE} {p1 p2 : Pos}
    (I : Inv X pins σ H s) (ok : LitOk l) (Fc : CloF X.N l.scope cl σ H s.heap)
    (tk : Takes ((cxOf CXg X.prog X.w X.K X.mg X.base Ng qg sg g cdg X.A X.stack s H Eg).tr pn xe) W) (hW : ∀ cls d σ' H', E cls d H' → W cls d σ' H') (hr : Room (k + 1) (X.A.deeper (envOfC qg sg s.heap.objs.size g cdg)))
    (hbody : ∀ (A : Around) (outer : List Env) (s : Shared) (H : Hp), Room k (A.deeper (lEnv qual l.scope cl s.heap.objs.size f c')) → PE (lcx X A outer s H E qual l.scope cl f c') l.body tb)
    (hN : Ng[i]? = some a) (hv : Vis sg a) (hd : (a == ("__debug__" : Str)) = false := by decide) (hcd : (a == ("__classdict__" : Str)) = false := by decide) :
    PE ((cxOf CXg X.prog X.w X.K X.mg X.base Ng qg sg g cdg X.A X.stack s H Eg).tr pn xe) (.Call (.Name a p1) [] [] p2)
      (fun σZ HZ Q => σZ[i]? = some (some (.ref f)) ∧ HZ c' = some (CodeO c' qual) ∧ HZ f = some (CloH f c' qual l.params l.body l.scope cl) ∧ tb σ HZ Q) := by
  refine ⟨fun pinsZ sZ σZ HZ Q IZ h => ?_⟩
  obtain ⟨hs, hc, hf, ht⟩ := h
  refine wpAny_Call_Name_kw (thn ((pe_var (pos := p1) (i := i) hN hv hd hcd).run pinsZ sZ σZ HZ (fun v H1 => v = .ref f ∧ H1 = HZ) IZ ⟨.ref f, hs, rfl, rfl⟩) fun u s1 ⟨v, H1, I1, r1, ev, eH⟩ => ?_)
  subst ev
  rw [eH] at I1
  obtain rfl : u = Value.ref f := r1
  obtain ⟨⟨pm, ctv, of1⟩, _, _⟩ := I1.hok f _ hf
  obtain ⟨⟨oc, vs, t, hoc, hdc, hvc⟩, _, _⟩ := I1.hok c' _ hc
  refine PySem.W.callWith_F0 ⟨_, _, _, _, of1⟩ ?_
  have Fc1 : CloF X.N l.scope cl σ HZ s1.heap := Fc.un (fs := frs X.stack) I1.base
  have rc : codeAny (model X.prog X.w) (X.A.deeper (envOfC qg sg s.heap.objs.size g cdg)) (.call (.ref f) ⟨[], []⟩) (CR (L2.CX X.prog X.w) (envOfC qg sg s.heap.objs.size g cdg :: X.stack) X.prog X.w HZ s1 Q E) s1 := by
    refine PySem.W.kla_callFunE hr.depth of1 rfl ok.co ok.gen rfl ⟨c', oc, vs, t, rfl, hoc, hdc, hvc⟩ ?_
    rw [ok.bind]
    refine wpAny_pure (wpAny_newFunctionEnv (fun y hy => (ok.own y hy).2) (fun y hy => absurd hy (by simp)) (fun h₁ hns hsb => ⟨I1.nolimit.fresh _ hsb, ?_⟩) ok.kind)
    show codeAny _ _ (.expr l.body (lEnv qual l.scope cl s1.heap.objs.size f c')) _ _
    have kp : ∀ b o, s1.heap.get? b = some o → h₁.get? b = some o := fun b o e => hsb.extBut b o (Nat.ne_of_lt (Heap.lt_size e)) (Heap.get?_push_of_some _ e)
    have J := l_start (E := E) (qual := qual) (f := f) (c' := c') (tk := s1.toks + ([] : List (Str × Value)).length) I.len ok.kind ok.own Fc1 I1.env0 hr.hd hns kp
    refine PySem.W.kla_codeExpr (wpAny_mono ((hbody _ _ s1 HZ (hr.deeper _)).run [] _ _ HZ Q J ht) (fun v s' ⟨w', H', J', rv, q⟩ => ⟨w', H', J'.os, J'.bare, J'.base, J'.hok, rv, q⟩) fun e s' hq => hq)
  have hx : Passes (L2.CX X.prog X.w) ((cxOf CXg X.prog X.w X.K X.mg X.base Ng qg sg g cdg X.A X.stack s H Eg).tr pn xe) E := passes_call tk hW
  refine wpAny_call (codeAny_mono rc fun r s' hq => ?_)
  match r, hq with
  | .error e, hq => exact hx pinsZ σZ HZ s1 e s' I1 hq
  | .ok (.ret u), hq => exact I1.after hq
  | .ok .next, hq => exact False.elim hq
  | .ok .brk, hq => exact False.elim hq
  | .ok .cont, hq => exact False.elim hq
end

/-- the reading of told(a): a a closure of the table LB, made where the cells are cells0; Lk: the names as they are told here; Qual: the closures' qualified name -/
def tTold (K : PySem.W.Frag) (CS : Addr) (ret qual : Str) (cells0 : List (Str × Addr)) (LB : List LamLit) (Lk : L2.St → Prop) (tb : Nat → XK → TE) (ta : TE) : TE := fun σ H Q => ta σ H fun v H1 =>
  Lk σ ∧ ∃ (f c' : Addr) (k : Nat) (l : LamLit), v = .ref f ∧ LB[k]? = some l ∧ H1 f = some (CloH f c' qual l.params l.body l.scope (cloFrom cells0 l.scope.names [])) ∧ H1 c' = some (CodeO c' qual) ∧
    TTold K CS ret (fun E H' Q' => tb k E σ H' Q') H1 Q
section
variable {X : Cx}
theorem pe_told {x a e ret qual : Str} {g CS : Addr} {k j : Nat} {pg : Arguments} {sg : Scope} {dV kV doc pm cdv ct oc : Value} {an od : Option Addr} {osl : Array (Option Value)} {Ng : List Str} {arg : Expr} {ta : TE} {LB : List LamLit} {Lk : L2.St → Prop} {tb : Nat → XK → TE} {cells0 : List (Str × Addr)} {p pos p1 p2 p3 p4 p5 p6 p7 p8 : Pos}
    (hg : Gl X x) (hm : X.mg x = some (.ref g)) (hk : PySem.W.keepIn X.K (.ref g) = true)
    (lk : X.K.lookup g = some ⟨oc, od, .func (PySem.W.fnOf x x pg [.Try [.Return (some (.Call (.Name a p1) [] [] p2)) p3] [.ExceptHandler (some (.Name e p4)) none [.Return (some (.Constant (.str ret) j p5)) p6] p7] [] [] p8] sg dV kV doc pm an cdv ct), osl⟩)
    (hcg : PySem.W.codeIn X.K cdv x = true) (hb : L2.Binds X.K (PySem.W.fnOf x x pg [.Try [.Return (some (.Call (.Name a p1) [] [] p2)) p3] [.ExceptHandler (some (.Name e p4)) none [.Return (some (.Constant (.str ret) j p5)) p6] p7] [] [] p8] sg dV kV doc pm an cdv ct) [a] []) (Sg : FnScope Ng [a] sg) (hNg : Ng[0]? = some a) (hva : Vis sg a)
    (hge : sg.names.lookup e = some .globalImplicit) (hme : X.mg e = some (.ref CS)) (hde : (e == ("__debug__" : Str)) = false)
    (ha : PE X arg ta) (hr : Room (k + 2) X.A) (hLB : ∀ (k : Nat) (l : LamLit), LB[k]? = some l → LitOk l)
    (hclo : ∀ (pins : List (Addr × Obj)) (σ : L2.St) (H : Hp) (s : Shared), Inv X pins σ H s → Lk σ → ∀ (k : Nat) (l : LamLit), LB[k]? = some l → CloF X.N l.scope (cloFrom cells0 l.scope.names []) σ H s.heap)
    (hbody : ∀ (i : Nat) (l : LamLit), LB[i]? = some l → ∀ (A : Around) (outer : List Env) (s : Shared) (H : Hp) (E : XK) (f c' : Addr), Room k (A.deeper (lEnv qual l.scope (cloFrom cells0 l.scope.names []) s.heap.objs.size f c')) → PE (lcx X A outer s H E qual l.scope (cloFrom cells0 l.scope.names []) f c') l.body (tb i E))
    (hdb : (x == ("__debug__" : Str)) = false := by decide) (hd : (a == ("__debug__" : Str)) = false := by decide) (hcd : (a == ("__classdict__" : Str)) = false := by decide)
    (he : starEach [arg] X.env = (false, eval arg X.env) :: starEach [] X.env := by rfl) :
    PE X (.Call (.Name x p) [arg] [] pos) (tTold X.K CS ret qual cells0 LB Lk tb ta) := by
  refine ⟨fun pins s σ H Q I h => ?_⟩
  refine wpAny_Call_Name_kw (ld_glob I hg hm ?_ hdb)
  refine PySem.W.callWith_K (h₀ := X.base) I.ok.mod.kin hk ?_ he (by rfl)
  rw [he]
  show wpAny _ _ (spliced ((false, eval arg X.env) :: backTo pos (starEach [] X.env))) _ _ s
  refine Calls.spliced_cons (thn (ha.run pins s σ H _ I h) fun u s1 ⟨v, H1, I1, r1, hLk, f, c', i, l, ev, hl, hf, hc, hq⟩ => ?_)
  subst ev
  obtain rfl : u = Value.ref f := r1
  refine Calls.spliced_nil ⟨I1.kIn, ?_⟩
  have G := told_gives (X := X) (Ng := Ng) (x := x) (a := a) (q := qual) (ret := ret) (j := j) (p1 := p1) (p2 := p2) (p3 := p3) (p4 := p4) (p5 := p5) (p6 := p6) (p7 := p7) (p8 := p8) (sg := sg) (g := g) (cdg := cdv) hge hme hde fun f => by
    have h2 : 0 < Ng.length := (List.getElem?_eq_some_iff.mp hNg).1
    unfold L2.start
    simp
  have rc : codeAny (model X.prog X.w) X.A (.call (.ref g) ⟨[.ref f], []⟩) (CR C8.CX0 X.stack X.prog X.w H1 s1 Q C8.E0) s1 := by
    refine run_ofS (N := Ng) (ps := [a]) (us := [.ref f]) (vs := [.ref f]) lk hcg Sg hr I1.env0 (hb s1 [.ref f] I1.kIn rfl) (.cons rfl .nil) rfl fun hr' => ?_
    obtain ⟨t', ht', hq'⟩ := G f c' s1 H1 Q (fun E H' Q' => H' f = some (CloH f c' qual l.params l.body l.scope (cloFrom cells0 l.scope.names [])) ∧ tb i E σ H' Q')
      (fun W pn xe E p1 p2 tk hW => l_act (i := 0) I1 (hLB i l hl) (hclo pins σ H1 s1 I1 hLk i l hl) tk hW hr' (fun A outer s H hr2 => hbody i l hl A outer s H E f c' hr2) hNg hva hd hcd) hc ⟨hf, hq⟩
    exact ⟨t', ht'.nox, hq'⟩
  refine wpAny_call (codeAny_mono rc fun r s2 hq => ?_)
  match r, hq with
  | .error e, hq => exact (show False from hq).elim
  | .ok (.ret u), hq => exact I1.after hq
  | .ok .next, hq => exact False.elim hq
  | .ok .brk, hq => exact False.elim hq
  | .ok .cont, hq => exact False.elim hq
end
end MX
end
section
set_option maxRecDepth 100000
set_option maxHeartbeats 2000000
namespace MZ
open PySem PySem.Spec PyProof.Rows L2 LamX MX

/-- what data is told by: the written part, and what a closure is -/
structure RB where
  K : PySem.W.Frag
  cl : Nat → V → Hp → Prop
  mono : ∀ k v H H', ExtN H H' → cl k v H → cl k v H'
  cref : ∀ k v H, cl k v H → ∃ a, v = .ref a
mutual
def Rep (B : RB) (H : Hp) : D → V → Prop
  | .non, v => v = .non
  | .bl b, v => v = .bl b
  | .int i, v => v = .int i
  | .str z, v => v = .str z
  | .tup l, v => ∃ a xs, v = .ref a ∧ SqT B.K H a xs ∧ RepL B H l xs
  | .lst l, v => ∃ a xs, v = .ref a ∧ H a = some (.lst xs) ∧ RepL B H l xs
  | .clo k, v => B.cl k v H
  | .dic _ _, _ => False
  | .obj _ _, _ => False
def RepL (B : RB) (H : Hp) : List D → List V → Prop
  | [], vs => vs = []
  | d :: ds, vs => ∃ v r, vs = v :: r ∧ Rep B H d v ∧ RepL B H ds r
end
theorem ext_sqT {K : PySem.W.Frag} {H H' : Hp} {a : Addr} {xs : List V} (e : ExtN H H') (h : SqT K H a xs) : SqT K H' a xs := by
  rcases h with (h | ⟨o, h⟩) | h
  · exact .inl (.inl (e _ _ h fun ps z => by cases z))
  · exact .inl (.inr ⟨o, e _ _ h fun ps z => by cases z⟩)
  · exact .inr h
mutual
theorem Rep.mono {B : RB} {H H' : Hp} (e : ExtN H H') : ∀ {d : D} {v : V}, Rep B H d v → Rep B H' d v
  | .non, _, h => h
  | .bl _, _, h => h
  | .int _, _, h => h
  | .str _, _, h => h
  | .tup l, v, h => by
    simp only [Rep] at h ⊢
    obtain ⟨a, xs, h1, h2, h3⟩ := h
    exact ⟨a, xs, h1, ext_sqT e h2, RepL.mono e h3⟩
  | .lst l, v, h => by
    simp only [Rep] at h ⊢
    obtain ⟨a, xs, h1, h2, h3⟩ := h
    exact ⟨a, xs, h1, e _ _ h2 (fun ps z => nomatch z), RepL.mono e h3⟩
  | .clo k, v, h => by
    simp only [Rep] at h ⊢
    exact B.mono k v H H' e h
  | .dic _ _, _, h => by simp [Rep] at h
  | .obj _ _, _, h => by simp [Rep] at h
theorem RepL.mono {B : RB} {H H' : Hp} (e : ExtN H H') : ∀ {ds : List D} {vs : List V}, RepL B H ds vs → RepL B H' ds vs
  | [], _, h => h
  | d :: ds, vs, h => by
    simp only [RepL] at h ⊢
    obtain ⟨v, r, h1, h2, h3⟩ := h
    exact ⟨v, r, h1, Rep.mono e h2, RepL.mono e h3⟩
end
section
variable {B : RB} {H : Hp}
theorem RepL.nil {vs : List V} : RepL B H [] vs ↔ vs = [] := by simp only [RepL]
theorem RepL.cons {d : D} {ds : List D} {v : V} {vs : List V} (h : Rep B H d v) (t : RepL B H ds vs) : RepL B H (d :: ds) (v :: vs) := by
  simp only [RepL]
  exact ⟨v, vs, rfl, h, t⟩
theorem RepL.uncons {d : D} {ds : List D} {vs : List V} (h : RepL B H (d :: ds) vs) : ∃ v r, vs = v :: r ∧ Rep B H d v ∧ RepL B H ds r := by simpa only [RepL] using h
theorem RepL.length : ∀ {ds : List D} {vs : List V}, RepL B H ds vs → vs.length = ds.length
  | [], vs, h => by rw [RepL.nil.mp h]; rfl
  | d :: ds, vs, h => by
    obtain ⟨v, r, rfl, _, t⟩ := h.uncons
    rw [List.length_cons, List.length_cons, RepL.length t]
theorem RepL.get : ∀ {ds : List D} {vs : List V} {i : Nat} {d : D}, RepL B H ds vs → ds[i]? = some d → ∃ v, vs[i]? = some v ∧ Rep B H d v
  | d :: ds, vs, 0, x, h, e => by
    obtain ⟨v, r, rfl, q, t⟩ := h.uncons
    cases e
    exact ⟨v, rfl, q⟩
  | d :: ds, vs, i + 1, x, h, e => by
    obtain ⟨v, r, rfl, q, t⟩ := h.uncons
    exact RepL.get (i := i) t (by simpa using e)
theorem RepL.getV : ∀ {ds : List D} {vs : List V} {i : Nat} {v : V}, RepL B H ds vs → vs[i]? = some v → ∃ d, ds[i]? = some d ∧ Rep B H d v
  | [], vs, i, v, h, e => by rw [RepL.nil.mp h] at e; simp at e
  | d :: ds, vs, 0, x, h, e => by
    obtain ⟨v, r, rfl, q, t⟩ := h.uncons
    cases e
    exact ⟨d, rfl, q⟩
  | d :: ds, vs, i + 1, x, h, e => by
    obtain ⟨v, r, rfl, q, t⟩ := h.uncons
    exact RepL.getV (i := i) t (by simpa using e)
theorem RepL.append : ∀ {ds es : List D} {vs us : List V}, RepL B H ds vs → RepL B H es us → RepL B H (ds ++ es) (vs ++ us)
  | [], es, vs, us, h, t => by rw [RepL.nil.mp h]; exact t
  | d :: ds, es, vs, us, h, t => by
    obtain ⟨v, r, rfl, q, u⟩ := h.uncons
    exact RepL.cons q (RepL.append u t)
theorem RepL.drop : ∀ {ds : List D} {vs : List V} (n : Nat), RepL B H ds vs → RepL B H (ds.drop n) (vs.drop n)
  | _, _, 0, h => h
  | [], vs, n + 1, h => by rw [RepL.nil.mp h]; simp [RepL]
  | d :: ds, vs, n + 1, h => by
    obtain ⟨v, r, rfl, q, u⟩ := h.uncons
    exact RepL.drop n u
theorem RepL.take : ∀ {ds : List D} {vs : List V} (n : Nat), RepL B H ds vs → RepL B H (ds.take n) (vs.take n)
  | _, _, 0, h => by simp [RepL]
  | [], vs, n + 1, h => by rw [RepL.nil.mp h]; simp [RepL]
  | d :: ds, vs, n + 1, h => by
    obtain ⟨v, r, rfl, q, u⟩ := h.uncons
    exact RepL.cons q (RepL.take n u)
theorem RepL.set : ∀ {ds : List D} {vs : List V} {d : D} {v : V} (n : Nat), RepL B H ds vs → Rep B H d v → RepL B H (ds.set n d) (vs.set n v)
  | [], vs, _, _, n, h, _ => by rw [RepL.nil.mp h]; simp [RepL]
  | d :: ds, vs, _, _, 0, h, q => by
    obtain ⟨v, r, rfl, _, u⟩ := h.uncons
    exact RepL.cons q u
  | d :: ds, vs, _, _, n + 1, h, q => by
    obtain ⟨v, r, rfl, q', u⟩ := h.uncons
    exact RepL.cons q' (RepL.set n u q)
end
/-- read at its top from H, within from G -/
def TRep (B : RB) (G H : Hp) : D → V → Prop
  | .lst l, v => ∃ a xs, v = .ref a ∧ H a = some (.lst xs) ∧ RepL B G l xs
  | d, v => Rep B G d v
theorem Rep.top {B : RB} {G H : Hp} (e : ExtN G H) : ∀ {d : D} {v : V}, Rep B G d v → TRep B G H d v
  | .lst l, v, h => by
    simp only [Rep] at h
    obtain ⟨a, xs, h1, h2, h3⟩ := h
    exact ⟨a, xs, h1, e _ _ h2 (fun ps z => nomatch z), h3⟩
  | .tup _, v, h => h
  | .non, _, h => h
  | .bl _, _, h => h
  | .int _, _, h => h
  | .str _, _, h => h
  | .clo _, _, h => h
  | .dic _ _, _, h => h
  | .obj _ _, _, h => h
theorem TRep.full {B : RB} {G H : Hp} (e : ExtN G H) : ∀ {d : D} {v : V}, TRep B G H d v → Rep B H d v
  | .lst l, v, h => by
    simp only [Rep]
    obtain ⟨a, xs, h1, h2, h3⟩ := h
    exact ⟨a, xs, h1, h2, h3.mono e⟩
  | .tup l, v, h => Rep.mono (d := .tup l) e h
  | .non, _, h => h
  | .bl _, _, h => h
  | .int _, _, h => h
  | .str _, _, h => h
  | .clo k, v, h => Rep.mono (d := .clo k) e h
  | .dic _ _, _, h => by simp [Rep, TRep] at h
  | .obj _ _, _, h => by simp [Rep, TRep] at h

/-! ### frames -/
/-- what is given for all frames -/
structure Gb where
  prog : Program
  w : World
  K : PySem.W.Frag
  mg : Str → Option Value
  base : Heap
  B : RB
  hK : B.K = K
  T : List (Addr × Option Str)
  xc : Nat → Value
/-- a frame: what is hidden from it, the heap it began with, its changed argument, what may be raised -/
structure Fr where
  hd : Addr → Prop
  H0 : Hp
  mt : Option (Nat × Addr)
  ek : Nat → Prop
def Fr.A0 (fr : Fr) (a : Addr) : Prop := ∃ i, fr.mt = some (i, a)
/-- the slot i holds an own object, the one at a -/
def OwnAt (ρ : Env) (σ : L2.St) (i : Nat) (a : Addr) : Prop := (∃ v, ρ[i]? = some v ∧ isOwn v = true) ∧ σ[i]? = some (some (.ref a))
def Own (ρ : Env) (σ : L2.St) (a : Addr) : Prop := ∃ i, OwnAt ρ σ i a
open Classical in
noncomputable def hide (p : Addr → Prop) (H : Hp) : Hp := fun a => if p a then none else H a
theorem hide_some {p : Addr → Prop} {H : Hp} {a : Addr} {o : HO} : hide p H a = some o ↔ ¬ p a ∧ H a = some o := by
  unfold hide
  split
  · rename_i h
    exact ⟨fun z => (nomatch z), fun z => (z.1 h).elim⟩
  · rename_i h
    exact ⟨fun z => ⟨h, z⟩, fun z => z.2⟩
theorem hide_ext {p : Addr → Prop} {H : Hp} : ExtN (hide p H) H := fun a o e _ => (hide_some.mp e).2
theorem hide_le {p q : Addr → Prop} {H H' : Hp} (h : ∀ a, q a → p a) (e : ∀ a o, ¬ p a → H a = some o → (∀ ps, o ≠ .tbl ps) → H' a = some o) : ExtN (hide p H) (hide q H') := fun a o z n => by
  obtain ⟨h1, h2⟩ := hide_some.mp z
  exact hide_some.mpr ⟨fun k => h1 (h a k), e a o h1 h2 n⟩
/-- what is not hidden -/
noncomputable def vis (fr : Fr) (ρ : Env) (σ : L2.St) (H : Hp) : Hp := hide (fun a => fr.hd a ∨ Own ρ σ a) H
theorem vis_some {fr : Fr} {ρ : Env} {σ : L2.St} {H : Hp} {a : Addr} {o : HO} : vis fr ρ σ H a = some o ↔ (¬ fr.hd a ∧ ¬ Own ρ σ a) ∧ H a = some o := by
  unfold vis
  rw [hide_some]
  exact ⟨fun z => ⟨⟨fun k => z.1 (.inl k), fun k => z.1 (.inr k)⟩, z.2⟩, fun z => ⟨fun k => k.elim z.1.1 z.1.2, z.2⟩⟩
theorem vis_ext {fr : Fr} {ρ : Env} {σ : L2.St} {H : Hp} : ExtN (vis fr ρ σ H) H := hide_ext
/-- fewer hidden, more told -/
theorem vis_le {fr : Fr} {ρ ρ' : Env} {σ σ' : L2.St} {H H' : Hp} (h : ∀ a, Own ρ' σ' a → Own ρ σ a) (e : ExtN H H') : ExtN (vis fr ρ σ H) (vis fr ρ' σ' H') :=
  hide_le (fun a z => z.imp id (h a)) fun a o _ q n => e a o q n
/-- an own object's data -/
def OwnD (B : RB) (G H : Hp) : D → Addr → Prop
  | .lst l, a => ∃ xs, H a = some (.lst xs) ∧ RepL B G l xs
  | _, _ => False
theorem OwnD.mono {B : RB} {G G' H H' : Hp} {d : D} {a : Addr} (e : ExtN G G') (k : ∀ xs, H a = some (.lst xs) → H' a = some (.lst xs)) (h : OwnD B G H d a) : OwnD B G' H' d a := by
  cases d <;> try exact h.elim
  obtain ⟨xs, h1, h2⟩ := h
  exact ⟨xs, k xs h1, h2.mono e⟩
def svOwn : SV → Option D
  | .ow d | .lk d | .mp d => some d
  | _ => none
/-- a slot whose object may change here -/
def loose : SV → Bool
  | .ow _ | .mp _ => true
  | _ => false
theorem loose_own {u : SV} (h : loose u = true) : isOwn u = true := by cases u <;> simp [loose] at h <;> rfl
def LooseAt (ρ : Env) (σ : L2.St) (i : Nat) (a : Addr) : Prop := (∃ v, ρ[i]? = some v ∧ loose v = true) ∧ σ[i]? = some (some (.ref a))
theorem LooseAt.own {ρ : Env} {σ : L2.St} {i : Nat} {a : Addr} (h : LooseAt ρ σ i a) : OwnAt ρ σ i a := let ⟨⟨v, e1, e2⟩, e3⟩ := h; ⟨⟨v, e1, loose_own e2⟩, e3⟩
/-- nothing that was told at the beginning -/
def NotH0 (fr : Fr) (a : Addr) : Prop := fr.A0 a ∨ ∀ o, fr.H0 a = some o → ∃ ps, o = .tbl ps
def SlotOk (B : RB) (G H : Hp) (v : SV) (o : Option (Option V)) : Prop := match v with
  | .no => True
  | .pu d => ∃ x, o = some (some x) ∧ Rep B G d x
  | .ow d => ∃ a, o = some (some (.ref a)) ∧ OwnD B G H d a
  | .lk d => ∃ a, o = some (some (.ref a)) ∧ OwnD B G H d a
  | .mp d => ∃ a, o = some (some (.ref a)) ∧ OwnD B G H d a
theorem SlotOk.own {B : RB} {G H : Hp} {v : SV} {o : Option (Option V)} {d : D} (h : svOwn v = some d) : SlotOk B G H v o ↔ ∃ a, o = some (some (.ref a)) ∧ OwnD B G H d a := by
  cases v <;> simp [svOwn] at h <;> subst h <;> exact Iff.rfl
theorem isOwn_sv {v : SV} : isOwn v = true ↔ ∃ d, svOwn v = some d := by
  cases v <;> simp [isOwn, svOwn]
theorem SlotOk.mono {B : RB} {G G' H H' : Hp} {v : SV} {o : Option (Option V)} (e : ExtN G G') (k : ∀ a xs, isOwn v = true → o = some (some (.ref a)) → H a = some (.lst xs) → H' a = some (.lst xs)) (h : SlotOk B G H v o) : SlotOk B G' H' v o := by
  cases v with
  | no => exact trivial
  | pu d => obtain ⟨x, h1, h2⟩ := h; exact ⟨x, h1, h2.mono e⟩
  | ow d => obtain ⟨a, h1, h2⟩ := h; exact ⟨a, h1, h2.mono e (fun xs => k a xs rfl h1)⟩
  | lk d => obtain ⟨a, h1, h2⟩ := h; exact ⟨a, h1, h2.mono e (fun xs => k a xs rfl h1)⟩
  | mp d => obtain ⟨a, h1, h2⟩ := h; exact ⟨a, h1, h2.mono e (fun xs => k a xs rfl h1)⟩
def TabOk (H : Hp) (p : Addr × Option Str) : Prop := match p.2 with
  | none => GxR.TabG H p.1
  | some q => TabS H p.1 q
structure OkF (G : Gb) (fr : Fr) (ρ : Env) (σ : L2.St) (H : Hp) : Prop where
  len : ρ.length = σ.length
  slot : ∀ (i : Nat) (v : SV), ρ[i]? = some v → SlotOk G.B (vis fr ρ σ H) H v σ[i]?
  dist : ∀ i j a, OwnAt ρ σ i a → OwnAt ρ σ j a → i = j
  nh : ∀ a, Own ρ σ a → ¬ fr.hd a
  hdl : ∀ a, fr.hd a → ¬ fr.A0 a ∧ ∃ xs, fr.H0 a = some (.lst xs)
  keep : ∀ a o, fr.H0 a = some o → ¬ fr.A0 a → (∀ ps, o ≠ .tbl ps) → H a = some o
  own0 : ∀ i a, LooseAt ρ σ i a → NotH0 fr a
  tab : ∀ p ∈ G.T, TabOk H p
  mts : ∀ i a, fr.mt = some (i, a) → (∃ d, ρ[i]? = some (SV.mp d) ∨ ρ[i]? = some (SV.lk d)) ∧ σ[i]? = some (some (.ref a))
/-- what is locked stays -/
def Lks (ρ : Env) (σ : L2.St) (ρ' : Env) (σ' : L2.St) : Prop := ∀ (i : Nat) (d : D), ρ[i]? = some (SV.lk d) → ρ'[i]? = some (SV.lk d) ∧ σ'[i]? = σ[i]?
theorem Lks.refl {ρ : Env} {σ : L2.St} : Lks ρ σ ρ σ := fun _ _ h => ⟨h, rfl⟩
theorem Lks.trans {ρ ρ1 ρ2 : Env} {σ σ1 σ2 : L2.St} (a : Lks ρ σ ρ1 σ1) (b : Lks ρ1 σ1 ρ2 σ2) : Lks ρ σ ρ2 σ2 := fun i d h => by
  obtain ⟨h1, e1⟩ := a i d h
  obtain ⟨h2, e2⟩ := b i d h1
  exact ⟨h2, e2.trans e1⟩
/-- from a state to a later one: what was told stays told -/
structure Step (G : Gb) (fr : Fr) (ρ : Env) (σ : L2.St) (H : Hp) (ρ' : Env) (σ' : L2.St) (H' : Hp) : Prop where
  ok : OkF G fr ρ' σ' H'
  ext : ExtN (vis fr ρ σ H) (vis fr ρ' σ' H')
  lk : Lks ρ σ ρ' σ'
section
variable {G : Gb} {fr : Fr} {ρ ρ1 ρ2 : Env} {σ σ1 σ2 : L2.St} {H H1 H2 : Hp}
theorem Step.refl (h : OkF G fr ρ σ H) : Step G fr ρ σ H ρ σ H := ⟨h, .refl _, .refl⟩
theorem Step.trans (a : Step G fr ρ σ H ρ1 σ1 H1) (b : Step G fr ρ1 σ1 H1 ρ2 σ2 H2) : Step G fr ρ σ H ρ2 σ2 H2 := ⟨b.ok, a.ext.trans b.ext, a.lk.trans b.lk⟩
theorem OkF.there (h : OkF G fr ρ σ H) {a : Addr} (o : Own ρ σ a) : ∃ xs, H a = some (.lst xs) := by
  obtain ⟨i, ⟨v, h1, h2⟩, h3⟩ := o
  obtain ⟨d, hd⟩ := isOwn_sv.mp h2
  obtain ⟨b, e, q⟩ := (SlotOk.own hd).mp (h.slot i v h1)
  rw [h3] at e
  cases e
  cases d <;> try exact q.elim
  obtain ⟨xs, q1, _⟩ := q
  exact ⟨xs, q1⟩
theorem OkF.hid (h : OkF G fr ρ σ H) {a : Addr} (o : fr.hd a) : ∃ xs, H a = some (.lst xs) := by
  obtain ⟨h1, xs, h2⟩ := h.hdl a o
  exact ⟨xs, h.keep a _ h2 h1 (fun ps z => nomatch z)⟩
/-- the heap grows -/
theorem OkF.grow (h : OkF G fr ρ σ H) (e : ExtN H H1) (t : ∀ p ∈ G.T, TabOk H1 p) : Step G fr ρ σ H ρ σ H1 where
  ok := ⟨h.len, fun i v q => (h.slot i v q).mono (vis_le (fun _ z => z) e) (fun a xs _ _ k => e a _ k (fun ps z => nomatch z)), h.dist, h.nh, h.hdl,
    fun a o q n z => e a o (h.keep a o q n z) z, h.own0, t, h.mts⟩
  ext := vis_le (fun _ z => z) e
  lk := .refl
theorem TabOk.upd {p : Addr × Option Str} {a : Addr} {o : HO} (n : H a = none) (h : TabOk H p) : TabOk (upd H a o) p := by
  unfold TabOk at h ⊢
  split
  · rename_i e
    rw [e] at h
    obtain ⟨ps, z⟩ := h
    exact ⟨ps, by rw [upd_ne (ne_of_none z.1 n)]; exact z.1, z.2⟩
  · rename_i q e
    rw [e] at h
    obtain ⟨ps, z⟩ := h
    refine ⟨ps, by rw [upd_ne (ne_of_none z.1 n)]; exact z.1, z.2.1, fun pos cv x => ?_⟩
    obtain ⟨c, e1, e2⟩ := z.2.2 pos cv x
    exact ⟨c, e1, by rw [upd_ne (ne_of_none e2 n)]; exact e2⟩
theorem ext_upd {a : Addr} {o : HO} (n : H a = none) : ExtN H (upd H a o) := fun b u q _ => by rw [upd_ne (ne_of_none q n)]; exact q
/-- a new thing -/
theorem OkF.laid (h : OkF G fr ρ σ H) {a : Addr} {o : HO} (n : H a = none) : Step G fr ρ σ H ρ σ (upd H a o) := h.grow (ext_upd n) fun p m => (h.tab p m).upd n
theorem OkF.fr0 (h : OkF G fr ρ σ H) {a : Addr} (n : H a = none) : ¬ fr.hd a ∧ ¬ Own ρ σ a := by
  refine ⟨fun z => ?_, fun z => ?_⟩
  · obtain ⟨xs, e⟩ := h.hid z
    rw [n] at e
    cases e
  · obtain ⟨xs, e⟩ := h.there z
    rw [n] at e
    cases e
theorem vis_laid (h : OkF G fr ρ σ H) {a : Addr} {o : HO} (n : H a = none) : vis fr ρ σ (upd H a o) a = some o := vis_some.mpr ⟨h.fr0 n, upd_same⟩
end
end MZ
end
section
set_option maxRecDepth 100000
set_option maxHeartbeats 2000000
namespace MZ
open PySem PySem.Spec PyProof.Rows L2 LamX MX
theorem set_get {α : Type} {l : List α} {i j : Nat} {x y : α} (h : (l.set i x)[j]? = some y) : (i = j ∧ i < l.length ∧ y = x) ∨ (i ≠ j ∧ l[j]? = some y) := by
  rw [List.getElem?_set] at h
  split at h
  · rename_i e
    split at h
    · rename_i hl
      cases h
      exact .inl ⟨e, hl, rfl⟩
    · cases h
  · rename_i e
    exact .inr ⟨e, h⟩
theorem get_lt {α : Type} {l : List α} {i : Nat} {x : α} (h : l[i]? = some x) : i < l.length := (List.getElem?_eq_some_iff.mp h).1
theorem set_same {α : Type} {l : List α} {i : Nat} {x : α} (h : i < l.length) : (l.set i x)[i]? = some x := by rw [List.getElem?_set_self h]
theorem set_ne {α : Type} {l : List α} {i j : Nat} {x : α} (h : i ≠ j) : (l.set i x)[j]? = l[j]? := List.getElem?_set_ne h
theorem set_id {α : Type} {l : List α} {i : Nat} {x : α} (h : l[i]? = some x) : l.set i x = l := by
  apply List.ext_getElem?
  intro j
  by_cases e : i = j
  · subst e
    rw [set_same (get_lt h), h]
  · rw [set_ne e]
section
variable {G : Gb} {fr : Fr} {ρ ρ1 ρ2 : Env} {σ σ1 σ2 : L2.St} {H H1 H2 : Hp}
/-- a slot that may be set: not locked, not the caller's own -/
def Free (u : SV) : Prop := (∀ d, u ≠ .lk d) ∧ ∀ d, u ≠ .mp d
theorem free_no : Free .no := ⟨fun _ z => (nomatch z), fun _ z => (nomatch z)⟩
theorem free_pu {d : D} : Free (.pu d) := ⟨fun _ z => (nomatch z), fun _ z => (nomatch z)⟩
theorem free_ow {d : D} : Free (.ow d) := ⟨fun _ z => (nomatch z), fun _ z => (nomatch z)⟩
theorem own_set {i : Nat} {u : SV} {v : V} (hu : isOwn u = false) {a : Addr} (o : Own (ρ.set i u) (σ.set i (some v)) a) : ∃ j, j ≠ i ∧ OwnAt ρ σ j a := by
  obtain ⟨j, ⟨w, h1, h2⟩, h3⟩ := o
  rcases set_get h1 with ⟨e, _, rfl⟩ | ⟨e, h1⟩
  · rw [hu] at h2
    cases h2
  · exact ⟨j, fun z => e z.symm, ⟨w, h1, h2⟩, by rw [set_ne e] at h3; exact h3⟩
theorem Lks.set {i : Nat} {u0 u : SV} {v : V} (h : ρ[i]? = some u0) (f : Free u0) : Lks ρ σ (ρ.set i u) (σ.set i (some v)) := fun j d e => by
  have : i ≠ j := fun z => by subst z; rw [h] at e; cases e; exact f.1 _ rfl
  rw [set_ne this, set_ne this]
  exact ⟨e, rfl⟩
/-- a slot takes a value that stays -/
theorem put_pu (ok : OkF G fr ρ σ H) {i : Nat} {u0 : SV} {d : D} {v : V} (h : ρ[i]? = some u0) (f : Free u0) (r : Rep G.B (vis fr (ρ.set i (.pu d)) (σ.set i (some v)) H) d v) : Step G fr ρ σ H (ρ.set i (.pu d)) (σ.set i (some v)) H := by
  have hl := get_lt h
  have hl' : i < σ.length := ok.len ▸ hl
  have ho : ∀ a, Own (ρ.set i (.pu d)) (σ.set i (some v)) a → Own ρ σ a := fun a o => let ⟨j, _, q⟩ := own_set rfl o; ⟨j, q⟩
  have hv : ExtN (vis fr ρ σ H) (vis fr (ρ.set i (.pu d)) (σ.set i (some v)) H) := vis_le ho (.refl _)
  refine ⟨⟨by rw [List.length_set, List.length_set]; exact ok.len, fun j w e => ?_, fun j k a p q => ?_, fun a o => ok.nh a (ho a o), ok.hdl, ok.keep, fun j a ⟨⟨w, e1, e2⟩, e3⟩ => ?_, ok.tab, fun j a e => ?_⟩, hv, .set h f⟩
  · rcases set_get e with ⟨rfl, _, rfl⟩ | ⟨n, e⟩
    · rw [set_same hl']
      exact ⟨v, rfl, r⟩
    · rw [set_ne n]
      exact (ok.slot j w e).mono hv fun _ _ _ _ z => z
  · obtain ⟨⟨w, e1, e2⟩, e3⟩ := p
    obtain ⟨⟨x, f1, f2⟩, f3⟩ := q
    rcases set_get e1 with ⟨_, _, rfl⟩ | ⟨n, e1⟩
    · cases e2
    · rcases set_get f1 with ⟨_, _, rfl⟩ | ⟨m, f1⟩
      · cases f2
      · rw [set_ne n] at e3
        rw [set_ne m] at f3
        exact ok.dist j k a ⟨⟨w, e1, e2⟩, e3⟩ ⟨⟨x, f1, f2⟩, f3⟩
  · rcases set_get e1 with ⟨_, _, rfl⟩ | ⟨n, e1⟩
    · cases e2
    · rw [set_ne n] at e3
      exact ok.own0 j a ⟨⟨w, e1, e2⟩, e3⟩
  · obtain ⟨⟨d', e1⟩, e2⟩ := ok.mts j a e
    have n : i ≠ j := fun z => by
      subst z
      rcases e1 with e1 | e1 <;> (rw [h] at e1; cases e1)
      · exact f.2 _ rfl
      · exact f.1 _ rfl
    rw [set_ne n, set_ne n]
    exact ⟨⟨d', e1⟩, e2⟩
/-- an own object becomes a value -/
theorem freeze (ok : OkF G fr ρ σ H) {i : Nat} {d : D} (h : ρ[i]? = some (.ow d)) : ∃ v, σ[i]? = some (some v) ∧ Step G fr ρ σ H (ρ.set i (.pu d)) σ H ∧ Rep G.B (vis fr (ρ.set i (.pu d)) σ H) d v := by
  obtain ⟨a, e, q⟩ := (SlotOk.own (v := .ow d) rfl).mp (ok.slot i _ h)
  have e' : σ.set i (some (.ref a)) = σ := set_id e
  have r : Rep G.B (vis fr (ρ.set i (.pu d)) (σ.set i (some (.ref a))) H) d (.ref a) := by
    cases d <;> try exact q.elim
    obtain ⟨xs, q1, q2⟩ := q
    simp only [Rep]
    refine ⟨a, xs, rfl, vis_some.mpr ⟨⟨ok.nh a ⟨i, ⟨_, h, rfl⟩, e⟩, fun o => ?_⟩, q1⟩, q2.mono (vis_le (fun b o => let ⟨j, _, z⟩ := own_set rfl o; ⟨j, z⟩) (.refl _))⟩
    obtain ⟨j, n, z⟩ := own_set rfl o
    exact n (ok.dist j i a z ⟨⟨_, h, rfl⟩, e⟩)
  have s := put_pu ok h free_ow r
  rw [e'] at s r
  exact ⟨_, e, s, r⟩
/-- a slot takes a new list of its own -/
theorem put_own (ok : OkF G fr ρ σ H) {i : Nat} {u0 : SV} {l : List D} {xs : List V} {a : Addr} (h : ρ[i]? = some u0) (f : Free u0) (n : H a = none) (r : RepL G.B (vis fr ρ σ H) l xs) :
    Step G fr ρ σ H (ρ.set i (.ow (.lst l))) (σ.set i (some (.ref a))) (upd H a (.lst xs)) := by
  have hl := get_lt h
  have hl' : i < σ.length := ok.len ▸ hl
  have ho : ∀ b, Own (ρ.set i (.ow (.lst l))) (σ.set i (some (.ref a))) b → b = a ∨ ∃ j, j ≠ i ∧ OwnAt ρ σ j b := fun b ⟨j, ⟨w, e1, e2⟩, e3⟩ => by
    rcases set_get e1 with ⟨rfl, _, rfl⟩ | ⟨m, e1⟩
    · rw [set_same hl'] at e3
      cases e3
      exact .inl rfl
    · rw [set_ne m] at e3
      exact .inr ⟨j, fun z => m z.symm, ⟨w, e1, e2⟩, e3⟩
  have nj : ∀ {j}, ¬ OwnAt ρ σ j a := fun z => (ok.fr0 n).2 ⟨_, z⟩
  have hv : ExtN (vis fr ρ σ H) (vis fr (ρ.set i (.ow (.lst l))) (σ.set i (some (.ref a))) (upd H a (.lst xs))) := fun b o e z => by
    obtain ⟨⟨h1, h2⟩, h3⟩ := vis_some.mp e
    have nb : b ≠ a := ne_of_none h3 n
    refine vis_some.mpr ⟨⟨h1, fun o => ?_⟩, by rw [upd_ne nb]; exact h3⟩
    rcases ho b o with z | ⟨j, _, z⟩
    · exact nb z
    · exact h2 ⟨j, z⟩
  refine ⟨⟨by rw [List.length_set, List.length_set]; exact ok.len, fun j w e => ?_, fun j k b p q => ?_, fun b o => ?_, ok.hdl, fun b o e k z => ?_, fun j b ⟨⟨w, e1, e2⟩, e3⟩ => ?_, fun p m => (ok.tab p m).upd n, fun j b e => ?_⟩, hv, .set h f⟩
  · rcases set_get e with ⟨rfl, _, rfl⟩ | ⟨m, e⟩
    · rw [set_same hl']
      exact ⟨a, rfl, xs, upd_same, r.mono hv⟩
    · rw [set_ne m]
      refine (ok.slot j w e).mono hv fun b ys _ _ z => ?_
      rw [upd_ne (ne_of_none z n)]
      exact z
  · obtain ⟨⟨w, e1, e2⟩, e3⟩ := p
    obtain ⟨⟨x, f1, f2⟩, f3⟩ := q
    rcases set_get e1 with ⟨rfl, _, rfl⟩ | ⟨m, e1⟩
    · rw [set_same hl'] at e3
      cases e3
      rcases set_get f1 with ⟨rfl, _, rfl⟩ | ⟨m', f1⟩
      · rfl
      · rw [set_ne m'] at f3
        exact (nj ⟨⟨x, f1, f2⟩, f3⟩).elim
    · rw [set_ne m] at e3
      rcases set_get f1 with ⟨rfl, _, rfl⟩ | ⟨m', f1⟩
      · rw [set_same hl'] at f3
        cases f3
        exact (nj ⟨⟨w, e1, e2⟩, e3⟩).elim
      · rw [set_ne m'] at f3
        exact ok.dist j k b ⟨⟨w, e1, e2⟩, e3⟩ ⟨⟨x, f1, f2⟩, f3⟩
  · rcases ho b o with rfl | ⟨j, _, z⟩
    · exact (ok.fr0 n).1
    · exact ok.nh b ⟨j, z⟩
  · have := ok.keep b o e k z
    rw [upd_ne (ne_of_none this n)]
    exact this
  · rcases set_get e1 with ⟨rfl, _, rfl⟩ | ⟨m, e1⟩
    · rw [set_same hl'] at e3
      cases e3
      by_cases k : fr.A0 a
      · exact .inl k
      · refine .inr fun o e => Classical.byContradiction fun y => ?_
        rw [ok.keep a o e k (fun ps w => y ⟨ps, w⟩)] at n
        cases n
    · rw [set_ne m] at e3
      exact ok.own0 j b ⟨⟨w, e1, e2⟩, e3⟩
  · obtain ⟨⟨d', e1⟩, e2⟩ := ok.mts j b e
    have n : i ≠ j := fun z => by
      subst z
      rcases e1 with e1 | e1 <;> (rw [h] at e1; cases e1)
      · exact f.2 _ rfl
      · exact f.1 _ rfl
    rw [set_ne n, set_ne n]
    exact ⟨⟨d', e1⟩, e2⟩
/-- an own object changes -/
theorem own_mut (ok : OkF G fr ρ σ H) {i : Nat} {u u' : SV} {l' : List D} {xs' : List V} {d : D} {a : Addr} (h : ρ[i]? = some u) (hu : svOwn u = some d) (hu' : svOwn u' = some (.lst l')) (hnl : ∀ d, u ≠ .lk d) (hm : ∀ d, u = .mp d → ∃ d', u' = .mp d') (e : σ[i]? = some (some (.ref a))) (r : RepL G.B (vis fr ρ σ H) l' xs') :
    Step G fr ρ σ H (ρ.set i u') σ (upd H a (.lst xs')) := by
  have hl := get_lt h
  have iu : isOwn u = true := isOwn_sv.mpr ⟨_, hu⟩
  have lu : loose u = true := by cases u <;> simp [svOwn] at hu <;> first | rfl | exact (hnl _ rfl).elim
  have iu' : isOwn u' = true := isOwn_sv.mpr ⟨_, hu'⟩
  have hlo : ∀ j b, LooseAt (ρ.set i u') σ j b → LooseAt ρ σ j b := fun j b ⟨⟨w, e1, e2⟩, e3⟩ => by
    rcases set_get e1 with ⟨rfl, _, rfl⟩ | ⟨m, e1⟩
    · exact ⟨⟨u, h, lu⟩, e3⟩
    · exact ⟨⟨w, e1, e2⟩, e3⟩
  have hia : OwnAt ρ σ i a := ⟨⟨u, h, iu⟩, e⟩
  have hat : ∀ j b, OwnAt (ρ.set i u') σ j b → OwnAt ρ σ j b := fun j b ⟨⟨w, e1, e2⟩, e3⟩ => by
    rcases set_get e1 with ⟨rfl, _, rfl⟩ | ⟨m, e1⟩
    · exact ⟨⟨u, h, iu⟩, e3⟩
    · exact ⟨⟨w, e1, e2⟩, e3⟩
  have ho : ∀ b, Own (ρ.set i u') σ b → Own ρ σ b := fun b ⟨j, z⟩ => ⟨j, hat j b z⟩
  have hv : ExtN (vis fr ρ σ H) (vis fr (ρ.set i u') σ (upd H a (.lst xs'))) := fun b o q z => by
    obtain ⟨⟨h1, h2⟩, h3⟩ := vis_some.mp q
    have nb : b ≠ a := fun w => h2 (w ▸ ⟨i, hia⟩)
    exact vis_some.mpr ⟨⟨h1, fun w => h2 (ho b w)⟩, by rw [upd_ne nb]; exact h3⟩
  obtain ⟨ys, hla⟩ := ok.there ⟨i, hia⟩
  refine ⟨⟨by rw [List.length_set]; exact ok.len, fun j w q => ?_, fun j k b p q => ok.dist j k b (hat _ _ p) (hat _ _ q), fun b o => ok.nh b (ho b o), ok.hdl, fun b o q k z => ?_, fun j b w => ok.own0 j b (hlo j b w), fun p m => ?_, fun j b q => ?_⟩, hv, fun j d' q => ?_⟩
  · rcases set_get q with ⟨rfl, _, rfl⟩ | ⟨m, q⟩
    · exact (SlotOk.own hu').mpr ⟨a, e, xs', upd_same, r.mono hv⟩
    · refine (ok.slot j w q).mono hv fun b zs iw z1 z2 => ?_
      have nb : b ≠ a := fun y => m (ok.dist i j a hia ⟨⟨w, q, iw⟩, y ▸ z1⟩)
      rw [upd_ne nb]
      exact z2
  · have nb : b ≠ a := fun y => by
      subst y
      rcases ok.own0 i b ⟨⟨u, h, lu⟩, e⟩ with y | y
      · exact k y
      · obtain ⟨ps, y⟩ := y o q
        exact z ps y
    rw [upd_ne nb]
    exact ok.keep b o q k z
  · have t := ok.tab p m
    unfold TabOk at t ⊢
    split
    · rename_i y
      rw [y] at t
      obtain ⟨ps, t1, t2⟩ := t
      exact ⟨ps, by rw [upd_ne (ne_of t1 hla (fun z => nomatch z))]; exact t1, t2⟩
    · rename_i y z
      rw [z] at t
      obtain ⟨ps, t1, t2, t3⟩ := t
      refine ⟨ps, by rw [upd_ne (ne_of t1 hla (fun z => nomatch z))]; exact t1, t2, fun pos cv x => ?_⟩
      obtain ⟨c, c1, c2⟩ := t3 pos cv x
      refine ⟨c, c1, ?_⟩
      rw [upd_ne (ne_of c2 hla (fun z => nomatch z))]
      exact c2
  · obtain ⟨⟨d', e1⟩, e2⟩ := ok.mts j b q
    by_cases n : i = j
    · subst n
      refine ⟨?_, e2⟩
      rw [set_same hl]
      rw [h] at e1
      rcases e1 with e1 | e1
      · obtain ⟨d2, z⟩ := hm d' (Option.some.inj e1)
        exact ⟨d2, .inl (by rw [z])⟩
      · exact (hnl d' (Option.some.inj e1)).elim
    · rw [set_ne n]
      exact ⟨⟨d', e1⟩, e2⟩
  · have n : i ≠ j := fun z => by subst z; rw [h] at q; exact hnl d' (Option.some.inj q)
    rw [set_ne n]
    exact ⟨q, rfl⟩
/-- slots told alike: an own one stays an own one, with its data -/
def Alike (u w : SV) : Prop := u = w ∨ ∃ d, svOwn u = some d ∧ svOwn w = some d
theorem relabel (ok : OkF G fr ρ σ H) (hl : ρ1.length = ρ.length) (h : ∀ (i : Nat) (w : SV), ρ1[i]? = some w → ∃ u, ρ[i]? = some u ∧ Alike u w)
    (h0 : ∀ i a, LooseAt ρ1 σ i a → NotH0 fr a) (hm : ∀ (i : Nat) (a : Addr), fr.mt = some (i, a) → ∃ d, ρ1[i]? = some (SV.mp d) ∨ ρ1[i]? = some (SV.lk d)) : OkF G fr ρ1 σ H ∧ ExtN (vis fr ρ σ H) (vis fr ρ1 σ H) ∧ ExtN (vis fr ρ1 σ H) (vis fr ρ σ H) := by
  have hat : ∀ j b, OwnAt ρ1 σ j b → OwnAt ρ σ j b := fun j b ⟨⟨w, e1, e2⟩, e3⟩ => by
    obtain ⟨u, q, z⟩ := h j w e1
    refine ⟨⟨u, q, ?_⟩, e3⟩
    rcases z with rfl | ⟨d, z, _⟩
    · exact e2
    · exact isOwn_sv.mpr ⟨d, z⟩
  have hta : ∀ j b, OwnAt ρ σ j b → OwnAt ρ1 σ j b := fun j b ⟨⟨w, e1, e2⟩, e3⟩ => by
    have hj : j < ρ1.length := by rw [hl]; exact get_lt e1
    obtain ⟨u, q, z⟩ := h j ρ1[j] (List.getElem?_eq_getElem hj)
    rw [e1] at q
    cases q
    refine ⟨⟨ρ1[j], List.getElem?_eq_getElem hj, ?_⟩, e3⟩
    rcases z with z | ⟨d, _, z⟩
    · rw [← z]; exact e2
    · exact isOwn_sv.mpr ⟨d, z⟩
  have v1 : ExtN (vis fr ρ σ H) (vis fr ρ1 σ H) := vis_le (fun a ⟨j, z⟩ => ⟨j, hat j a z⟩) (.refl _)
  have v2 : ExtN (vis fr ρ1 σ H) (vis fr ρ σ H) := vis_le (fun a ⟨j, z⟩ => ⟨j, hta j a z⟩) (.refl _)
  refine ⟨⟨hl.trans ok.len, fun j w q => ?_, fun j k a p q => ok.dist j k a (hat _ _ p) (hat _ _ q), fun a ⟨j, z⟩ => ok.nh a ⟨j, hat j a z⟩, ok.hdl, ok.keep, h0, ok.tab, fun j a q => ⟨hm j a q, (ok.mts j a q).2⟩⟩, v1, v2⟩
  obtain ⟨u, q1, z⟩ := h j w q
  rcases z with rfl | ⟨d, z1, z2⟩
  · exact (ok.slot j _ q1).mono v1 fun _ _ _ _ z => z
  · obtain ⟨a, y1, y2⟩ := (SlotOk.own z1).mp (ok.slot j u q1)
    exact (SlotOk.own z2).mpr ⟨a, y1, y2.mono v1 fun _ z => z⟩
end
end MZ
end
section
set_option maxRecDepth 100000
set_option maxHeartbeats 2000000
namespace MZ
open PySem PySem.Spec PyProof.Rows L2 LamX MX
/-- operands at their tops from H, within from V -/
def TRepL (B : RB) (V H : Hp) : List D → List L2.V → Prop
  | [], vs => vs = []
  | d :: ds, vs => ∃ v r, vs = v :: r ∧ TRep B V H d v ∧ TRepL B V H ds r
theorem TRepL.one {B : RB} {G H : Hp} {d : D} {vs : List V} (h : TRepL B G H [d] vs) : ∃ v, vs = [v] ∧ TRep B G H d v := by
  obtain ⟨v, r, rfl, h1, rfl⟩ := h
  exact ⟨v, rfl, h1⟩
theorem TRepL.two {B : RB} {G H : Hp} {d e : D} {vs : List V} (h : TRepL B G H [d, e] vs) : ∃ v w, vs = [v, w] ∧ TRep B G H d v ∧ TRep B G H e w := by
  obtain ⟨v, r, rfl, h1, h⟩ := h
  obtain ⟨w, rfl, h2⟩ := h.one
  exact ⟨v, w, rfl, h1, h2⟩
theorem TRepL.three {B : RB} {G H : Hp} {d e f : D} {vs : List V} (h : TRepL B G H [d, e, f] vs) : ∃ v w x, vs = [v, w, x] ∧ TRep B G H d v ∧ TRep B G H e w ∧ TRep B G H f x := by
  obtain ⟨v, r, rfl, h1, h⟩ := h
  obtain ⟨w, x, rfl, h2, h3⟩ := h.two
  exact ⟨v, w, x, rfl, h1, h2, h3⟩
/-- the raw operands behind an operand list that has run -/
def RX (B : RB) (G : Hp) (σ : L2.St) : AL → List D → List V → Prop
  | .nil, ds, vs => ds = [] ∧ vs = []
  | .ex _ r, ds, vs => ∃ d ds' v vs', ds = d :: ds' ∧ vs = v :: vs' ∧ Rep B G d v ∧ RX B G σ r ds' vs'
  | .bo i r, ds, vs => ∃ v vs', vs = v :: vs' ∧ σ[i]? = some (some v) ∧ RX B G σ r ds vs'
  | .mu i r, ds, vs => ∃ v vs', vs = v :: vs' ∧ σ[i]? = some (some v) ∧ RX B G σ r ds vs'
theorem cont_some {ρ : Env} {i : Nat} {d : D} (h : cont ρ i = some d) : ∃ v, ρ[i]? = some v ∧ (v = .pu d ∨ svOwn v = some d) := by
  unfold cont at h
  split at h <;> (try cases h) <;> (rename_i e; exact ⟨_, e, by simp [svOwn]⟩)
section
variable (G : Gb) (fr : Fr) (cf : FnI) (lf : Nat → Env → Out D)
/-- what is asked behind an expression -/
def ROk (ρ : Env) (σ : L2.St) (H : Hp) (o : Out D) (Q : VK) : Prop := match o with
  | .ok d ρ' => ∀ v H', Step G fr ρ σ H ρ' σ H' → Rep G.B (vis fr ρ' σ H') d v → Q v H'
  | .exc k => fr.ek k
  | .bad => False
/-- THE READING of an expression that computes f -/
def tE (f : Env → Out D) : TE := fun σ H Q => ∃ ρ, OkF G fr ρ σ H ∧ ROk G fr ρ σ H (f ρ) Q
/-- .. and its value is a list that nothing else knows -/
def RFok (ρ : Env) (σ : L2.St) (H : Hp) (o : Out D) (Q : VK) : Prop := match o with
  | .ok (.lst l) ρ' => ∀ a xs H', Step G fr ρ σ H ρ' σ H' → H' a = none → RepL G.B (vis fr ρ' σ H') l xs → Q (.ref a) (upd H' a (.lst xs))
  | .ok _ _ => False
  | .exc k => fr.ek k
  | .bad => False
def tF (f : Env → Out D) : TE := fun σ H Q => ∃ ρ, OkF G fr ρ σ H ∧ RFok G fr ρ σ H (f ρ) Q
def tXc : AL → TA
  | .nil => tNil
  | .ex c r => tCons (tE G fr (evalE cf lf c)) (tXc r)
  | .bo i r => tCons (tVar i) (tXc r)
  | .mu i r => tCons (tVar i) (tXc r)
/-- the first operand alone -/
def tO : AL → TE
  | .nil => fun _ _ _ => False
  | .ex c _ => tE G fr (evalE cf lf c)
  | .bo i _ => tVar i
  | .mu i _ => tVar i
end
def AL.tl : AL → AL
  | .nil => .nil
  | .ex _ r => r
  | .bo _ r => r
  | .mu _ r => r
def AL.len : AL → Nat
  | .nil => 0
  | .ex _ r => r.len + 1
  | .bo _ r => r.len + 1
  | .mu _ r => r.len + 1
section
variable {G : Gb} {fr : Fr} {cf : FnI} {lf : Nat → Env → Out D} {ρ ρ1 ρ2 : Env} {σ : L2.St} {H H1 H2 : Hp}
theorem tXc_cons {as : AL} (h : as.len ≠ 0) : tXc G fr cf lf as = tCons (tO G fr cf lf as) (tXc G fr cf lf as.tl) := by
  cases as
  · exact (h rfl).elim
  all_goals rfl
theorem tXc_one {as : AL} (h : as.len = 1) {Q : List V → Hp → Prop} (q : tXc G fr cf lf as σ H Q) : tO G fr cf lf as σ H fun x H1 => Q [x] H1 := by
  rw [tXc_cons (by omega)] at q
  cases as with
  | nil => cases h
  | ex _ r => cases r <;> first | exact q | simp [AL.len] at h
  | bo _ r => cases r <;> first | exact q | simp [AL.len] at h
  | mu _ r => cases r <;> first | exact q | simp [AL.len] at h
theorem tXc_two {as : AL} (h : as.len = 2) {Q : List V → Hp → Prop} (q : tXc G fr cf lf as σ H Q) : tO G fr cf lf as σ H fun x H1 => tO G fr cf lf as.tl σ H1 fun y H2 => Q [x, y] H2 := by
  rw [tXc_cons (by omega)] at q
  have h' : as.tl.len = 1 := by cases as <;> simp [AL.len] at h <;> exact h
  have e : ∀ {H1 : Hp} {Q' : List V → Hp → Prop}, tXc G fr cf lf as.tl σ H1 Q' → tO G fr cf lf as.tl σ H1 fun y H2 => Q' [y] H2 := fun z => tXc_one h' z
  revert q
  show tCons _ _ σ H Q → _
  unfold tCons
  generalize tXc G fr cf lf as.tl = T at e ⊢
  intro q
  have mono : ∀ {as : AL} {σ H} {Q Q' : VK}, (∀ v H', Q v H' → Q' v H') → tO G fr cf lf as σ H Q → tO G fr cf lf as σ H Q' := fun {as σ H Q Q'} k z => by
    cases as with
    | nil => exact z
    | ex c r =>
      obtain ⟨ρ, ok, r⟩ := z
      refine ⟨ρ, ok, ?_⟩
      cases ho : evalE cf lf c ρ with
      | ok d ρ' => rw [ho] at r; exact fun v H' s q => k _ _ (r v H' s q)
      | exc j => rw [ho] at r; exact r
      | bad => rw [ho] at r; exact r
    | bo i r => obtain ⟨v, e, q⟩ := z; exact ⟨v, e, k _ _ q⟩
    | mu i r => obtain ⟨v, e, q⟩ := z; exact ⟨v, e, k _ _ q⟩
  exact mono (fun v H' z => e z) q
theorem slot_val (ok : OkF G fr ρ σ H) {i : Nat} {d : D} (h : cont ρ i = some d) : ∃ v, σ[i]? = some (some v) := by
  obtain ⟨v, e, h | h⟩ := cont_some h
  · have q := ok.slot i v e
    subst h
    obtain ⟨x, q, _⟩ := q
    exact ⟨x, q⟩
  · obtain ⟨a, q, _⟩ := (SlotOk.own h).mp (ok.slot i v e)
    exact ⟨_, q⟩
/-- what a slot holds, as an operand -/
theorem slot_rep (ok : OkF G fr ρ σ H) {i : Nat} {d : D} {v : V} (h : cont ρ i = some d) (e : σ[i]? = some (some v)) : TRep G.B (vis fr ρ σ H) H d v := by
  obtain ⟨u, e', h | h⟩ := cont_some h
  · have q := ok.slot i u e'
    subst h
    obtain ⟨x, q, r⟩ := q
    rw [e] at q
    cases q
    exact r.top vis_ext
  · obtain ⟨a, q, r⟩ := (SlotOk.own h).mp (ok.slot i u e')
    rw [e] at q
    cases q
    cases d <;> try exact r.elim
    obtain ⟨xs, r1, r2⟩ := r
    exact ⟨a, xs, rfl, r1, r2⟩
theorem RX.mono {B : RB} {V V' : Hp} (e : ExtN V V') : ∀ {as : AL} {ds : List D} {vs : List L2.V}, RX B V σ as ds vs → RX B V' σ as ds vs
  | .nil, _, _, h => h
  | .ex _ _, _, _, h => by
    obtain ⟨d, ds, v, vs, h1, h2, h3, h4⟩ := h
    exact ⟨d, ds, v, vs, h1, h2, h3.mono e, RX.mono e h4⟩
  | .bo _ _, _, _, h => by
    obtain ⟨v, vs, h1, h2, h3⟩ := h
    exact ⟨v, vs, h1, h2, RX.mono e h3⟩
  | .mu _ _, _, _, h => by
    obtain ⟨v, vs, h1, h2, h3⟩ := h
    exact ⟨v, vs, h1, h2, RX.mono e h3⟩
/-- what is asked behind an operand list -/
def RXok (G : Gb) (fr : Fr) (ρ : Env) (σ : L2.St) (H : Hp) (as : AL) (o : Out (List D)) (Q : List V → Hp → Prop) : Prop := match o with
  | .ok ds ρ' => ∀ vs H', Step G fr ρ σ H ρ' σ H' → RX G.B (vis fr ρ' σ H') σ as ds vs → Q vs H'
  | .exc k => fr.ek k
  | .bad => False
theorem tX_fold : ∀ {as : AL} {ρ : Env} {H : Hp} {Q : List V → Hp → Prop}, OkF G fr ρ σ H → RXok G fr ρ σ H as (evalX cf lf as ρ) Q → tXc G fr cf lf as σ H Q
  | .nil, ρ, H, Q, ok, r => by
    rw [evalX] at r
    exact r [] H (.refl ok) ⟨rfl, rfl⟩
  | .ex c as, ρ, H, Q, ok, r => by
    rw [evalX] at r
    refine ⟨ρ, ok, ?_⟩
    cases ho : evalE cf lf c ρ with
    | bad => rw [ho] at r; exact r.elim
    | exc k => rw [ho] at r; exact r
    | ok d ρ1 =>
      rw [ho] at r
      refine fun v H1 s1 r1 => tX_fold s1.ok ?_
      simp only [Out.bind] at r
      cases hx : evalX cf lf as ρ1 with
      | bad => rw [hx] at r; exact r.elim
      | exc k => rw [hx] at r; exact r
      | ok ds ρ2 =>
        rw [hx] at r
        exact fun vs H2 s2 r2 => r (v :: vs) H2 (s1.trans s2) ⟨d, ds, v, vs, rfl, rfl, r1.mono s2.ext, r2⟩
  | .bo i as, ρ, H, Q, ok, r => by
    rw [evalX] at r
    cases hc : cont ρ i with
    | none => rw [hc] at r; exact r.elim
    | some d =>
      rw [hc] at r
      obtain ⟨v, e⟩ := slot_val ok hc
      refine ⟨v, e, tX_fold ok ?_⟩
      simp only at r
      cases hx : evalX cf lf as ρ with
      | bad => rw [hx] at r; exact r.elim
      | exc k => rw [hx] at r; exact r
      | ok ds ρ2 =>
        rw [hx] at r
        exact fun vs H2 s2 r2 => r (v :: vs) H2 s2 ⟨v, vs, rfl, e, r2⟩
  | .mu i as, ρ, H, Q, ok, r => by
    rw [evalX] at r
    cases hc : cont ρ i with
    | none => rw [hc] at r; exact r.elim
    | some d =>
      rw [hc] at r
      obtain ⟨v, e⟩ := slot_val ok hc
      refine ⟨v, e, tX_fold ok ?_⟩
      simp only at r
      cases hx : evalX cf lf as ρ with
      | bad => rw [hx] at r; exact r.elim
      | exc k => rw [hx] at r; exact r
      | ok ds ρ2 =>
        rw [hx] at r
        exact fun vs H2 s2 r2 => r (v :: vs) H2 s2 ⟨v, vs, rfl, e, r2⟩
/-- the operands, all read -/
theorem RX.fill (ok : OkF G fr ρ σ H) : ∀ {as : AL} {ds full : List D} {vs : List V}, RX G.B (vis fr ρ σ H) σ as ds vs → fill as ds ρ = some full → TRepL G.B (vis fr ρ σ H) H full vs
  | .nil, _, _, _, h, e => by
    obtain ⟨rfl, rfl⟩ := h
    rw [MZ.fill] at e
    cases e
    rfl
  | .ex _ r, _, _, _, h, e => by
    obtain ⟨d, ds, v, vs, rfl, rfl, h1, h2⟩ := h
    rw [MZ.fill] at e
    obtain ⟨f, e1, rfl⟩ := Option.map_eq_some_iff.mp e
    exact ⟨v, vs, rfl, h1.top vis_ext, RX.fill ok h2 e1⟩
  | .bo i r, _, _, _, h, e => by
    obtain ⟨v, vs, rfl, h1, h2⟩ := h
    rw [MZ.fill] at e
    obtain ⟨d, e0, e⟩ := Option.bind_eq_some_iff.mp e
    obtain ⟨f, e1, rfl⟩ := Option.map_eq_some_iff.mp e
    exact ⟨v, vs, rfl, slot_rep ok e0 h1, RX.fill ok h2 e1⟩
  | .mu i r, _, _, _, h, e => by
    obtain ⟨v, vs, rfl, h1, h2⟩ := h
    rw [MZ.fill] at e
    obtain ⟨d, e0, e⟩ := Option.bind_eq_some_iff.mp e
    obtain ⟨f, e1, rfl⟩ := Option.map_eq_some_iff.mp e
    have e0 : cont ρ i = some d := by
      unfold cont
      split at e0
      · rename_i z; rw [z]; exact e0
      · rename_i z; rw [z]; exact e0
      · cases e0
    exact ⟨v, vs, rfl, slot_rep ok e0 h1, RX.fill ok h2 e1⟩
end
end MZ
end
section
set_option maxRecDepth 100000
set_option maxHeartbeats 2000000
namespace MZ
open PySem PySem.Spec PyProof.Rows L2 LamX MX
/-! ### data as the kit compares it -/
mutual
def toPy : D → PyData
  | .bl b => .bool b
  | .int i => .int i
  | .str z => .str z
  | .tup l => .tuple (toPys l)
  | .lst l => .list (toPys l)
  | _ => .none
def toPys : List D → List PyData
  | [] => []
  | d :: r => toPy d :: toPys r
end
mutual
theorem okD_lay : ∀ {n : Nat} {d : D}, okD n d = true → (toPy d).canLay0 = true ∧ (toPy d).depth ≤ n
  | n, .non, _ => ⟨by simp [toPy, PyData.canLay0], by simp [toPy, PyData.depth]⟩
  | n, .bl _, _ => ⟨by simp [toPy, PyData.canLay0], by simp [toPy, PyData.depth]⟩
  | n, .int _, _ => ⟨by simp [toPy, PyData.canLay0], by simp [toPy, PyData.depth]⟩
  | n, .str z, h => ⟨by simp only [toPy, PyData.canLay0]; unfold okD at h; exact h, by simp [toPy, PyData.depth]⟩
  | n + 1, .tup l, h => by
    unfold okD at h
    obtain ⟨h1, h2⟩ := okL_lay h
    exact ⟨by simpa [toPy, PyData.canLay0] using h1, by simpa [toPy, PyData.depth] using h2⟩
  | n + 1, .lst l, h => by
    unfold okD at h
    obtain ⟨h1, h2⟩ := okL_lay h
    exact ⟨by simpa [toPy, PyData.canLay0] using h1, by simpa [toPy, PyData.depth] using h2⟩
  | 0, .tup l, h => by simp [okD] at h
  | 0, .lst l, h => by simp [okD] at h
  | 0, .dic _ _, h => by simp [okD] at h
  | 0, .obj _ _, h => by simp [okD] at h
  | 0, .clo _, h => by simp [okD] at h
  | n + 1, .dic _ _, h => by simp [okD] at h
  | n + 1, .obj _ _, h => by simp [okD] at h
  | n + 1, .clo _, h => by simp [okD] at h
theorem okL_lay : ∀ {n : Nat} {l : List D}, okL n l = true → PyData.canLayAll0 (toPys l) = true ∧ PyData.depthAll (toPys l) ≤ n
  | n, [], _ => ⟨by simp [toPys, PyData.canLayAll0], by simp [toPys, PyData.depthAll]⟩
  | n, d :: r, h => by
    unfold okL at h
    obtain ⟨h1, h2⟩ := Bool.and_eq_true_iff.mp h
    obtain ⟨a1, a2⟩ := okD_lay h1
    obtain ⟨b1, b2⟩ := okL_lay h2
    exact ⟨by simp [toPys, PyData.canLayAll0, a1, b1], by simp only [toPys, PyData.depthAll]; omega⟩
end
theorem okD_shaped {d : D} (h : okD 60 d = true) : SeqAt.shaped (toPy d) = true := by
  obtain ⟨h1, h2⟩ := okD_lay h
  unfold SeqAt.shaped
  rw [h1, Bool.true_and]
  exact decide_eq_true (by omega)
mutual
theorem eqD_py : ∀ {n m : Nat} {d e : D}, okD n d = true → okD m e = true → PyData.eqv (toPy d) (toPy e) = eqD d e
  | n, m, d, e, h, h' => by
    cases d <;> cases e <;> first
      | (simp only [toPy, PyData.eqv, eqD, b2i]; done)
      | (exfalso; cases n <;> simp [okD] at h; done)
      | (exfalso; cases m <;> simp [okD] at h'; done)
      | skip
    · rename_i a b
      cases n with
      | zero => simp [okD] at h
      | succ n =>
        cases m with
        | zero => simp [okD] at h'
        | succ m =>
          unfold okD at h h'
          simp only [toPy, PyData.eqv, eqD]
          exact eqL_py h h'
    · rename_i a b
      cases n with
      | zero => simp [okD] at h
      | succ n =>
        cases m with
        | zero => simp [okD] at h'
        | succ m =>
          unfold okD at h h'
          simp only [toPy, PyData.eqv, eqD]
          exact eqL_py h h'
theorem eqL_py : ∀ {n m : Nat} {a b : List D}, okL n a = true → okL m b = true → PyData.eqvAll (toPys a) (toPys b) = eqL a b
  | _, _, [], [], _, _ => by simp [toPys, PyData.eqvAll, eqL]
  | _, _, [], _ :: _, _, _ => by simp [toPys, PyData.eqvAll, eqL]
  | _, _, _ :: _, [], _, _ => by simp [toPys, PyData.eqvAll, eqL]
  | n, m, x :: xs, y :: ys, h, h' => by
    unfold okL at h h'
    obtain ⟨h1, h2⟩ := Bool.and_eq_true_iff.mp h
    obtain ⟨k1, k2⟩ := Bool.and_eq_true_iff.mp h'
    simp only [toPys, PyData.eqvAll, eqL]
    rw [eqD_py h1 k1, eqL_py h2 k2]
end
mutual
theorem Rep.dp {B : RB} {H : Hp} : ∀ {n : Nat} {d : D} {v : V}, okD n d = true → Rep B H d v → Dp B.K H v (toPy d)
  | n, .non, v, _, r => by simp only [Rep] at r; subst r; exact .non
  | n, .bl b, v, _, r => by simp only [Rep] at r; subst r; exact .bl b
  | n, .int i, v, _, r => by simp only [Rep] at r; subst r; exact .int i
  | n, .str z, v, _, r => by simp only [Rep] at r; subst r; exact .str z
  | n + 1, .tup l, v, h, r => by
    unfold okD at h
    simp only [Rep] at r
    obtain ⟨a, xs, rfl, h1, h2⟩ := r
    exact .tup h1 (RepL.dp h h2)
  | n + 1, .lst l, v, h, r => by
    unfold okD at h
    simp only [Rep] at r
    obtain ⟨a, xs, rfl, h1, h2⟩ := r
    exact .lst (.of h1) (RepL.dp h h2)
  | 0, .tup l, v, h, _ => by simp [okD] at h
  | 0, .lst l, v, h, _ => by simp [okD] at h
  | n, .dic _ _, v, _, r => by simp [Rep] at r
  | n, .obj _ _, v, _, r => by simp [Rep] at r
  | 0, .clo _, v, h, _ => by simp [okD] at h
  | n + 1, .clo _, v, h, _ => by simp [okD] at h
theorem RepL.dp {B : RB} {H : Hp} : ∀ {n : Nat} {l : List D} {vs : List V}, okL n l = true → RepL B H l vs → DpAll B.K H vs (toPys l)
  | n, [], vs, _, r => by rw [RepL.nil.mp r]; exact .nil
  | n, d :: l, vs, h, r => by
    unfold okL at h
    obtain ⟨h1, h2⟩ := Bool.and_eq_true_iff.mp h
    obtain ⟨v, t, rfl, r1, r2⟩ := r.uncons
    exact .cons (Rep.dp h1 r1) (RepL.dp h2 r2)
end
def toVf : D → V
  | .bl b => .bl b
  | .int i => .int i
  | .str z => .str z
  | _ => .non
theorem flat_v {B : RB} {H : Hp} {d : D} {v : V} (h : flatD d = true) (r : Rep B H d v) : v = toVf d ∧ flatV v = true := by
  cases d <;> simp [flatD] at h <;> simp only [Rep] at r <;> subst r <;> exact ⟨rfl, rfl⟩
theorem flat_vs {B : RB} {H : Hp} : ∀ {l : List D} {vs : List V}, l.all flatD = true → RepL B H l vs → vs = l.map toVf ∧ vs.all flatV = true
  | [], vs, _, r => by rw [RepL.nil.mp r]; exact ⟨rfl, rfl⟩
  | d :: l, vs, h, r => by
    obtain ⟨v, t, rfl, r1, r2⟩ := r.uncons
    obtain ⟨h1, h2⟩ := Bool.and_eq_true_iff.mp h
    obtain ⟨a, b⟩ := flat_v h1 r1
    obtain ⟨a', b'⟩ := flat_vs h2 r2
    exact ⟨by rw [a, a']; rfl, Bool.and_eq_true_iff.mpr ⟨b, b'⟩⟩
theorem eqV_flat {d e : D} (h : flatD d = true) (h' : flatD e = true) : eqV (toVf d) (toVf e) = eqD d e := by
  cases d <;> simp [flatD] at h <;> cases e <;> simp [flatD] at h' <;> first | rfl | simp [toVf, eqV, eqD, b2i]
theorem inV_flat {d : D} (h : flatD d = true) : ∀ {l : List D}, l.all flatD = true → inV (toVf d) (l.map toVf) = l.any fun y => eqD y d
  | [], _ => rfl
  | e :: l, h' => by
    obtain ⟨h1, h2⟩ := Bool.and_eq_true_iff.mp h'
    have := inV_flat h h2
    unfold inV at this ⊢
    rw [List.map_cons, List.any_cons, List.any_cons, this, eqV_flat h1 h]
theorem ints_v {B : RB} {H : Hp} : ∀ {l : List D} {ns : List Int} {vs : List V}, intsOf l = some ns → RepL B H l vs → vs = ns.map V.int
  | [], ns, vs, e, r => by
    unfold intsOf at e
    cases e
    rw [RepL.nil.mp r]
    rfl
  | .int i :: l, ns, vs, e, r => by
    unfold intsOf at e
    obtain ⟨ms, e1, rfl⟩ := Option.map_eq_some_iff.mp e
    obtain ⟨v, t, rfl, r1, r2⟩ := r.uncons
    simp only [Rep] at r1
    subst r1
    rw [ints_v e1 r2]
    rfl
  | .non :: _, _, _, e, _ => by simp [intsOf] at e
  | .bl _ :: _, _, _, e, _ => by simp [intsOf] at e
  | .str _ :: _, _, _, e, _ => by simp [intsOf] at e
  | .tup _ :: _, _, _, e, _ => by simp [intsOf] at e
  | .lst _ :: _, _, _, e, _ => by simp [intsOf] at e
  | .dic _ _ :: _, _, _, e, _ => by simp [intsOf] at e
  | .obj _ _ :: _, _, _, e, _ => by simp [intsOf] at e
  | .clo _ :: _, _, _, e, _ => by simp [intsOf] at e
end MZ
end
section
set_option maxRecDepth 100000
set_option maxHeartbeats 2000000
namespace MZ
open PySem PySem.Spec PyProof.Rows L2 LamX MX
section
variable {G : Gb} {fr : Fr} {cf : FnI} {lf : Nat → Env → Out D} {ρ ρ1 ρ2 : Env} {σ : L2.St} {H H1 H2 : Hp}
theorem line_is : sizeLine = line := by rw [sizeLine_eq]; rfl
/-- a new list, a new tuple -/
theorem mk_lst (ok : OkF G fr ρ σ H) {p : Addr} (n : H p = none) {l : List D} {xs : List V} (r : RepL G.B (vis fr ρ σ H) l xs) : Rep G.B (vis fr ρ σ (upd H p (.lst xs))) (.lst l) (.ref p) := by
  simp only [Rep]
  exact ⟨p, xs, rfl, vis_laid ok n, r.mono (vis_le (fun _ z => z) (ext_upd n))⟩
theorem mk_tup (ok : OkF G fr ρ σ H) {p : Addr} (n : H p = none) {l : List D} {xs : List V} (r : RepL G.B (vis fr ρ σ H) l xs) : Rep G.B (vis fr ρ σ (upd H p (.tup xs))) (.tup l) (.ref p) := by
  simp only [Rep]
  exact ⟨p, xs, rfl, .of (vis_laid ok n), r.mono (vis_le (fun _ z => z) (ext_upd n))⟩
/-- what a rule of the kit tells of an operation is enough for the core's -/
def PrimOk (G : Gb) (p : Prim) (r : List V → Hp → VK → Prop) : Prop := ∀ (fr : Fr) (ρ : Env) (σ : L2.St) (H : Hp) (ds : List D) (vs : List V) (d : D) (Q : VK), OkF G fr ρ σ H → TRepL G.B (vis fr ρ σ H) H ds vs → primR p ds = some d →
  (∀ v H', Step G fr ρ σ H ρ σ H' → Rep G.B (vis fr ρ σ H') d v → Q v H') → r vs H Q
theorem prim_tX {p : Prim} {r : List V → Hp → VK → Prop} (ok : PrimOk G p r) {as : AL} {Q : VK} (h : tE G fr (evalE cf lf (.prim p as)) σ H Q) : tXc G fr cf lf as σ H fun vs H' => r vs H' Q := by
  obtain ⟨ρ, o, h⟩ := h
  rw [evalE] at h
  refine tX_fold o ?_
  cases hx : evalX cf lf as ρ with
  | bad => rw [hx] at h; exact h.elim
  | exc k => rw [hx] at h; exact h
  | ok ds ρ1 =>
    rw [hx] at h
    simp only [Out.bind] at h
    intro vs H1 s1 rx
    cases hf : fill as ds ρ1 with
    | none => rw [hf] at h; exact h.elim
    | some full =>
      rw [hf] at h
      simp only [Option.bind] at h
      cases hp : primR p full with
      | none => rw [hp] at h; exact h.elim
      | some d =>
        rw [hp] at h
        exact ok fr ρ1 σ H1 full vs d Q s1.ok (rx.fill s1.ok hf) hp fun v H2 s2 r2 => h v H2 (s1.trans s2) r2
theorem prim1 {p : Prim} {r : V → Hp → VK → Prop} (ok : PrimOk G p fun vs H Q => ∃ x, vs = [x] ∧ r x H Q) {as : AL} (hl : as.len = 1) {Q : VK} (h : tE G fr (evalE cf lf (.prim p as)) σ H Q) : tO G fr cf lf as σ H fun x H1 => r x H1 Q := by
  have := tXc_one hl (prim_tX ok h)
  have e : (fun x H1 => ∃ x', [x] = [x'] ∧ r x' H1 Q) = fun x H1 => r x H1 Q := by
    funext x H1
    exact propext ⟨fun ⟨_, e, q⟩ => by cases e; exact q, fun q => ⟨x, rfl, q⟩⟩
  rw [e] at this
  exact this
theorem prim2 {p : Prim} {r : R2} (ok : PrimOk G p fun vs H Q => ∃ x y, vs = [x, y] ∧ r x y H Q) {as : AL} (hl : as.len = 2) {Q : VK} (h : tE G fr (evalE cf lf (.prim p as)) σ H Q) : tOp r (tO G fr cf lf as) (tO G fr cf lf as.tl) σ H Q := by
  have := tXc_two hl (prim_tX ok h)
  have e : ∀ x, (fun y H2 => ∃ x' y', [x, y] = [x', y'] ∧ r x' y' H2 Q) = fun y H2 => r x y H2 Q := fun x => by
    funext y H2
    exact propext ⟨fun ⟨_, _, e, q⟩ => by cases e; exact q, fun q => ⟨x, y, rfl, q⟩⟩
  have e' : (fun x H1 => tO G fr cf lf as.tl σ H1 fun y H2 => ∃ x' y', [x, y] = [x', y'] ∧ r x' y' H2 Q) = fun x H1 => tO G fr cf lf as.tl σ H1 fun y H2 => r x y H2 Q := by
    funext x H1
    rw [e x]
  rw [e'] at this
  exact this
def Two (r : R2) : List V → Hp → VK → Prop := fun vs H Q => ∃ x y, vs = [x, y] ∧ r x y H Q
def One (r : V → Hp → VK → Prop) : List V → Hp → VK → Prop := fun vs H Q => ∃ x, vs = [x] ∧ r x H Q
end
/-! ### the operations -/
section
variable {G : Gb}
theorem nonclo {B : RB} {k : Nat} {H : Hp} (h : B.cl k .non H) : False := B.cref k .non H h |>.elim fun _ z => nomatch z
theorem trep_int {B : RB} {V H : Hp} {i : Int} {v : L2.V} (h : TRep B V H (.int i) v) : v = .int i := by simpa [TRep, Rep] using h
theorem trep_str {B : RB} {V H : Hp} {i : Str} {v : L2.V} (h : TRep B V H (.str i) v) : v = .str i := by simpa [TRep, Rep] using h
theorem trep_bl {B : RB} {V H : Hp} {i : Bool} {v : L2.V} (h : TRep B V H (.bl i) v) : v = .bl i := by simpa [TRep, Rep] using h
theorem trep_non {B : RB} {V H : Hp} {v : L2.V} (h : TRep B V H .non v) : v = .non := by simpa [TRep, Rep] using h
theorem rep_int {B : RB} {H : Hp} {i : Int} : Rep B H (.int i) (.int i) := by simp only [Rep]
theorem rep_bl {B : RB} {H : Hp} {i : Bool} : Rep B H (.bl i) (.bl i) := by simp only [Rep]
theorem rep_str {B : RB} {H : Hp} {i : Str} : Rep B H (.str i) (.str i) := by simp only [Rep]
theorem rep_non {B : RB} {H : Hp} : Rep B H .non .non := by simp only [Rep]
/-- a prim of two operands: by cases on the data -/
def rAdd (K : PySem.W.Frag) : R2 := fun x y H Q => rI0 (fun i j => .int (i + j)) x y H Q ∨ (∃ i j, x = .str i ∧ y = .str j ∧ i.length + j.length ≤ sizeLine ∧ Q (.str (i ++ j)) H) ∨ rCat x y H Q ∨ rCatA K x y H Q
theorem rep_nil {B : RB} {V : Hp} {l : List D} (r : RepL B V l []) : l = [] := by
  cases l with
  | nil => rfl
  | cons d l => obtain ⟨v, t, e, _⟩ := r.uncons; cases e
theorem trep_tup {B : RB} {V H : Hp} {l : List D} {v : L2.V} (e : ExtN V H) (h : TRep B V H (.tup l) v) : ∃ a xs, v = .ref a ∧ SqT B.K H a xs ∧ RepL B V l xs := by
  simp only [TRep, Rep] at h
  obtain ⟨a, xs, h1, h2, h3⟩ := h
  exact ⟨a, xs, h1, ext_sqT e h2, h3⟩
theorem len_z {B : RB} {V : Hp} {l : List D} {xs : List L2.V} (r : RepL B V l xs) (h : xs ≠ []) : l ≠ [] := fun z => h (by subst z; exact RepL.nil.mp r)
theorem pk_add : PrimOk G .add (Two (rAdd G.K)) := fun fr ρ σ H ds vs d Q ok rs hp q => by
  change addR ds = some d at hp
  unfold addR at hp
  split at hp
  · obtain ⟨v, w, rfl, h1, h2⟩ := rs.two
    cases hp
    exact ⟨v, w, rfl, .inl ⟨_, _, trep_int h1, trep_int h2, q _ H (.refl ok) rep_int⟩⟩
  · obtain ⟨v, w, rfl, h1, h2⟩ := rs.two
    split at hp <;> cases hp
    rename_i hl
    exact ⟨v, w, rfl, .inr (.inl ⟨_, _, trep_str h1, trep_str h2, by rw [line_is]; exact hl, q _ H (.refl ok) rep_str⟩)⟩
  · obtain ⟨v, w, rfl, ⟨a, xs, e1, h1, r1⟩, b, ys, e2, h2, r2⟩ := rs.two
    split at hp <;> cases hp
    rename_i hl
    refine ⟨v, w, rfl, .inr (.inr (.inl ⟨a, b, xs, ys, e1, e2, h1, h2, by rw [line_is, r1.length, r2.length]; exact hl, fun p n => ?_⟩))⟩
    exact q _ _ (ok.laid n) (mk_lst ok n (r1.append r2))
  · obtain ⟨v, w, rfl, t1, t2⟩ := rs.two
    obtain ⟨a, xs, e1, h1, r1⟩ := trep_tup vis_ext t1
    obtain ⟨b, ys, e2, h2, r2⟩ := trep_tup vis_ext t2
    rw [G.hK] at h1 h2
    split at hp <;> cases hp
    rename_i hl
    refine ⟨v, w, rfl, .inr (.inr (.inr ⟨a, b, xs, ys, e1, e2, h1, h2, by rw [line_is, r1.length, r2.length]; exact hl, fun z => ?_, fun _ z => ?_, fun _ _ p n => q _ _ (ok.laid n) (mk_tup ok n (r1.append r2))⟩))⟩
    · subst z
      rw [rep_nil r1, List.nil_append] at q
      exact q _ H (.refl ok) (e2 ▸ t2)
    · subst z
      rw [rep_nil r2, List.append_nil] at q
      exact q _ H (.refl ok) (e1 ▸ t1)
  · cases hp
theorem mul_ok {i j : Int} (h : mulOk i j = true) : CMulX i j := by
  unfold mulOk at h
  have h := of_decide_eq_true h
  have b : ∀ x : Int, (Builtin.Int.intBits x : Int) ≤ x.natAbs.log2 + 1 := fun x => by
    unfold Builtin.Int.intBits
    split <;> omega
  have := b i
  have := b j
  unfold CMulX
  omega
def rMul (K : PySem.W.Frag) : R2 := fun x y H Q => rI CMulX (fun i j => .int (i * j)) x y H Q ∨ rRep x y H Q ∨ rRepT K x y H Q
theorem rep_flat {B : RB} {V : Hp} {l : List D} {xs : List L2.V} (r : RepL B V l xs) : ∀ n : Nat, RepL B V (List.replicate n l).flatten (List.replicate n xs).flatten
  | 0 => RepL.nil.mpr rfl
  | n + 1 => by
    rw [List.replicate_succ, List.replicate_succ, List.flatten_cons, List.flatten_cons]
    exact r.append (rep_flat r n)
theorem pk_mul : PrimOk G .mul (Two (rMul G.K)) := fun fr ρ σ H ds vs d Q ok rs hp q => by
  change mulR ds = some d at hp
  unfold mulR at hp
  split at hp
  · obtain ⟨v, w, rfl, h1, h2⟩ := rs.two
    split at hp <;> cases hp
    rename_i hm
    exact ⟨v, w, rfl, .inl ⟨_, _, trep_int h1, trep_int h2, mul_ok hm, q _ H (.refl ok) rep_int⟩⟩
  · obtain ⟨v, w, rfl, ⟨a, xs, e1, h1, r1⟩, h2⟩ := rs.two
    split at hp <;> cases hp
    rename_i l k hl
    have h3 : (line : Int) = 16777216 := rfl
    refine ⟨v, w, rfl, .inr (.inl ⟨a, k, xs, e1, trep_int h2, h1, by omega, by omega, by rw [line_is, r1.length]; exact hl.2.1, fun p n => ?_⟩)⟩
    exact q _ _ (ok.laid n) (mk_lst ok n (rep_flat r1 _))
  · obtain ⟨v, w, rfl, t1, h2⟩ := rs.two
    obtain ⟨a, xs, e1, h1, r1⟩ := trep_tup vis_ext t1
    rw [G.hK] at h1
    split at hp <;> cases hp
    rename_i l k hl
    refine ⟨v, w, rfl, .inr (.inr ⟨a, k, xs, e1, trep_int h2, h1, fun z => ?_, hl.2.1, hl.2.2.1, by rw [r1.length]; exact hl.2.2.2, fun p n => q _ _ (ok.laid n) (mk_tup ok n (rep_flat r1 _))⟩)⟩
    subst z
    have := hl.1
    rw [rep_nil r1] at this
    exact absurd this (Nat.lt_irrefl 0)
  · cases hp
theorem pk_sub : PrimOk G .sub (Two (rI0 fun i j => .int (i - j))) := fun fr ρ σ H ds vs d Q ok rs hp q => by
  change subR ds = some d at hp
  unfold subR at hp
  split at hp
  · obtain ⟨v, w, rfl, h1, h2⟩ := rs.two
    cases hp
    exact ⟨v, w, rfl, _, _, trep_int h1, trep_int h2, q _ H (.refl ok) rep_int⟩
  · cases hp
theorem pk_fdiv : PrimOk G .fdiv (Two (rI CDivW fun i j => .int (i / j))) := fun fr ρ σ H ds vs d Q ok rs hp q => by
  change fdivR ds = some d at hp
  unfold fdivR at hp
  split at hp
  · obtain ⟨v, w, rfl, h1, h2⟩ := rs.two
    split at hp
    · rename_i hm
      cases hp
      exact ⟨v, w, rfl, _, _, trep_int h1, trep_int h2, by unfold divOk at hm; unfold CDivW; exact of_decide_eq_true hm, q _ H (.refl ok) rep_int⟩
    · cases hp
  · cases hp
theorem pk_mod : PrimOk G .mod (Two (rI (fun _ j => 0 < j) fun i j => .int (i % j))) := fun fr ρ σ H ds vs d Q ok rs hp q => by
  change modR ds = some d at hp
  unfold modR at hp
  split at hp
  · obtain ⟨v, w, rfl, h1, h2⟩ := rs.two
    split at hp
    · rename_i hm
      cases hp
      exact ⟨v, w, rfl, _, _, trep_int h1, trep_int h2, hm, q _ H (.refl ok) rep_int⟩
    · cases hp
  · cases hp
theorem pk_gt : PrimOk G .gt (Two (rI0 fun i j => .bl (decide (j < i)))) := fun fr ρ σ H ds vs d Q ok rs hp q => by
  change gtR ds = some d at hp
  unfold gtR at hp
  split at hp
  · obtain ⟨v, w, rfl, h1, h2⟩ := rs.two
    cases hp
    exact ⟨v, w, rfl, _, _, trep_int h1, trep_int h2, q _ H (.refl ok) rep_bl⟩
  · cases hp
theorem pk_le : PrimOk G .le (Two (rI0 fun i j => .bl (decide (i ≤ j)))) := fun fr ρ σ H ds vs d Q ok rs hp q => by
  change leR ds = some d at hp
  unfold leR at hp
  split at hp
  · obtain ⟨v, w, rfl, h1, h2⟩ := rs.two
    cases hp
    exact ⟨v, w, rfl, _, _, trep_int h1, trep_int h2, q _ H (.refl ok) rep_bl⟩
  · cases hp
theorem pk_ge : PrimOk G .ge (Two (rI0 fun i j => .bl (decide (j ≤ i)))) := fun fr ρ σ H ds vs d Q ok rs hp q => by
  change geR ds = some d at hp
  unfold geR at hp
  split at hp
  · obtain ⟨v, w, rfl, h1, h2⟩ := rs.two
    cases hp
    exact ⟨v, w, rfl, _, _, trep_int h1, trep_int h2, q _ H (.refl ok) rep_bl⟩
  · cases hp
theorem pk_pow : PrimOk G .pow (Two (rI CPow fun i j => .int (i ^ j.toNat))) := fun fr ρ σ H ds vs d Q ok rs hp q => by
  change powR ds = some d at hp
  unfold powR at hp
  split at hp
  · obtain ⟨v, w, rfl, h1, h2⟩ := rs.two
    split at hp <;> cases hp
    rename_i hm
    exact ⟨v, w, rfl, _, _, trep_int h1, trep_int h2, ⟨hm.1, by omega, of_decide_eq_true hm.2.2⟩, q _ H (.refl ok) rep_int⟩
  · cases hp
theorem pk_neg : PrimOk G .neg (One (rU fun i => .int (-i))) := fun fr ρ σ H ds vs d Q ok rs hp q => by
  change negR ds = some d at hp
  unfold negR at hp
  split at hp
  · obtain ⟨v, rfl, h1⟩ := rs.one
    cases hp
    exact ⟨v, rfl, _, trep_int h1, q _ H (.refl ok) rep_int⟩
  · cases hp
def rLt (K : PySem.W.Frag) : R2 := fun x y H Q => rI0 (fun i j => .bl (decide (i < j))) x y H Q ∨ rLtT K x y H Q
theorem pk_lt : PrimOk G .lt (Two (rLt G.K)) := fun fr ρ σ H ds vs d Q ok rs hp q => by
  change ltR ds = some d at hp
  unfold ltR at hp
  split at hp
  · obtain ⟨v, w, rfl, h1, h2⟩ := rs.two
    obtain ⟨b, hb, rfl⟩ := Option.map_eq_some_iff.mp hp
    unfold ltD at hb
    split at hb
    · cases hb
      exact ⟨v, w, rfl, .inl ⟨_, _, trep_int h1, trep_int h2, q _ H (.refl ok) rep_bl⟩⟩
    · obtain ⟨a, xs, e1, k1, r1⟩ := trep_tup vis_ext h1
      obtain ⟨b', ys, e2, k2, r2⟩ := trep_tup vis_ext h2
      rw [G.hK] at k1 k2
      obtain ⟨ns, n1, hb⟩ := Option.bind_eq_some_iff.mp hb
      obtain ⟨ms, n2, rfl⟩ := Option.map_eq_some_iff.mp hb
      rw [ints_v n1 r1] at k1
      rw [ints_v n2 r2] at k2
      exact ⟨v, w, rfl, .inr ⟨a, b', ns, ms, e1, e2, k1, k2, q _ H (.refl ok) rep_bl⟩⟩
    · cases hb
  · cases hp
theorem pk_eq : PrimOk G .eq (Two (rEqD G.K)) := fun fr ρ σ H ds vs d Q ok rs hp q => by
  change eqR ds = some d at hp
  unfold eqR at hp
  split at hp
  · obtain ⟨v, w, rfl, h1, h2⟩ := rs.two
    split at hp <;> cases hp
    rename_i hm
    obtain ⟨m1, m2⟩ := Bool.and_eq_true_iff.mp hm
    refine ⟨v, w, rfl, _, _, G.hK ▸ (h1.full vis_ext).dp m1, G.hK ▸ (h2.full vis_ext).dp m2, okD_shaped m1, okD_shaped m2, q _ H (.refl ok) ?_⟩
    rw [eqD_py m1 m2]
    exact rep_bl
  · cases hp
theorem pk_ne : PrimOk G .ne (Two (rNeD G.K)) := fun fr ρ σ H ds vs d Q ok rs hp q => by
  change neR ds = some d at hp
  unfold neR at hp
  split at hp
  · obtain ⟨v, w, rfl, h1, h2⟩ := rs.two
    split at hp <;> cases hp
    rename_i hm
    obtain ⟨m1, m2⟩ := Bool.and_eq_true_iff.mp hm
    refine ⟨v, w, rfl, _, _, G.hK ▸ (h1.full vis_ext).dp m1, G.hK ▸ (h2.full vis_ext).dp m2, okD_shaped m1, okD_shaped m2, q _ H (.refl ok) ?_⟩
    rw [eqD_py m1 m2]
    exact rep_bl
  · cases hp
theorem pk_isN : PrimOk G .isN (One fun x H Q => Q (V.bl (decide (x = .non))) H) := fun fr ρ σ H ds vs d Q ok rs hp q => by
  change isNR ds = some d at hp
  unfold isNR at hp
  split at hp
  · obtain ⟨v, rfl, h1⟩ := rs.one
    cases hp
    rw [trep_non h1]
    exact ⟨.non, rfl, q _ H (.refl ok) rep_bl⟩
  · rename_i x hx
    obtain ⟨v, rfl, h1⟩ := rs.one
    cases hp
    refine ⟨v, rfl, q _ H (.refl ok) ?_⟩
    have : decide (v = .non) = false := decide_eq_false fun z => by
      subst z
      replace h1 := h1.full vis_ext
      cases x <;> simp [Rep] at h1
      · exact hx rfl
      · exact nonclo h1
    rw [this]
    exact rep_bl
  · cases hp
theorem pk_notN : PrimOk G .notN (One fun x H Q => Q (V.bl (!decide (x = .non))) H) := fun fr ρ σ H ds vs d Q ok rs hp q => by
  change notNR ds = some d at hp
  unfold notNR at hp
  split at hp
  · obtain ⟨v, rfl, h1⟩ := rs.one
    cases hp
    rw [trep_non h1]
    exact ⟨.non, rfl, q _ H (.refl ok) rep_bl⟩
  · rename_i x hx
    obtain ⟨v, rfl, h1⟩ := rs.one
    cases hp
    refine ⟨v, rfl, q _ H (.refl ok) ?_⟩
    have : decide (v = .non) = false := decide_eq_false fun z => by
      subst z
      replace h1 := h1.full vis_ext
      cases x <;> simp [Rep] at h1
      · exact hx rfl
      · exact nonclo h1
    rw [this]
    exact rep_bl
  · cases hp
theorem pk_isIn : PrimOk G .isIn (Two (rIn G.K false)) := fun fr ρ σ H ds vs d Q ok rs hp q => by
  change isInR ds = some d at hp
  unfold isInR at hp
  split at hp
  · obtain ⟨v, w, rfl, h1, a, ys, e2, h2, r2⟩ := rs.two
    split at hp <;> cases hp
    rename_i hm
    obtain ⟨m1, m2⟩ := Bool.and_eq_true_iff.mp hm
    obtain ⟨u1, u2⟩ := flat_v m1 (h1.full vis_ext)
    obtain ⟨w1, w2⟩ := flat_vs m2 r2
    refine ⟨v, w, rfl, a, ys, e2, .inl (.of h2), u2, w2, q _ H (.refl ok) ?_⟩
    rw [u1, w1, inV_flat m1 m2]
    exact rep_bl
  · obtain ⟨v, w, rfl, h1, h2⟩ := rs.two
    obtain ⟨a, ys, e2, h2, r2⟩ := trep_tup vis_ext h2
    split at hp <;> cases hp
    rename_i hm
    obtain ⟨m1, m2⟩ := Bool.and_eq_true_iff.mp hm
    obtain ⟨u1, u2⟩ := flat_v m1 (h1.full vis_ext)
    obtain ⟨w1, w2⟩ := flat_vs m2 r2
    refine ⟨v, w, rfl, a, ys, e2, .inr (G.hK ▸ h2), u2, w2, q _ H (.refl ok) ?_⟩
    rw [u1, w1, inV_flat m1 m2]
    exact rep_bl
  · cases hp
theorem pk_notIn : PrimOk G .notIn (Two (rIn G.K true)) := fun fr ρ σ H ds vs d Q ok rs hp q => by
  change notInR ds = some d at hp
  unfold notInR at hp
  split at hp
  · obtain ⟨v, w, rfl, h1, a, ys, e2, h2, r2⟩ := rs.two
    split at hp <;> cases hp
    rename_i hm
    obtain ⟨m1, m2⟩ := Bool.and_eq_true_iff.mp hm
    obtain ⟨u1, u2⟩ := flat_v m1 (h1.full vis_ext)
    obtain ⟨w1, w2⟩ := flat_vs m2 r2
    refine ⟨v, w, rfl, a, ys, e2, .inl (.of h2), u2, w2, q _ H (.refl ok) ?_⟩
    rw [u1, w1, inV_flat m1 m2]
    exact rep_bl
  · obtain ⟨v, w, rfl, h1, h2⟩ := rs.two
    obtain ⟨a, ys, e2, h2, r2⟩ := trep_tup vis_ext h2
    split at hp <;> cases hp
    rename_i hm
    obtain ⟨m1, m2⟩ := Bool.and_eq_true_iff.mp hm
    obtain ⟨u1, u2⟩ := flat_v m1 (h1.full vis_ext)
    obtain ⟨w1, w2⟩ := flat_vs m2 r2
    refine ⟨v, w, rfl, a, ys, e2, .inr (G.hK ▸ h2), u2, w2, q _ H (.refl ok) ?_⟩
    rw [u1, w1, inV_flat m1 m2]
    exact rep_bl
  · cases hp
theorem pk_nt : PrimOk G .nt (One fun x H Q => ∃ c, x = .bl c ∧ Q (.bl (!c)) H) := fun fr ρ σ H ds vs d Q ok rs hp q => by
  change ntR ds = some d at hp
  unfold ntR at hp
  split at hp
  · obtain ⟨v, rfl, h1⟩ := rs.one
    cases hp
    exact ⟨v, rfl, _, trep_bl h1, q _ H (.refl ok) rep_bl⟩
  · cases hp
end
end MZ
end
section
set_option maxRecDepth 100000
set_option maxHeartbeats 2000000
namespace MZ
open PySem PySem.Spec PyProof.Rows L2 LamX MX
section
variable {G : Gb}
theorem atI_of {B : RB} {V : Hp} {l : List D} {xs : List L2.V} {i : Int} {d : D} (r : RepL B V l xs) (h : ixD l i = some d) : ∃ v, atI xs i = some v ∧ Rep B V d v := by
  unfold ixD at h
  unfold atI ixN
  by_cases h0 : 0 ≤ i
  · rw [if_pos h0] at h
    have hl : i.toNat < l.length := (List.getElem?_eq_some_iff.mp h).1
    obtain ⟨v, e, q⟩ := r.get h
    have hx := r.length
    simp only [h0, if_true]
    refine ⟨v, ?_, q⟩
    split <;> first | (simpa using e) | (exfalso; omega)
  · rw [if_neg h0] at h
    split at h
    · rename_i h1
      have hl := (List.getElem?_eq_some_iff.mp h).1
      obtain ⟨v, e, q⟩ := r.get h
      have hx := r.length
      refine ⟨v, ?_, q⟩
      rw [← hx] at e
      simp only [h0, if_false]
      split <;> first | (simpa using e) | (exfalso; omega)
    · cases h
theorem pk_ix : PrimOk G .ix (Two (rIx G.K)) := fun fr ρ σ H ds vs d Q ok rs hp q => by
  change ixR ds = some d at hp
  unfold ixR at hp
  split at hp
  · obtain ⟨v, w, rfl, ⟨a, xs, e1, h1, r1⟩, h2⟩ := rs.two
    obtain ⟨x, e, r⟩ := atI_of r1 hp
    exact ⟨v, w, rfl, .inl ⟨a, xs, _, x, e1, trep_int h2, .of h1, e, q _ H (.refl ok) r⟩⟩
  · obtain ⟨v, w, rfl, h1, h2⟩ := rs.two
    obtain ⟨a, xs, e1, h1, r1⟩ := trep_tup vis_ext h1
    obtain ⟨x, e, r⟩ := atI_of r1 hp
    exact ⟨v, w, rfl, .inr (.inl ⟨a, xs, _, x, e1, trep_int h2, G.hK ▸ h1, e, q _ H (.refl ok) r⟩)⟩
  · rename_i z i
    obtain ⟨v, w, rfl, h1, h2⟩ := rs.two
    split at hp <;> try cases hp
    rename_i hm
    obtain ⟨c, hc, rfl⟩ := Option.map_eq_some_iff.mp hp
    refine ⟨v, w, rfl, .inr (.inr ⟨z, i, c, trep_str h1, trep_int h2, by rw [line_is]; exact hm.2.2, ?_, q _ H (.refl ok) rep_str⟩)⟩
    have hl := (List.getElem?_eq_some_iff.mp hc).1
    unfold atI ixN
    simp only [hm.1, if_true]
    split <;> first | (simpa using hc) | (exfalso; omega)
  · cases hp
theorem sIx_cut (n d : Nat) (i : Int) : HT.sIx n d (some i) = cutAt n i := by
  unfold HT.sIx cutAt
  show (if i < 0 then (i + (n : Int)).toNat else min i.toNat n) = _
  by_cases h : i < 0
  · rw [if_pos h, if_neg (by omega)]
  · rw [if_neg h, if_pos (by omega)]
def rSlAll (K : PySem.W.Frag) : L2.V → Option Int → Option Int → Hp → VK → Prop := fun x lo hi H Q => rSlL K x lo hi H Q ∨ rSlA K x lo hi H Q
def Slice3 (K : PySem.W.Frag) : List L2.V → Hp → VK → Prop := fun vs H Q => ∃ x i j, vs = [x, .int i, .int j] ∧ rSlAll K x (some i) (some j) H Q
def SliceLo (K : PySem.W.Frag) : List L2.V → Hp → VK → Prop := fun vs H Q => ∃ x i, vs = [x, .int i] ∧ rSlAll K x (some i) none H Q
def SliceHi (K : PySem.W.Frag) : List L2.V → Hp → VK → Prop := fun vs H Q => ∃ x i, vs = [x, .int i] ∧ rSlAll K x none (some i) H Q
theorem cutV_all {xs : List L2.V} {lo hi : Option Int} (h : HT.sIx xs.length 0 lo = 0 ∧ HT.sIx xs.length xs.length hi = xs.length) : cutV xs lo hi = xs := by
  unfold cutV
  rw [h.1, h.2, List.drop_zero, Nat.sub_zero, List.take_length]
section
variable {fr : Fr} {ρ : Env} {σ : L2.St} {H : Hp}
theorem sl_lst (ok : OkF G fr ρ σ H) {l m : List D} {v : L2.V} {lo hi : Option Int} {Q : VK} (t : TRep G.B (vis fr ρ σ H) H (.lst l) v) (c : ∀ xs, RepL G.B (vis fr ρ σ H) l xs → RepL G.B (vis fr ρ σ H) m (cutV xs lo hi)) (q : ∀ v H', Step G fr ρ σ H ρ σ H' → Rep G.B (vis fr ρ σ H') (.lst m) v → Q v H') : rSlAll G.K v lo hi H Q := by
  obtain ⟨a, xs, e, h, r⟩ := t
  exact .inl ⟨a, xs, e, .of h, fun p n => q _ _ (ok.laid n) (mk_lst ok n (c xs r))⟩
theorem sl_tup (ok : OkF G fr ρ σ H) {l m : List D} {v : L2.V} {lo hi : Option Int} {Q : VK} (t : TRep G.B (vis fr ρ σ H) H (.tup l) v) (c : ∀ xs, RepL G.B (vis fr ρ σ H) l xs → RepL G.B (vis fr ρ σ H) m (cutV xs lo hi)) (c0 : ∀ n, n = l.length → HT.sIx n 0 lo = 0 ∧ HT.sIx n n hi = n → m = l) (q : ∀ v H', Step G fr ρ σ H ρ σ H' → Rep G.B (vis fr ρ σ H') (.tup m) v → Q v H') : rSlAll G.K v lo hi H Q := by
  obtain ⟨a, xs, e, h, r⟩ := trep_tup vis_ext t
  refine .inr ⟨a, xs, e, G.hK ▸ h, fun z => ?_, fun _ p n => q _ _ (ok.laid n) (mk_tup ok n (c xs r))⟩
  have := c0 xs.length r.length z
  subst this
  exact q _ H (.refl ok) (e ▸ t)
end
theorem cut_rep {V : Hp} {l : List D} {xs : List L2.V} {i j : Int} (r : RepL G.B V l xs) : RepL G.B V (cutD l (cutAt l.length i) (cutAt l.length j)) (cutV xs (some i) (some j)) := by
  unfold cutD cutV
  rw [sIx_cut, sIx_cut, r.length]
  exact (r.drop _).take _
theorem cutlo_rep {V : Hp} {l : List D} {xs : List L2.V} {i : Int} (r : RepL G.B V l xs) : RepL G.B V (l.drop (cutAt l.length i)) (cutV xs (some i) none) := by
  unfold cutV
  rw [sIx_cut, HT.sIx_none, ← r.length, List.take_of_length_le (by rw [List.length_drop]; omega), r.length]
  exact r.drop _
theorem cuthi_rep {V : Hp} {l : List D} {xs : List L2.V} {j : Int} (r : RepL G.B V l xs) : RepL G.B V (l.take (cutAt l.length j)) (cutV xs none (some j)) := by
  unfold cutV
  rw [sIx_cut, HT.sIx_none, List.drop_zero, Nat.sub_zero, r.length]
  exact r.take _
theorem cut_all {l : List D} {i j : Int} (n : Nat) (e : n = l.length) (h : HT.sIx n 0 (some i) = 0 ∧ HT.sIx n n (some j) = n) : cutD l (cutAt l.length i) (cutAt l.length j) = l := by
  rw [sIx_cut, sIx_cut] at h
  subst e
  unfold cutD
  rw [h.1, h.2, List.drop_zero, Nat.sub_zero, List.take_length]
theorem cutlo_all {l : List D} {i : Int} (n : Nat) (e : n = l.length) (h : HT.sIx n 0 (some i) = 0 ∧ HT.sIx n n none = n) : l.drop (cutAt l.length i) = l := by
  rw [sIx_cut] at h
  subst e
  rw [h.1, List.drop_zero]
theorem cuthi_all {l : List D} {j : Int} (n : Nat) (e : n = l.length) (h : HT.sIx n 0 none = 0 ∧ HT.sIx n n (some j) = n) : l.take (cutAt l.length j) = l := by
  rw [sIx_cut] at h
  subst e
  rw [h.2, List.take_length]
theorem pk_cut2 : PrimOk G .cut2 (Slice3 G.K) := fun fr ρ σ H ds vs d Q ok rs hp q => by
  change cut2R ds = some d at hp
  unfold cut2R at hp
  split at hp
  · obtain ⟨v, w, x, rfl, h1, h2, h3⟩ := rs.three
    cases hp
    rw [trep_int h2, trep_int h3]
    exact ⟨v, _, _, rfl, sl_lst ok h1 (fun xs r => cut_rep r) q⟩
  · obtain ⟨v, w, x, rfl, h1, h2, h3⟩ := rs.three
    cases hp
    rw [trep_int h2, trep_int h3]
    exact ⟨v, _, _, rfl, sl_tup ok h1 (fun xs r => cut_rep r) cut_all q⟩
  · cases hp
theorem pk_cutLo : PrimOk G .cutLo (SliceLo G.K) := fun fr ρ σ H ds vs d Q ok rs hp q => by
  change cutLoR ds = some d at hp
  unfold cutLoR at hp
  split at hp
  · obtain ⟨v, w, rfl, h1, h2⟩ := rs.two
    cases hp
    rw [trep_int h2]
    exact ⟨v, _, rfl, sl_lst ok h1 (fun xs r => cutlo_rep r) q⟩
  · obtain ⟨v, w, rfl, h1, h2⟩ := rs.two
    cases hp
    rw [trep_int h2]
    exact ⟨v, _, rfl, sl_tup ok h1 (fun xs r => cutlo_rep r) cutlo_all q⟩
  · cases hp
theorem pk_cutHi : PrimOk G .cutHi (SliceHi G.K) := fun fr ρ σ H ds vs d Q ok rs hp q => by
  change cutHiR ds = some d at hp
  unfold cutHiR at hp
  split at hp
  · obtain ⟨v, w, rfl, h1, h2⟩ := rs.two
    cases hp
    rw [trep_int h2]
    exact ⟨v, _, rfl, sl_lst ok h1 (fun xs r => cuthi_rep r) q⟩
  · obtain ⟨v, w, rfl, h1, h2⟩ := rs.two
    cases hp
    rw [trep_int h2]
    exact ⟨v, _, rfl, sl_tup ok h1 (fun xs r => cuthi_rep r) cuthi_all q⟩
  · cases hp
/-! ### what is called -/
def rLen (K : PySem.W.Frag) : List L2.V → Hp → VK → Prop := fun xs H Q => (∃ p ys, xs = [.ref p] ∧ (SqL K H p ys ∨ SqT K H p ys) ∧ Q (.int ys.length) H) ∨ ∃ z, xs = [.str z] ∧ z.length ≤ sizeLine ∧ Q (.int z.length) H
theorem pk_len : PrimOk G .len (rLen G.K) := fun fr ρ σ H ds vs d Q ok rs hp q => by
  change lenR ds = some d at hp
  unfold lenR at hp
  split at hp
  · obtain ⟨v, rfl, a, xs, rfl, h1, r1⟩ := rs.one
    cases hp
    exact .inl ⟨a, xs, rfl, .inl (.of h1), q _ H (.refl ok) (by rw [r1.length]; exact rep_int)⟩
  · obtain ⟨v, rfl, h1⟩ := rs.one
    obtain ⟨a, xs, rfl, h1, r1⟩ := trep_tup vis_ext h1
    cases hp
    exact .inl ⟨a, xs, rfl, .inr (G.hK ▸ h1), q _ H (.refl ok) (by rw [r1.length]; exact rep_int)⟩
  · obtain ⟨v, rfl, h1⟩ := rs.one
    split at hp <;> cases hp
    rename_i hl
    rw [trep_str h1]
    exact .inr ⟨_, rfl, by rw [line_is]; exact hl, q _ H (.refl ok) rep_int⟩
  · cases hp
theorem pk_abs : PrimOk G .abs (fun xs H Q => ∃ i, xs = [.int i] ∧ Q (.int (if i < 0 then -i else i)) H) := fun fr ρ σ H ds vs d Q ok rs hp q => by
  change absR ds = some d at hp
  unfold absR at hp
  split at hp
  · obtain ⟨v, rfl, h1⟩ := rs.one
    cases hp
    rw [trep_int h1]
    exact ⟨_, rfl, q _ H (.refl ok) rep_int⟩
  · cases hp
theorem pk_toInt : PrimOk G .toInt (fun xs H Q => (∃ i, xs = [.int i] ∧ Q (.int i) H) ∨ ∃ k, xs = [.bl k] ∧ Q (.int (if k then 1 else 0)) H) := fun fr ρ σ H ds vs d Q ok rs hp q => by
  change toIntR ds = some d at hp
  unfold toIntR at hp
  split at hp
  · obtain ⟨v, rfl, h1⟩ := rs.one
    cases hp
    rw [trep_int h1]
    exact .inl ⟨_, rfl, q _ H (.refl ok) rep_int⟩
  · obtain ⟨v, rfl, h1⟩ := rs.one
    cases hp
    rw [trep_bl h1]
    exact .inr ⟨_, rfl, q _ H (.refl ok) rep_int⟩
  · cases hp
theorem pk_min2 : PrimOk G .min2 (fun xs H Q => ∃ i j, xs = [.int i, .int j] ∧ Q (.int (if j < i then j else i)) H) := fun fr ρ σ H ds vs d Q ok rs hp q => by
  change min2R ds = some d at hp
  unfold min2R at hp
  split at hp
  · obtain ⟨v, w, rfl, h1, h2⟩ := rs.two
    cases hp
    rw [trep_int h1, trep_int h2]
    exact ⟨_, _, rfl, q _ H (.refl ok) rep_int⟩
  · cases hp
theorem pk_max2 : PrimOk G .max2 (fun xs H Q => ∃ i j, xs = [.int i, .int j] ∧ Q (.int (if j > i then j else i)) H) := fun fr ρ σ H ds vs d Q ok rs hp q => by
  change max2R ds = some d at hp
  unfold max2R at hp
  split at hp
  · obtain ⟨v, w, rfl, h1, h2⟩ := rs.two
    cases hp
    rw [trep_int h1, trep_int h2]
    exact ⟨_, _, rfl, q _ H (.refl ok) rep_int⟩
  · cases hp
theorem pk_sumL : PrimOk G .sumL (rSum G.K) := fun fr ρ σ H ds vs d Q ok rs hp q => by
  change sumLR ds = some d at hp
  unfold sumLR at hp
  split at hp
  · obtain ⟨v, rfl, a, xs, rfl, h1, r1⟩ := rs.one
    obtain ⟨ns, e, rfl⟩ := Option.map_eq_some_iff.mp hp
    rw [ints_v e r1] at h1
    exact ⟨a, ns, rfl, .of h1, q _ H (.refl ok) rep_int⟩
  · cases hp
theorem pk_maxL : PrimOk G .maxL (rMax G.K) := fun fr ρ σ H ds vs d Q ok rs hp q => by
  change maxLR ds = some d at hp
  unfold maxLR at hp
  split at hp
  · obtain ⟨v, rfl, a, xs, rfl, h1, r1⟩ := rs.one
    obtain ⟨ns, e, hp⟩ := Option.bind_eq_some_iff.mp hp
    obtain ⟨m, em, rfl⟩ := Option.map_eq_some_iff.mp hp
    rw [ints_v e r1] at h1
    refine ⟨a, ns, rfl, .of h1, List.length_pos_iff.mpr (fun z => by subst z; cases em), fun m' h1' h2' => ?_⟩
    obtain ⟨k1, k2⟩ := List.max?_eq_some_iff.mp em
    have : m' = m := Int.le_antisymm (k2 _ h1') (h2' _ k1)
    exact q _ H (.refl ok) (this ▸ rep_int)
  · cases hp
theorem pk_minL : PrimOk G .minL (rMin G.K) := fun fr ρ σ H ds vs d Q ok rs hp q => by
  change minLR ds = some d at hp
  unfold minLR at hp
  split at hp
  · obtain ⟨v, rfl, a, xs, rfl, h1, r1⟩ := rs.one
    obtain ⟨ns, e, hp⟩ := Option.bind_eq_some_iff.mp hp
    obtain ⟨m, em, rfl⟩ := Option.map_eq_some_iff.mp hp
    rw [ints_v e r1] at h1
    refine ⟨a, ns, rfl, .of h1, List.length_pos_iff.mpr (fun z => by subst z; cases em), fun m' h1' h2' => ?_⟩
    obtain ⟨k1, k2⟩ := List.min?_eq_some_iff.mp em
    have : m' = m := Int.le_antisymm (h2' _ k1) (k2 _ h1')
    exact q _ H (.refl ok) (this ▸ rep_int)
  · cases hp
theorem pk_tupOf : PrimOk G .tupOf (fun xs H Q => ∃ p ys, xs = [.ref p] ∧ ((SqL G.K H p ys ∧ ∀ l, H l = none → Q (.ref l) (upd H l (.tup ys))) ∨ (SqT G.K H p ys ∧ Q (.ref p) H))) := fun fr ρ σ H ds vs d Q ok rs hp q => by
  change tupOfR ds = some d at hp
  unfold tupOfR at hp
  split at hp
  · obtain ⟨v, rfl, a, xs, rfl, h1, r1⟩ := rs.one
    cases hp
    exact ⟨a, xs, rfl, .inl ⟨.of h1, fun p n => q _ _ (ok.laid n) (mk_tup ok n r1)⟩⟩
  · obtain ⟨v, rfl, h⟩ := rs.one
    obtain ⟨a, xs, rfl, h1, r1⟩ := trep_tup vis_ext h
    cases hp
    exact ⟨a, xs, rfl, .inr ⟨G.hK ▸ h1, q _ H (.refl ok) h⟩⟩
  · cases hp
theorem pk_lstOf : PrimOk G .lstOf (fun xs H Q => ∃ p ys, xs = [.ref p] ∧ (SqL G.K H p ys ∨ SqT G.K H p ys) ∧ ∀ l, H l = none → Q (.ref l) (upd H l (.lst ys))) := fun fr ρ σ H ds vs d Q ok rs hp q => by
  change lstOfR ds = some d at hp
  unfold lstOfR at hp
  split at hp
  · obtain ⟨v, rfl, a, xs, rfl, h1, r1⟩ := rs.one
    cases hp
    exact ⟨a, xs, rfl, .inl (.of h1), fun p n => q _ _ (ok.laid n) (mk_lst ok n r1)⟩
  · obtain ⟨v, rfl, h⟩ := rs.one
    obtain ⟨a, xs, rfl, h1, r1⟩ := trep_tup vis_ext h
    cases hp
    exact ⟨a, xs, rfl, .inr (G.hK ▸ h1), fun p n => q _ _ (ok.laid n) (mk_lst ok n r1)⟩
  · cases hp
end
end MZ
end
section
set_option maxRecDepth 100000
set_option maxHeartbeats 2000000
namespace MZ
open PySem PySem.Spec PyProof.Rows L2 LamX MX
/-- what stands behind an exception that leaves the frame -/
structure KeepX (G : Gb) (fr : Fr) (H : Hp) : Prop where
  keep : ∀ a o, fr.H0 a = some o → ¬ fr.A0 a → (∀ ps, o ≠ .tbl ps) → H a = some o
  tab : ∀ p ∈ G.T, TabOk H p
theorem OkF.keepX {G : Gb} {fr : Fr} {ρ : Env} {σ : L2.St} {H : Hp} (ok : OkF G fr ρ σ H) : KeepX G fr H := ⟨ok.keep, ok.tab⟩
def WF (G : Gb) (fr : Fr) : WX := fun cls d _ H => ∃ k, cls = G.xc k ∧ d = none ∧ KeepX G fr H ∧ fr.ek k
/-- the written part of a context: its names, its scope, how deep a call may go, what it is (0 a def's body, 1 a block, 2 another frame) -/
structure SC where
  N : List Str
  sc : Scope
  lvl : Nat
  kd : Nat
  cd : Value := .none
  qual : Str := ""
  cells : Option (List (Str × Addr)) := none
structure CxS (G : Gb) (S : SC) (fr : Fr) (X : Cx) : Prop where
  prog : X.prog = G.prog
  w : X.w = G.w
  K : X.K = G.K
  mg : X.mg = G.mg
  base : X.base = G.base
  N : X.N = S.N
  sc : X.env.scope = S.sc
  nd : S.N.Nodup
  calm : X.calm = true
  room : Room S.lvl X.A
  tk : TakF X (WF G fr)
  fn : S.kd = 0 → ∀ x, X.fn x = true
  fl : S.kd ≠ 1 → X.stack = X.env :: X.outer ∧ X.env.frame = some X.env.locals ∧ Takes X (WF G fr)
  po : S.kd = 0 → PassesOwn (model X.prog X.w) X.A X.env X.xe
  code : S.kd = 0 → X.env.code = S.cd ∧ X.env.qual = S.qual
  cells : ∀ c, S.cells = some c → X.env.cells = c
section
variable {G : Gb} {S : SC} {fr : Fr} {X : Cx}
theorem CxS.nN (c : CxS G S fr X) {i : Nat} {x : Str} (h : S.N[i]? = some x) : X.N[i]? = some x := by rw [c.N]; exact h
theorem CxS.vis (c : CxS G S fr X) {x : Str} (h : Vis S.sc x) : Vis X.env.scope x := by rw [c.sc]; exact h
theorem CxS.loc (c : CxS G S fr X) {x : Str} (h : Loc S.sc x) : Loc X.env.scope x := by rw [c.sc]; exact h
theorem CxS.gl (c : CxS G S fr X) {x : Str} (h : S.sc.names.lookup x = some .globalImplicit) : Gl X x := by
  unfold Gl Env.kindOf
  rw [c.sc]
  exact h
theorem CxS.hm (c : CxS G S fr X) {x : Str} {o : Option Value} (h : G.mg x = o) : X.mg x = o := by rw [c.mg]; exact h
theorem CxS.u64 (c : CxS G S fr X) : X.A.units + 64 < cLine := c.room.units
end
theorem pe_imp {X : Cx} {e : Expr} {t t' : TE} (h : PE X e t) (k : ∀ σ H Q, t' σ H Q → t σ H Q) : PE X e t' := ⟨fun pins s σ H Q I q => h.run pins s σ H Q I (k σ H Q q)⟩
theorem pt_imp {X : Cx} {e : Expr} {t t' : TT} (h : PT X e t) (k : ∀ σ H Q, t' σ H Q → t σ H Q) : PT X e t' := ⟨fun pins s σ H Q I q => h.run pins s σ H Q I (k σ H Q q)⟩
theorem pw_imp {X : Cx} {e : Expr} {t t' : TT} (h : PW X e t) (k : ∀ σ H Q, t' σ H Q → t σ H Q) : PW X e t' := ⟨fun wh pins s σ H Q I q => h.run wh pins s σ H Q I (k σ H Q q)⟩
theorem pa_imp {X : Cx} {es : List Expr} {t t' : TA} (h : PA X es t) (k : ∀ σ H Q, t' σ H Q → t σ H Q) : PA X es t' := ⟨fun pos pins s σ H Q I q => h.run pos pins s σ H Q I (k σ H Q q)⟩
section
variable (G : Gb) (cf : FnI) (lf : Nat → Env → Out D)
/-- what is asked behind a test -/
def RTok (fr : Fr) (ρ : Env) (σ : L2.St) (H : Hp) (o : Out D) (Q : Bool → Hp → Prop) : Prop := match o with
  | .ok d ρ' => ∃ b, truD d = some b ∧ ∀ H', Step G fr ρ σ H ρ' σ H' → Q b H'
  | .exc k => fr.ek k
  | .bad => False
def tT (fr : Fr) (f : Env → Out D) : TT := fun σ H Q => ∃ ρ, OkF G fr ρ σ H ∧ RTok G fr ρ σ H (f ρ) Q
/-- e computes c; as a new list; as a test; as an operand; the arguments es compute as -/
def EE (S : SC) (e : Expr) (c : C) : Prop := ∀ fr X, CxS G S fr X → PE X e (tE G fr (evalE cf lf c))
def EF (S : SC) (e : Expr) (c : C) : Prop := ∀ fr X, CxS G S fr X → PE X e (tF G fr (evalE cf lf c))
def ET (S : SC) (e : Expr) (c : C) : Prop := ∀ fr X, CxS G S fr X → PT X e (tT G fr (evalE cf lf c))
def EW (S : SC) (e : Expr) (c : C) : Prop := ∀ fr X, CxS G S fr X → PW X e (tT G fr (evalE cf lf c))
def EO (S : SC) (e : Expr) (as : AL) : Prop := ∀ fr X, CxS G S fr X → PE X e (tO G fr cf lf as)
def EA (S : SC) (es : List Expr) (as : AL) : Prop := ∀ fr X, CxS G S fr X → PA X es (tXc G fr cf lf as)
end
section
variable {G : Gb} {cf : FnI} {lf : Nat → Env → Out D} {S : SC} {pos : Pos}
theorem tE_const {fr : Fr} {d : D} {v : V} (r : ∀ H, Rep G.B H d v) {c : C} (hc : ∀ ρ, evalE cf lf c ρ = .ok d ρ) (σ : L2.St) (H : Hp) (Q : VK) (h : tE G fr (evalE cf lf c) σ H Q) : tC v σ H Q := by
  obtain ⟨ρ, ok, h⟩ := h
  rw [hc] at h
  exact h v H (.refl ok) (r _)
theorem ee_int {i : Int} {j} : EE G cf lf S (.Constant (.int i) j pos) (.cst (.int i)) := fun fr X c => pe_imp pe_int (tE_const (fun _ => rep_int) fun _ => by rw [evalE])
theorem ee_bl {b : Bool} {j} : EE G cf lf S (.Constant (.bool b) j pos) (.cst (.bl b)) := fun fr X c => pe_imp pe_bl (tE_const (fun _ => rep_bl) fun _ => by rw [evalE])
theorem ee_non {j} : EE G cf lf S (.Constant .none j pos) (.cst .non) := fun fr X c => pe_imp pe_non (tE_const (fun _ => rep_non) fun _ => by rw [evalE])
theorem ee_str {x : Str} {j} : EE G cf lf S (.Constant (.str x) j pos) (.cst (.str x)) := fun fr X c => pe_imp pe_str (tE_const (fun _ => rep_str) fun _ => by rw [evalE])
/-- a module's constant -/
theorem ee_glob {x : Str} {d : D} {v : V} {u : Value} (hg : S.sc.names.lookup x = some .globalImplicit) (hm : G.mg x = some u) (r : RelV v u) (hd : ∀ H, Rep G.B H d v) (hb : (x == ("__debug__" : Str)) = false := by decide) : EE G cf lf S (.Name x pos) (.glob d) :=
  fun fr X c => pe_imp (pe_glob (c.gl hg) (c.hm hm) r hb) (tE_const hd fun _ => by rw [evalE])
theorem ee_var {i : Nat} {x : Str} (hN : S.N[i]? = some x) (hv : Vis S.sc x) (hd : (x == ("__debug__" : Str)) = false := by decide) (hcd : (x == ("__classdict__" : Str)) = false := by decide) : EE G cf lf S (.Name x pos) (.var i) :=
  fun fr X c => pe_imp (pe_var (c.nN hN) (c.vis hv) hd hcd) fun σ H Q ⟨ρ, ok, h⟩ => by
    rw [evalE] at h
    split at h
    · rename_i d e
      obtain ⟨v, e1, r⟩ := ok.slot i _ e
      exact ⟨v, e1, h v H (.refl ok) r⟩
    · rename_i d e
      obtain ⟨v, e1, s, r⟩ := freeze ok e
      exact ⟨v, e1, h v H s r⟩
    · exact h.elim
theorem eo_ex {e : Expr} {c : C} {r : AL} (h : EE G cf lf S e c) : EO G cf lf S e (.ex c r) := h
theorem eo_bo {i : Nat} {x : Str} {r : AL} (hN : S.N[i]? = some x) (hv : Vis S.sc x) (hd : (x == ("__debug__" : Str)) = false := by decide) (hcd : (x == ("__classdict__" : Str)) = false := by decide) : EO G cf lf S (.Name x pos) (.bo i r) := fun fr X c => pe_var (c.nN hN) (c.vis hv) hd hcd
theorem eo_mu {i : Nat} {x : Str} {r : AL} (hN : S.N[i]? = some x) (hv : Vis S.sc x) (hd : (x == ("__debug__" : Str)) = false := by decide) (hcd : (x == ("__classdict__" : Str)) = false := by decide) : EO G cf lf S (.Name x pos) (.mu i r) := fun fr X c => pe_var (c.nN hN) (c.vis hv) hd hcd
theorem ea_nil : EA G cf lf S [] .nil := fun fr X c => pa_nil
theorem ea_cons {e : Expr} {es : List Expr} {as : AL} (h : EO G cf lf S e as) (t : EA G cf lf S es as.tl) (hl : as.len ≠ 0) (hs : ∀ env : PySem.Env, starEach (e :: es) env = (false, eval e env) :: starEach es env) : EA G cf lf S (e :: es) as := fun fr X c => by
  rw [tXc_cons hl]
  exact pa_cons (h fr X c) (t fr X c) (hs _)
/-! ### operators -/
section
variable {a b e : Expr} {as : AL}
theorem ee_op {op : Operator} {p : Prim} {r : R2} (hr : ∀ fr X, CxS G S fr X → OpR X (binaryOp op) r) (hp : PrimOk G p (Two r)) (ha : EO G cf lf S a as) (hb : EO G cf lf S b as.tl) (hl : as.len = 2) : EE G cf lf S (.BinOp a op b pos) (.prim p as) :=
  fun fr X c => pe_imp (pe_op (hr fr X c) (ha fr X c) (hb fr X c)) fun σ H Q h => prim2 hp hl h
theorem ee_cmp {op : CmpOp} {p : Prim} {r : R2} (hr : ∀ fr X, CxS G S fr X → OpR X (compareOp op) r) (hp : PrimOk G p (Two r)) (ha : EO G cf lf S a as) (hb : EO G cf lf S b as.tl) (hl : as.len = 2) (hm : behindInMarks op b = false) : EE G cf lf S (.Compare a [op] [b] pos) (.prim p as) :=
  fun fr X c => pe_imp (pe_cmpR (hr fr X c) (ha fr X c) (hb fr X c) hm) fun σ H Q h => prim2 hp hl h
theorem or_add {fr : Fr} (c : CxS G S fr X) : OpR X (binaryOp .Add) (rAdd G.K) := op_add.or (op_add_str.or (op_cat.or (c.K ▸ op_catA)))
theorem or_mul {fr : Fr} (c : CxS G S fr X) : OpR X (binaryOp .Mult) (rMul G.K) := op_mulX.or (op_rep.or (c.K ▸ op_repT))
theorem or_lt {fr : Fr} (c : CxS G S fr X) : OpR X (compareOp .Lt) (rLt G.K) := op_lt.or (c.K ▸ op_ltT c.room.units0)
theorem or_eq {fr : Fr} (c : CxS G S fr X) : OpR X (compareOp .Eq) (rEqD G.K) := c.K ▸ op_eqD c.u64
theorem or_ne {fr : Fr} (c : CxS G S fr X) : OpR X (compareOp .NotEq) (rNeD G.K) := c.K ▸ op_neD c.u64
theorem or_in {fr : Fr} (c : CxS G S fr X) : OpR X (compareOp .In) (rIn G.K false) := c.K ▸ op_in_seq
theorem or_notIn {fr : Fr} (c : CxS G S fr X) : OpR X (compareOp .NotIn) (rIn G.K true) := c.K ▸ op_notIn_seq
theorem ee_add (ha : EO G cf lf S a as) (hb : EO G cf lf S b as.tl) (hl : as.len = 2) : EE G cf lf S (.BinOp a .Add b pos) (.prim .add as) := ee_op (fun _ _ c => or_add c) pk_add ha hb hl
theorem ee_sub (ha : EO G cf lf S a as) (hb : EO G cf lf S b as.tl) (hl : as.len = 2) : EE G cf lf S (.BinOp a .Sub b pos) (.prim .sub as) := ee_op (fun _ _ c => op_sub) pk_sub ha hb hl
theorem ee_mul (ha : EO G cf lf S a as) (hb : EO G cf lf S b as.tl) (hl : as.len = 2) : EE G cf lf S (.BinOp a .Mult b pos) (.prim .mul as) := ee_op (fun _ _ c => or_mul c) pk_mul ha hb hl
theorem ee_fdiv (ha : EO G cf lf S a as) (hb : EO G cf lf S b as.tl) (hl : as.len = 2) : EE G cf lf S (.BinOp a .FloorDiv b pos) (.prim .fdiv as) := ee_op (fun _ _ c => op_fdivW) pk_fdiv ha hb hl
theorem ee_mod (ha : EO G cf lf S a as) (hb : EO G cf lf S b as.tl) (hl : as.len = 2) : EE G cf lf S (.BinOp a .Mod b pos) (.prim .mod as) := ee_op (fun _ _ c => op_mod) pk_mod ha hb hl
theorem ee_pow (ha : EO G cf lf S a as) (hb : EO G cf lf S b as.tl) (hl : as.len = 2) : EE G cf lf S (.BinOp a .Pow b pos) (.prim .pow as) := ee_op (fun _ _ c => op_pow) pk_pow ha hb hl
theorem ee_neg (ha : EO G cf lf S a as) (hl : as.len = 1) : EE G cf lf S (.UnaryOp .USub a pos) (.prim .neg as) := fun fr X c => pe_imp (pe_un un_neg (ha fr X c)) fun σ H Q h => prim1 pk_neg hl h
theorem ee_not (ha : EO G cf lf S a as) (hl : as.len = 1) : EE G cf lf S (.UnaryOp .Not a pos) (.prim .nt as) := fun fr X c => pe_imp (pe_not (ha fr X c)) fun σ H Q h => prim1 pk_nt hl h
theorem ee_lt (ha : EO G cf lf S a as) (hb : EO G cf lf S b as.tl) (hl : as.len = 2) : EE G cf lf S (.Compare a [.Lt] [b] pos) (.prim .lt as) := ee_cmp (fun _ _ c => or_lt c) pk_lt ha hb hl (nomark b)
theorem ee_le (ha : EO G cf lf S a as) (hb : EO G cf lf S b as.tl) (hl : as.len = 2) : EE G cf lf S (.Compare a [.LtE] [b] pos) (.prim .le as) := ee_cmp (fun _ _ c => op_le) pk_le ha hb hl (nomark b)
theorem ee_gt (ha : EO G cf lf S a as) (hb : EO G cf lf S b as.tl) (hl : as.len = 2) : EE G cf lf S (.Compare a [.Gt] [b] pos) (.prim .gt as) := ee_cmp (fun _ _ c => op_gt) pk_gt ha hb hl (nomark b)
theorem ee_ge (ha : EO G cf lf S a as) (hb : EO G cf lf S b as.tl) (hl : as.len = 2) : EE G cf lf S (.Compare a [.GtE] [b] pos) (.prim .ge as) := ee_cmp (fun _ _ c => op_ge) pk_ge ha hb hl (nomark b)
theorem ee_eq (ha : EO G cf lf S a as) (hb : EO G cf lf S b as.tl) (hl : as.len = 2) : EE G cf lf S (.Compare a [.Eq] [b] pos) (.prim .eq as) := ee_cmp (fun _ _ c => or_eq c) pk_eq ha hb hl (nomark b)
theorem ee_ne (ha : EO G cf lf S a as) (hb : EO G cf lf S b as.tl) (hl : as.len = 2) : EE G cf lf S (.Compare a [.NotEq] [b] pos) (.prim .ne as) := ee_cmp (fun _ _ c => or_ne c) pk_ne ha hb hl (nomark b)
theorem ee_in (ha : EO G cf lf S a as) (hb : EO G cf lf S b as.tl) (hl : as.len = 2) (hm : behindInMarks .In b = false) : EE G cf lf S (.Compare a [.In] [b] pos) (.prim .isIn as) := ee_cmp (fun _ _ c => or_in c) pk_isIn ha hb hl hm
theorem ee_notIn (ha : EO G cf lf S a as) (hb : EO G cf lf S b as.tl) (hl : as.len = 2) (hm : behindInMarks .NotIn b = false) : EE G cf lf S (.Compare a [.NotIn] [b] pos) (.prim .notIn as) := ee_cmp (fun _ _ c => or_notIn c) pk_notIn ha hb hl hm
theorem tOp_one {r : R2} {ta : TE} {x : V} {σ : L2.St} {H : Hp} {Q : VK} (h : ta σ H fun v H1 => r v x H1 Q) : tOp r ta (tC x) σ H Q := h
theorem ee_isN {j} {p2 : Pos} (ha : EO G cf lf S a as) (hl : as.len = 1) : EE G cf lf S (.Compare a [.Is] [.Constant .none j p2] pos) (.prim .isN as) :=
  fun fr X c => pe_imp (pe_cmpR op_isN (ha fr X c) pe_non (nomark _)) fun σ H Q h => by
    have := prim1 pk_isN hl h
    refine tOp_one ?_
    have e : (fun v H1 => ∃ _ : V.non = .non, Q (V.bl (decide (v = .non))) H1) = fun (v : V) (H1 : Hp) => (V.non = .non ∧ Q (V.bl (decide (v = .non))) H1) := by
      funext v H1
      exact propext ⟨fun ⟨a, b⟩ => ⟨a, b⟩, fun ⟨a, b⟩ => ⟨a, b⟩⟩
    rw [← e]
    have e2 : (fun v H1 => ∃ _ : V.non = .non, Q (V.bl (decide (v = .non))) H1) = fun (v : V) (H1 : Hp) => Q (V.bl (decide (v = .non))) H1 := by
      funext v H1
      exact propext ⟨fun ⟨_, b⟩ => b, fun b => ⟨rfl, b⟩⟩
    rw [e2]
    exact this
theorem ee_notN {j} {p2 : Pos} (ha : EO G cf lf S a as) (hl : as.len = 1) : EE G cf lf S (.Compare a [.IsNot] [.Constant .none j p2] pos) (.prim .notN as) :=
  fun fr X c => pe_imp (pe_cmpR op_notN (ha fr X c) pe_non (nomark _)) fun σ H Q h => by
    have := prim1 pk_notN hl h
    refine tOp_one ?_
    have e : (fun v H1 => (V.non = .non ∧ Q (V.bl (!decide (v = .non))) H1)) = fun (v : V) (H1 : Hp) => Q (V.bl (!decide (v = .non))) H1 := by
      funext v H1
      exact propext ⟨fun z => z.2, fun z => ⟨rfl, z⟩⟩
    rw [e]
    exact this
theorem ee_ix (ha : EO G cf lf S a as) (hb : EO G cf lf S b as.tl) (hl : as.len = 2) (hs : PlainIx b) : EE G cf lf S (.Subscript a b pos) (.prim .ix as) :=
  fun fr X c => pe_imp (pe_ix ix_seq (ha fr X c) (hb fr X c) hs) fun σ H Q h => by
    rw [c.K]
    exact prim2 pk_ix hl h
end
end
end MZ
end
section
set_option maxRecDepth 100000
set_option maxHeartbeats 2000000
namespace MZ
open PySem PySem.Spec PyProof.Rows L2 LamX MX
section
variable {G : Gb} {cf : FnI} {lf : Nat → Env → Out D} {S : SC} {pos : Pos} {a b e : Expr} {as : AL}
/-- monotone in what follows -/
theorem tO_mono {fr : Fr} {as : AL} {σ : L2.St} {H : Hp} {Q Q' : VK} (k : ∀ v H', Q v H' → Q' v H') (z : tO G fr cf lf as σ H Q) : tO G fr cf lf as σ H Q' := by
  cases as with
  | nil => exact z
  | ex c r =>
    obtain ⟨ρ, ok, r⟩ := z
    refine ⟨ρ, ok, ?_⟩
    cases ho : evalE cf lf c ρ with
    | ok d ρ' => rw [ho] at r; exact fun v H' s q => k _ _ (r v H' s q)
    | exc j => rw [ho] at r; exact r
    | bad => rw [ho] at r; exact r
  | bo i r => obtain ⟨v, e, q⟩ := z; exact ⟨v, e, k _ _ q⟩
  | mu i r => obtain ⟨v, e, q⟩ := z; exact ⟨v, e, k _ _ q⟩
theorem tXc_three {fr : Fr} {as : AL} {σ : L2.St} {H : Hp} (h : as.len = 3) {Q : List V → Hp → Prop} (q : tXc G fr cf lf as σ H Q) : tO G fr cf lf as σ H fun x H1 => tO G fr cf lf as.tl σ H1 fun y H2 => tO G fr cf lf as.tl.tl σ H2 fun z H3 => Q [x, y, z] H3 := by
  rw [tXc_cons (by omega)] at q
  have h' : as.tl.len = 2 := by cases as <;> simp [AL.len] at h <;> exact h
  exact tO_mono (fun v H' z => tXc_two h' (Q := fun vs H'' => Q (v :: vs) H'') z) q
/-! ### slices -/
theorem or_sl {X : Cx} {fr : Fr} (c : CxS G S fr X) : SlR X (rSlAll G.K) := c.K ▸ sl_list.or sl_tupA
theorem ck_int {fr : Fr} {c : C} {σ : L2.St} {H : Hp} {Q : VK} (h : tE G fr (evalE cf lf (.ck c)) σ H Q) : tE G fr (evalE cf lf c) σ H fun z H3 => ∃ i, z = .int i ∧ Q (.int i) H3 := by
  obtain ⟨ρ, ok, h⟩ := h
  refine ⟨ρ, ok, ?_⟩
  rw [evalE] at h
  cases ho : evalE cf lf c ρ with
  | bad => rw [ho] at h; exact h
  | exc k => rw [ho] at h; exact h
  | ok d ρ1 =>
    rw [ho] at h
    simp only [Out.bind] at h
    split at h
    · intro v H1 s r
      simp only [Rep] at r
      subst r
      exact ⟨_, rfl, h _ H1 s rep_int⟩
    · exact h.elim
theorem ee_cut2 {lo hi : Expr} {p2 : Pos} {c1 c2 : C} (ha : EO G cf lf S a as) (hlo : EE G cf lf S lo c1) (hhi : EE G cf lf S hi c2) (hl : as.len = 3) (h1 : as.tl = .ex (.ck c1) (.ex (.ck c2) .nil)) : EE G cf lf S (.Subscript a (.Slice (some lo) (some hi) none p2) pos) (.prim .cut2 as) :=
  fun fr X c => pe_imp (pe_slice (or_sl c) (ha fr X c) (po_some (hlo fr X c)) (po_some (hhi fr X c))) fun σ H Q h => by
    have q := tXc_three hl (prim_tX pk_cut2 h)
    rw [h1] at q
    refine tO_mono (fun x H1 q => ?_) q
    refine tO_mono (as := .ex c1 .nil) (fun y H2 q => ?_) (ck_int q)
    obtain ⟨i, rfl, q⟩ := q
    refine ⟨i, rfl, tO_mono (as := .ex c2 .nil) (fun z H3 q => ?_) (ck_int q)⟩
    obtain ⟨j, rfl, x', i', j', e, q⟩ := q
    cases e
    exact ⟨j, rfl, q⟩
theorem ee_cutLo {lo : Expr} {p2 : Pos} {c1 : C} (ha : EO G cf lf S a as) (hlo : EE G cf lf S lo c1) (hl : as.len = 2) (h1 : as.tl = .ex (.ck c1) .nil) : EE G cf lf S (.Subscript a (.Slice (some lo) none none p2) pos) (.prim .cutLo as) :=
  fun fr X c => pe_imp (pe_slice (or_sl c) (ha fr X c) (po_some (hlo fr X c)) po_none) fun σ H Q h => by
    have q := tXc_two hl (prim_tX pk_cutLo h)
    rw [h1] at q
    refine tO_mono (fun x H1 q => ?_) q
    refine tO_mono (as := .ex c1 .nil) (fun y H2 q => ?_) (ck_int q)
    obtain ⟨i, rfl, x', i', e, q⟩ := q
    cases e
    exact ⟨i, rfl, q⟩
theorem ee_cutHi {hi : Expr} {p2 : Pos} {c1 : C} (ha : EO G cf lf S a as) (hhi : EE G cf lf S hi c1) (hl : as.len = 2) (h1 : as.tl = .ex (.ck c1) .nil) : EE G cf lf S (.Subscript a (.Slice none (some hi) none p2) pos) (.prim .cutHi as) :=
  fun fr X c => pe_imp (pe_slice (or_sl c) (ha fr X c) po_none (po_some (hhi fr X c))) fun σ H Q h => by
    have q := tXc_two hl (prim_tX pk_cutHi h)
    rw [h1] at q
    refine tO_mono (fun x H1 q => ?_) q
    refine tO_mono (as := .ex c1 .nil) (fun y H2 q => ?_) (ck_int q)
    obtain ⟨i, rfl, x', i', e, q⟩ := q
    cases e
    exact ⟨i, rfl, q⟩
/-! ### tuples, lists -/
theorem RX_full : ∀ {as : AL} {B : RB} {V : Hp} {σ : L2.St} {ds : List D} {vs : List L2.V}, bors as = [] → muAt as = none → RX B V σ as ds vs → RepL B V ds vs
  | .nil, _, _, _, _, _, _, _, h => by obtain ⟨rfl, rfl⟩ := h; exact RepL.nil.mpr rfl
  | .ex _ r, _, _, _, _, _, h1, h2, h => by
    obtain ⟨d, ds, v, vs, rfl, rfl, k1, k2⟩ := h
    exact RepL.cons k1 (RX_full (as := r) h1 h2 k2)
  | .bo _ _, _, _, _, _, _, h1, _, _ => by cases h1
  | .mu _ _, _, _, _, _, _, _, h2, _ => by cases h2
theorem ee_tup {es : List Expr} {x1} (h : EA G cf lf S es as) (hb : bors as = []) (hm : muAt as = none) : EE G cf lf S (.Tuple es x1 pos) (.tup as) :=
  fun fr X c => pe_imp (pe_tup (h fr X c)) fun σ H Q ⟨ρ, ok, h⟩ => by
    rw [evalE] at h
    refine tX_fold ok ?_
    cases hx : evalX cf lf as ρ with
    | bad => rw [hx] at h; exact h.elim
    | exc k => rw [hx] at h; exact h
    | ok ds ρ1 =>
      rw [hx] at h
      simp only [Out.bind] at h
      intro vs H1 s1 rx
      split at h
      · rename_i hl
        have r := RX_full hb hm rx
        exact ⟨by rw [line_is, r.length]; exact hl, fun p n => h _ _ (s1.trans (s1.ok.laid n)) (mk_tup s1.ok n r)⟩
      · exact h.elim
theorem ef_lst {es : List Expr} (h : EA G cf lf S es as) (hb : bors as = []) (hm : muAt as = none) : EF G cf lf S (.List es pos) (.lst as) :=
  fun fr X c => pe_imp (pe_lst (h fr X c)) fun σ H Q ⟨ρ, ok, h⟩ => by
    rw [evalE] at h
    refine tX_fold ok ?_
    cases hx : evalX cf lf as ρ with
    | bad => rw [hx] at h; exact h.elim
    | exc k => rw [hx] at h; exact h
    | ok ds ρ1 =>
      rw [hx] at h
      simp only [Out.bind] at h
      intro vs H1 s1 rx
      split at h
      · rename_i hl
        have r := RX_full hb hm rx
        exact ⟨by rw [line_is, r.length]; exact hl, fun p n => h _ _ _ s1 n r⟩
      · exact h.elim
/-- a new list as a value: of an expression whose value is a list -/
def Lsts (cf : FnI) (lf : Nat → Env → Out D) (c : C) : Prop := ∀ ρ d ρ', evalE cf lf c ρ = .ok d ρ' → ∃ l, d = .lst l
theorem ef_ee {c : C} (h : EF G cf lf S e c) (hc : Lsts cf lf c) : EE G cf lf S e c := fun fr X cx => pe_imp (h fr X cx) fun σ H Q ⟨ρ, ok, h⟩ => by
  refine ⟨ρ, ok, ?_⟩
  cases ho : evalE cf lf c ρ with
  | bad => rw [ho] at h; exact h
  | exc k => rw [ho] at h; exact h
  | ok d ρ1 =>
    obtain ⟨l, rfl⟩ := hc ρ d ρ1 ho
    rw [ho] at h
    exact fun a xs H' s n r => h _ _ (s.trans (s.ok.laid n)) (mk_lst s.ok n r)
theorem lsts_lst : Lsts cf lf (.lst as) := fun ρ d ρ' h => by
  rw [evalE] at h
  cases hx : evalX cf lf as ρ with
  | bad => rw [hx] at h; cases h
  | exc k => rw [hx] at h; cases h
  | ok ds ρ1 =>
    rw [hx] at h
    simp only [Out.bind] at h
    split at h
    · cases h; exact ⟨_, rfl⟩
    · cases h
theorem ee_lst {es : List Expr} (h : EA G cf lf S es as) (hb : bors as = []) (hm : muAt as = none) : EE G cf lf S (.List es pos) (.lst as) := ef_ee (ef_lst h hb hm) lsts_lst
/-! ### and, or, if -/
section
variable {c1 c2 c3 : C}
theorem ee_and {rest : List Expr} (ha : EE G cf lf S a c1) (hb : EE G cf lf S (.BoolOp .And (b :: rest) pos) c2) : EE G cf lf S (.BoolOp .And (a :: b :: rest) pos) (.and c1 c2) :=
  fun fr X c => pe_imp (pe_and (ha fr X c) (hb fr X c)) fun σ H Q ⟨ρ, ok, h⟩ => by
    rw [evalE] at h
    refine ⟨ρ, ok, ?_⟩
    cases ho : evalE cf lf c1 ρ with
    | bad => rw [ho] at h; exact h
    | exc k => rw [ho] at h; exact h
    | ok d ρ1 =>
      rw [ho] at h
      simp only [Out.bind] at h
      intro v H1 s1 r1
      split at h
      · simp only [Rep] at r1
        refine ⟨true, r1, ?_⟩
        rw [if_pos rfl]
        refine ⟨ρ1, s1.ok, ?_⟩
        cases h2 : evalE cf lf c2 ρ1 with
        | bad => rw [h2] at h; exact h
        | exc k => rw [h2] at h; exact h
        | ok d ρ2 => rw [h2] at h; exact fun v H2 s2 r2 => h v H2 (s1.trans s2) r2
      · simp only [Rep] at r1
        refine ⟨false, r1, ?_⟩
        rw [if_neg (fun z => by cases z)]
        exact h _ H1 s1 rep_bl
      · exact h.elim
theorem ee_or {rest : List Expr} (ha : EE G cf lf S a c1) (hb : EE G cf lf S (.BoolOp .Or (b :: rest) pos) c2) : EE G cf lf S (.BoolOp .Or (a :: b :: rest) pos) (.or c1 c2) :=
  fun fr X c => pe_imp (pe_or (ha fr X c) (hb fr X c)) fun σ H Q ⟨ρ, ok, h⟩ => by
    rw [evalE] at h
    refine ⟨ρ, ok, ?_⟩
    cases ho : evalE cf lf c1 ρ with
    | bad => rw [ho] at h; exact h
    | exc k => rw [ho] at h; exact h
    | ok d ρ1 =>
      rw [ho] at h
      simp only [Out.bind] at h
      intro v H1 s1 r1
      split at h
      · simp only [Rep] at r1
        refine ⟨true, r1, ?_⟩
        rw [if_pos rfl]
        exact h _ H1 s1 rep_bl
      · simp only [Rep] at r1
        refine ⟨false, r1, ?_⟩
        rw [if_neg (fun z => by cases z)]
        refine ⟨ρ1, s1.ok, ?_⟩
        cases h2 : evalE cf lf c2 ρ1 with
        | bad => rw [h2] at h; exact h
        | exc k => rw [h2] at h; exact h
        | ok d ρ2 => rw [h2] at h; exact fun v H2 s2 r2 => h v H2 (s1.trans s2) r2
      · exact h.elim
theorem ee_one {op} (h : EE G cf lf S a c1) : EE G cf lf S (.BoolOp op [a] pos) c1 := fun fr X c => pe_one (h fr X c)
theorem ee_if {t : Expr} (ht : ET G cf lf S t c1) (ha : EE G cf lf S a c2) (hb : EE G cf lf S b c3) : EE G cf lf S (.IfExp t a b pos) (.ite c1 c2 c3) :=
  fun fr X c => pe_imp (pe_ifExp (ht fr X c) (ha fr X c) (hb fr X c)) fun σ H Q ⟨ρ, ok, h⟩ => by
    rw [evalE] at h
    refine ⟨ρ, ok, ?_⟩
    cases ho : evalE cf lf c1 ρ with
    | bad => rw [ho] at h; exact h
    | exc k => rw [ho] at h; exact h
    | ok d ρ1 =>
      rw [ho] at h
      simp only [Out.bind] at h
      split at h
      · rename_i ht
        refine ⟨true, ht, fun H1 s1 => ?_⟩
        show tE G fr (evalE cf lf c2) σ H1 Q
        refine ⟨ρ1, s1.ok, ?_⟩
        cases h2 : evalE cf lf c2 ρ1 with
        | bad => rw [h2] at h; exact h
        | exc k => rw [h2] at h; exact h
        | ok d ρ2 => rw [h2] at h; exact fun v H2 s2 r2 => h v H2 (s1.trans s2) r2
      · rename_i ht
        refine ⟨false, ht, fun H1 s1 => ?_⟩
        show tE G fr (evalE cf lf c3) σ H1 Q
        refine ⟨ρ1, s1.ok, ?_⟩
        cases h2 : evalE cf lf c3 ρ1 with
        | bad => rw [h2] at h; exact h
        | exc k => rw [h2] at h; exact h
        | ok d ρ2 => rw [h2] at h; exact fun v H2 s2 r2 => h v H2 (s1.trans s2) r2
      · exact h.elim
/-! ### tests -/
theorem tru_rep {B : RB} {H H' : Hp} {d : D} {v : V} {k : Bool} (hk : truD d = some k) (r : TRep B H H' d v) (e : ExtN H H') : TruV B.K v H' k := by
  cases d <;> simp only [truD] at hk <;> try cases hk
  · rw [trep_non r]; rfl
  · rw [trep_bl r]; rfl
  · rw [trep_int r]; rfl
  · obtain ⟨a, xs, rfl, h1, h2⟩ := trep_tup e r
    refine .inr (.inl ⟨xs, h1, ?_⟩)
    have := h2.length
    rename_i l
    cases l <;> cases xs <;> simp at this <;> rfl
  · obtain ⟨a, xs, rfl, h1, h2⟩ := r
    refine .inl ⟨xs, .of h1, ?_⟩
    have := h2.length
    rename_i l
    cases l <;> cases xs <;> simp at this <;> rfl
theorem et_any (h : EE G cf lf S a c1) (he : ∀ (env : PySem.Env) whole, isTrue a env whole = (do let v ← whole; standAt a.pos; holding [v] (truthy v))) : ET G cf lf S a c1 :=
  fun fr X c => pt_imp (pt_truth (h fr X c) (he _)) fun σ H Q ⟨ρ, ok, h⟩ => by
    refine ⟨ρ, ok, ?_⟩
    cases ho : evalE cf lf c1 ρ with
    | bad => rw [ho] at h; exact h
    | exc k => rw [ho] at h; exact h
    | ok d ρ1 =>
      rw [ho] at h
      obtain ⟨k, hk, h⟩ := h
      intro v H1 s1 r1
      refine ⟨k, ?_, h H1 s1⟩
      rw [c.K, ← G.hK]
      exact tru_rep hk (r1.top vis_ext) vis_ext
/-- a slot's own list as a test -/
theorem ew_pt (h : EW G cf lf S a c1) : ET G cf lf S a c1 := fun fr X c => (h fr X c).pt
theorem ew_and1 (ha : ET G cf lf S a c1) : EW G cf lf S (.BoolOp .And [a] pos) c1 := fun fr X c => pw_and1 (ha fr X c)
theorem ew_or1 (ha : ET G cf lf S a c1) : EW G cf lf S (.BoolOp .Or [a] pos) c1 := fun fr X c => pw_or1 (ha fr X c)
theorem tT_step {fr : Fr} {σ : L2.St} {ρ ρ1 : Env} {H H1 : Hp} {Q : Bool → Hp → Prop} (s1 : Step G fr ρ σ H ρ1 σ H1) (h : RTok G fr ρ σ H (evalE cf lf c2 ρ1) Q) : tT G fr (evalE cf lf c2) σ H1 Q := by
  refine ⟨ρ1, s1.ok, ?_⟩
  cases h2 : evalE cf lf c2 ρ1 with
  | bad => rw [h2] at h; exact h
  | exc k => rw [h2] at h; exact h
  | ok d ρ2 =>
    rw [h2] at h
    obtain ⟨k, hk, h⟩ := h
    exact ⟨k, hk, fun H2 s2 => h H2 (s1.trans s2)⟩
theorem ew_and {rest : List Expr} (ha : ET G cf lf S a c1) (hb : EW G cf lf S (.BoolOp .And (b :: rest) pos) c2) : EW G cf lf S (.BoolOp .And (a :: b :: rest) pos) (.and c1 c2) :=
  fun fr X c => pw_imp (pw_and (ha fr X c) (hb fr X c)) fun σ H Q ⟨ρ, ok, h⟩ => by
    rw [evalE] at h
    refine ⟨ρ, ok, ?_⟩
    cases ho : evalE cf lf c1 ρ with
    | bad => rw [ho] at h; exact h
    | exc k => rw [ho] at h; exact h
    | ok d ρ1 =>
      rw [ho] at h
      simp only [Out.bind] at h
      split at h
      · exact ⟨true, rfl, fun H1 s1 => show tT G fr (evalE cf lf c2) σ H1 Q from tT_step s1 h⟩
      · obtain ⟨k, hk, h⟩ := h
        cases hk
        exact ⟨false, rfl, fun H1 s1 => show Q false H1 from h H1 s1⟩
      · exact h.elim
theorem ew_or {rest : List Expr} (ha : ET G cf lf S a c1) (hb : EW G cf lf S (.BoolOp .Or (b :: rest) pos) c2) : EW G cf lf S (.BoolOp .Or (a :: b :: rest) pos) (.or c1 c2) :=
  fun fr X c => pw_imp (pw_or (ha fr X c) (hb fr X c)) fun σ H Q ⟨ρ, ok, h⟩ => by
    rw [evalE] at h
    refine ⟨ρ, ok, ?_⟩
    cases ho : evalE cf lf c1 ρ with
    | bad => rw [ho] at h; exact h
    | exc k => rw [ho] at h; exact h
    | ok d ρ1 =>
      rw [ho] at h
      simp only [Out.bind] at h
      split at h
      · obtain ⟨k, hk, h⟩ := h
        cases hk
        exact ⟨true, rfl, fun H1 s1 => show Q true H1 from h H1 s1⟩
      · exact ⟨false, rfl, fun H1 s1 => show tT G fr (evalE cf lf c2) σ H1 Q from tT_step s1 h⟩
      · exact h.elim
theorem et_not (ha : ET G cf lf S a c1) : ET G cf lf S (.UnaryOp .Not a pos) (.prim .nt (.ex c1 .nil)) :=
  fun fr X c => pt_imp (pt_not (ha fr X c)) fun σ H Q ⟨ρ, ok, h⟩ => by
    rw [evalE, evalX] at h
    refine ⟨ρ, ok, ?_⟩
    cases ho : evalE cf lf c1 ρ with
    | bad => rw [ho] at h; exact h
    | exc k => rw [ho] at h; exact h
    | ok d ρ1 =>
      rw [ho] at h
      simp only [Out.bind, evalX, fill, Option.map, Option.bind] at h
      cases d <;> try exact h.elim
      obtain ⟨k, hk, h⟩ := h
      cases hk
      exact ⟨_, rfl, h⟩
end
end
section
variable {G : Gb} {cf : FnI} {lf : Nat → Env → Out D} {S : SC} {pos : Pos} {a b e : Expr} {as : AL}
theorem et_of {c1 : C} (h : ∀ fr X, CxS G S fr X → ∃ t : TE, PT X e (tTest t) ∧ ∀ σ H Q, tE G fr (evalE cf lf c1) σ H Q → t σ H Q) (hb : ∀ ρ d ρ', evalE cf lf c1 ρ = .ok d ρ' → ∃ b, d = .bl b) : ET G cf lf S e c1 :=
  fun fr X c => by
    obtain ⟨t, h1, h2⟩ := h fr X c
    refine pt_imp h1 fun σ H Q ⟨ρ, ok, h⟩ => h2 σ H _ ⟨ρ, ok, ?_⟩
    cases ho : evalE cf lf c1 ρ with
    | bad => rw [ho] at h; exact h
    | exc k => rw [ho] at h; exact h
    | ok d ρ1 =>
      obtain ⟨b, rfl⟩ := hb ρ d ρ1 ho
      rw [ho] at h
      obtain ⟨k, hk, h⟩ := h
      cases hk
      intro v H1 s r
      simp only [Rep] at r
      exact ⟨b, r, h H1 s⟩
/-- a prim that tells yes or no -/
def YesNo (p : Prim) : Prop := ∀ ds d, primR p ds = some d → ∃ b, d = .bl b
theorem yn_prim {p : Prim} (h : YesNo p) : ∀ ρ d ρ', evalE cf lf (.prim p as) ρ = .ok d ρ' → ∃ b, d = .bl b := fun ρ d ρ' e => by
  rw [evalE] at e
  cases hx : evalX cf lf as ρ with
  | bad => rw [hx] at e; cases e
  | exc k => rw [hx] at e; cases e
  | ok ds ρ1 =>
    rw [hx] at e
    simp only [Out.bind, lift] at e
    split at e
    · rename_i z
      cases e
      obtain ⟨f, _, z⟩ := Option.bind_eq_some_iff.mp z
      exact h _ _ z
    · cases e
theorem et_cmp {op : CmpOp} {p : Prim} {r : R2} (hr : ∀ fr X, CxS G S fr X → OpR X (compareOp op) r) (hp : PrimOk G p (Two r)) (hy : YesNo p) (ha : EO G cf lf S a as) (hb : EO G cf lf S b as.tl) (hl : as.len = 2) (hm : behindInMarks op b = false) : ET G cf lf S (.Compare a [op] [b] pos) (.prim p as) :=
  et_of (fun fr X c => ⟨_, pt_cmpR (hr fr X c) (ha fr X c) (hb fr X c) hm, fun σ H Q h => prim2 hp hl h⟩) (yn_prim hy)
theorem yn_lt : YesNo .lt := fun ds d h => by
  change ltR ds = some d at h
  unfold ltR at h
  split at h
  · obtain ⟨b, _, rfl⟩ := Option.map_eq_some_iff.mp h
    exact ⟨b, rfl⟩
  · cases h
theorem et_lt (ha : EO G cf lf S a as) (hb : EO G cf lf S b as.tl) (hl : as.len = 2) : ET G cf lf S (.Compare a [.Lt] [b] pos) (.prim .lt as) := et_cmp (fun _ _ c => or_lt c) pk_lt yn_lt ha hb hl (nomark b)
theorem yn_le : YesNo .le := fun ds d h => by
  change leR ds = some d at h
  unfold leR at h
  split at h
  · cases h; exact ⟨_, rfl⟩
  · cases h
theorem et_le (ha : EO G cf lf S a as) (hb : EO G cf lf S b as.tl) (hl : as.len = 2) : ET G cf lf S (.Compare a [.LtE] [b] pos) (.prim .le as) := et_cmp (fun _ _ c => op_le) pk_le yn_le ha hb hl (nomark b)
theorem yn_gt : YesNo .gt := fun ds d h => by
  change gtR ds = some d at h
  unfold gtR at h
  split at h
  · cases h; exact ⟨_, rfl⟩
  · cases h
theorem et_gt (ha : EO G cf lf S a as) (hb : EO G cf lf S b as.tl) (hl : as.len = 2) : ET G cf lf S (.Compare a [.Gt] [b] pos) (.prim .gt as) := et_cmp (fun _ _ c => op_gt) pk_gt yn_gt ha hb hl (nomark b)
theorem yn_ge : YesNo .ge := fun ds d h => by
  change geR ds = some d at h
  unfold geR at h
  split at h
  · cases h; exact ⟨_, rfl⟩
  · cases h
theorem et_ge (ha : EO G cf lf S a as) (hb : EO G cf lf S b as.tl) (hl : as.len = 2) : ET G cf lf S (.Compare a [.GtE] [b] pos) (.prim .ge as) := et_cmp (fun _ _ c => op_ge) pk_ge yn_ge ha hb hl (nomark b)
theorem yn_eq : YesNo .eq := fun ds d h => by
  change eqR ds = some d at h
  unfold eqR at h
  split at h
  · split at h
    · cases h; exact ⟨_, rfl⟩
    · cases h
  · cases h
theorem et_eq (ha : EO G cf lf S a as) (hb : EO G cf lf S b as.tl) (hl : as.len = 2) : ET G cf lf S (.Compare a [.Eq] [b] pos) (.prim .eq as) := et_cmp (fun _ _ c => or_eq c) pk_eq yn_eq ha hb hl (nomark b)
theorem yn_ne : YesNo .ne := fun ds d h => by
  change neR ds = some d at h
  unfold neR at h
  split at h
  · split at h
    · cases h; exact ⟨_, rfl⟩
    · cases h
  · cases h
theorem et_ne (ha : EO G cf lf S a as) (hb : EO G cf lf S b as.tl) (hl : as.len = 2) : ET G cf lf S (.Compare a [.NotEq] [b] pos) (.prim .ne as) := et_cmp (fun _ _ c => or_ne c) pk_ne yn_ne ha hb hl (nomark b)
theorem yn_isIn : YesNo .isIn := fun ds d h => by
  change isInR ds = some d at h
  unfold isInR at h
  split at h
  · split at h
    · cases h; exact ⟨_, rfl⟩
    · cases h
  · split at h
    · cases h; exact ⟨_, rfl⟩
    · cases h
  · cases h
theorem et_in (ha : EO G cf lf S a as) (hb : EO G cf lf S b as.tl) (hl : as.len = 2) (hm : behindInMarks .In b = false) : ET G cf lf S (.Compare a [.In] [b] pos) (.prim .isIn as) := et_cmp (fun _ _ c => or_in c) pk_isIn yn_isIn ha hb hl hm
theorem yn_notIn : YesNo .notIn := fun ds d h => by
  change notInR ds = some d at h
  unfold notInR at h
  split at h
  · split at h
    · cases h; exact ⟨_, rfl⟩
    · cases h
  · split at h
    · cases h; exact ⟨_, rfl⟩
    · cases h
  · cases h
theorem et_notIn (ha : EO G cf lf S a as) (hb : EO G cf lf S b as.tl) (hl : as.len = 2) (hm : behindInMarks .NotIn b = false) : ET G cf lf S (.Compare a [.NotIn] [b] pos) (.prim .notIn as) := et_cmp (fun _ _ c => or_notIn c) pk_notIn yn_notIn ha hb hl hm
theorem yn_isN : YesNo .isN := fun ds d h => by
  change isNR ds = some d at h
  unfold isNR at h
  split at h
  · cases h; exact ⟨_, rfl⟩
  · cases h; exact ⟨_, rfl⟩
  · cases h
theorem et_isN {j} {p2 : Pos} (ha : EO G cf lf S a as) (hl : as.len = 1) : ET G cf lf S (.Compare a [.Is] [.Constant .none j p2] pos) (.prim .isN as) :=
  et_of (fun fr X c => ⟨_, pt_cmpR op_isN (ha fr X c) pe_non (nomark _), fun σ H Q h => by
    have := prim1 pk_isN hl h
    refine tOp_one ?_
    have e : (fun v H1 => (V.non = .non ∧ Q (V.bl (decide (v = .non))) H1)) = fun (v : V) (H1 : Hp) => Q (V.bl (decide (v = .non))) H1 := by
      funext v H1
      exact propext ⟨fun z => z.2, fun z => ⟨rfl, z⟩⟩
    rw [e]
    exact this⟩) (yn_prim yn_isN)
theorem yn_notN : YesNo .notN := fun ds d h => by
  change notNR ds = some d at h
  unfold notNR at h
  split at h
  · cases h; exact ⟨_, rfl⟩
  · cases h; exact ⟨_, rfl⟩
  · cases h
theorem et_notN {j} {p2 : Pos} (ha : EO G cf lf S a as) (hl : as.len = 1) : ET G cf lf S (.Compare a [.IsNot] [.Constant .none j p2] pos) (.prim .notN as) :=
  et_of (fun fr X c => ⟨_, pt_cmpR op_notN (ha fr X c) pe_non (nomark _), fun σ H Q h => by
    have := prim1 pk_notN hl h
    refine tOp_one ?_
    have e : (fun v H1 => (V.non = .non ∧ Q (V.bl (!decide (v = .non))) H1)) = fun (v : V) (H1 : Hp) => Q (V.bl (!decide (v = .non))) H1 := by
      funext v H1
      exact propext ⟨fun z => z.2, fun z => ⟨rfl, z⟩⟩
    rw [e]
    exact this⟩) (yn_prim yn_notN)
/-! ### a chain of two comparisons -/
section
variable {c1 c2 c3 : C} {d e : Expr}
theorem chn_t {p q : Prim} {r r' : R2} (hp : PrimOk G p (Two r)) (hq : PrimOk G q (Two r')) {fr : Fr} {σ : L2.St} {H : Hp} {Q : VK} (h : tE G fr (evalE cf lf (.chn p q c1 c2 c3)) σ H Q) :
    tChain r r' (tE G fr (evalE cf lf c1)) (tE G fr (evalE cf lf c2)) (tE G fr (evalE cf lf c3)) σ H Q := by
  obtain ⟨ρ, ok, h⟩ := h
  rw [evalE] at h
  refine ⟨ρ, ok, ?_⟩
  cases h1 : evalE cf lf c1 ρ with
  | bad => rw [h1] at h; exact h
  | exc k => rw [h1] at h; exact h
  | ok x ρ1 =>
    rw [h1] at h
    simp only [Out.bind] at h
    refine fun v H1 s1 r1 => ⟨ρ1, s1.ok, ?_⟩
    cases h2 : evalE cf lf c2 ρ1 with
    | bad => rw [h2] at h; exact h
    | exc k => rw [h2] at h; exact h
    | ok y ρ2 =>
      rw [h2] at h
      simp only at h
      intro w H2 s2 r2
      have rx := r1.mono s2.ext
      split at h
      · rename_i e1
        obtain ⟨x', y', e, k⟩ := hp fr ρ2 σ H2 [x, y] [v, w] (.bl true) (fun z H3 => ∃ k, z = .bl k ∧ (if k = true then tE G fr (evalE cf lf c3) σ H3 fun w' H4 => r' w w' H4 Q else Q (.bl false) H3)) s2.ok ⟨v, [w], rfl, rx.top vis_ext, w, [], rfl, r2.top vis_ext, rfl⟩ e1 fun z H3 s3 r3 => by
          simp only [Rep] at r3
          refine ⟨true, r3, ?_⟩
          rw [if_pos rfl]
          refine ⟨ρ2, s3.ok, ?_⟩
          cases h3 : evalE cf lf c3 ρ2 with
          | bad => rw [h3] at h; exact h
          | exc k => rw [h3] at h; exact h
          | ok t ρ3 =>
            rw [h3] at h
            simp only [lift] at h
            intro u H4 s4 r4
            have ry := (r2.mono s3.ext).mono s4.ext
            split at h
            · rename_i m e3
              obtain ⟨x2, y2, e, k⟩ := hq fr ρ3 σ H4 [y, t] [w, u] m Q s4.ok ⟨w, [u], rfl, ry.top vis_ext, u, [], rfl, r4.top vis_ext, rfl⟩ e3 fun z H5 s5 r5 => h z H5 (s1.trans (s2.trans (s3.trans (s4.trans s5)))) r5
              cases e
              exact k
            · exact h.elim
        cases e
        exact k
      · rename_i e1
        obtain ⟨x', y', e, k⟩ := hp fr ρ2 σ H2 [x, y] [v, w] (.bl false) (fun z H3 => ∃ k, z = .bl k ∧ (if k = true then tE G fr (evalE cf lf c3) σ H3 fun w' H4 => r' w w' H4 Q else Q (.bl false) H3)) s2.ok ⟨v, [w], rfl, rx.top vis_ext, w, [], rfl, r2.top vis_ext, rfl⟩ e1 fun z H3 s3 r3 => by
          simp only [Rep] at r3
          refine ⟨false, r3, ?_⟩
          rw [if_neg (fun z => by cases z)]
          exact h _ _ (s1.trans (s2.trans s3)) rep_bl
        cases e
        exact k
      · exact h.elim
theorem ee_chn {o1 o2 : CmpOp} {p q : Prim} {r r' : R2} (hr : ∀ fr X, CxS G S fr X → OpR X (compareOp o1) r) (hr' : ∀ fr X, CxS G S fr X → OpR X (compareOp o2) r') (hp : PrimOk G p (Two r)) (hq : PrimOk G q (Two r')) (ha : EE G cf lf S a c1) (hb : EE G cf lf S b c2) (hd : EE G cf lf S d c3)
    (hm : lastMarks [o1, o2] [b, d] = false := by with_unfolding_all rfl) : EE G cf lf S (.Compare a [o1, o2] [b, d] pos) (.chn p q c1 c2 c3) :=
  fun fr X c => pe_imp (pe_chain (hr fr X c) (hr' fr X c) (ha fr X c) (hb fr X c) (hd fr X c) hm) fun σ H Q h => chn_t hp hq h
theorem et_chn {o1 o2 : CmpOp} {p q : Prim} {r r' : R2} (hr : ∀ fr X, CxS G S fr X → OpR X (compareOp o1) r) (hr' : ∀ fr X, CxS G S fr X → OpR X (compareOp o2) r') (hp : PrimOk G p (Two r)) (hq : PrimOk G q (Two r')) (hy : YesNo q) (ha : EE G cf lf S a c1) (hb : EE G cf lf S b c2) (hd : EE G cf lf S d c3)
    (hm : lastMarks [o1, o2] [b, d] = false := by with_unfolding_all rfl) : ET G cf lf S (.Compare a [o1, o2] [b, d] pos) (.chn p q c1 c2 c3) :=
  et_of (fun fr X c => ⟨_, pt_chain (hr fr X c) (hr' fr X c) (ha fr X c) (hb fr X c) (hd fr X c) hm, fun σ H Q h => chn_t hp hq h⟩) fun ρ d ρ' h => by
    rw [evalE] at h
    cases h1 : evalE cf lf c1 ρ with
    | bad => rw [h1] at h; cases h
    | exc k => rw [h1] at h; cases h
    | ok x ρ1 =>
      rw [h1] at h
      simp only [Out.bind] at h
      cases h2 : evalE cf lf c2 ρ1 with
      | bad => rw [h2] at h; cases h
      | exc k => rw [h2] at h; cases h
      | ok y ρ2 =>
        rw [h2] at h
        simp only at h
        split at h
        · cases h3 : evalE cf lf c3 ρ2 with
          | bad => rw [h3] at h; cases h
          | exc k => rw [h3] at h; cases h
          | ok t ρ3 =>
            rw [h3] at h
            simp only [lift] at h
            split at h
            · rename_i m e3
              cases h
              exact hy _ _ e3
            · cases h
        · cases h
          exact ⟨_, rfl⟩
        · cases h
end
end
end MZ
end
section
set_option maxRecDepth 100000
set_option maxHeartbeats 2000000
namespace MZ
open PySem PySem.Spec PyProof.Rows L2 LamX MX
mutual
/-- the slots that a target sets -/
def pslots : Pt → List Nat
  | .nm i => [i]
  | .tp l => pslotsL l
def pslotsL : PtL → List Nat
  | .nil => []
  | .cons p r => pslots p ++ pslotsL r
end
section
variable (G : Gb) (fr : Fr)
/-- what is asked behind a statement -/
def RSok (ρ : Env) (σ : L2.St) (H : Hp) (r : Rs) (D : Ends) : Prop := match r with
  | .next ρ' => ∀ σ' H', Step G fr ρ σ H ρ' σ' H' → D.nx σ' H'
  | .ret d ρ' => ∀ v σ' H', Step G fr ρ σ H ρ' σ' H' → Rep G.B (vis fr ρ' σ' H') d v → D.rt v H'
  | .brk ρ' => ∀ σ' H', Step G fr ρ σ H ρ' σ' H' → D.bk σ' H'
  | .cont ρ' => ∀ σ' H', Step G fr ρ σ H ρ' σ' H' → D.ct σ' H'
  | .exc k => fr.ek k
  | .bad => False
def tS (f : Env → Rs) : TS := fun D σ H => ∃ ρ, OkF G fr ρ σ H ∧ RSok G fr ρ σ H (f ρ) D
/-- what is asked behind a target that takes the value d -/
def RGok (ρ : Env) (σ : L2.St) (H : Hp) (sl : List Nat) (r : Option Env) (Q : L2.St → Hp → Prop) : Prop := match r with
  | some ρ' => ∀ σ', Step G fr ρ σ H ρ' σ' H → (∀ j, j ∉ sl → σ'[j]? = σ[j]?) → Q σ' H
  | none => False
def tG (p : Pt) : TG := fun v σ H Q => ∃ ρ d, OkF G fr ρ σ H ∧ Rep G.B (vis fr ρ σ H) d v ∧ RGok G fr ρ σ H (pslots p) (bindP p d ρ) Q
def tGs (p : PtL) : TGs := fun vs σ H Q => ∃ ρ ds, OkF G fr ρ σ H ∧ RepL G.B (vis fr ρ σ H) ds vs ∧ RGok G fr ρ σ H (pslotsL p) (bindPL p ds ρ) Q
end
section
variable (G : Gb) (cf : FnI) (lf : Nat → Env → Out D)
def ES (S : SC) (st : Stmt) (s : MZ.S) : Prop := ∀ fr X, CxS G S fr X → PS X st (tS G fr (evalS cf lf s))
def ESs (S : SC) (st : List Stmt) (s : SL) : Prop := ∀ fr X, CxS G S fr X → PSs X st (tS G fr (evalSL cf lf s))
def EG (S : SC) (tg : Expr) (p : Pt) : Prop := ∀ fr X, CxS G S fr X → PG X tg (tG G fr p)
def EGs (S : SC) (tg : List Expr) (p : PtL) : Prop := ∀ fr X, CxS G S fr X → PGs X tg (tGs G fr p)
end
theorem ps_imp {X : Cx} {e : Stmt} {t t' : TS} (h : PS X e t) (k : ∀ D σ H, t' D σ H → t D σ H) : PS X e t' := ⟨fun pins s σ H D I q => h.run pins s σ H D I (k D σ H q)⟩
theorem pss_imp {X : Cx} {e : List Stmt} {t t' : TS} (h : PSs X e t) (k : ∀ D σ H, t' D σ H → t D σ H) : PSs X e t' := ⟨fun pins s σ H D I q => h.run pins s σ H D I (k D σ H q)⟩
theorem pg_imp {X : Cx} {e : Expr} {t t' : TG} (h : PG X e t) (k : ∀ v σ H Q, t' v σ H Q → t v σ H Q) : PG X e t' := ⟨fun pins s σ H v u Q I r q => h.run pins s σ H v u Q I r (k v σ H Q q)⟩
theorem pgs_imp {X : Cx} {e : List Expr} {t t' : TGs} (h : PGs X e t) (k : ∀ v σ H Q, t' v σ H Q → t v σ H Q) : PGs X e t' := ⟨fun pins s σ H v u Q I r q => h.run pins s σ H v u Q I r (k v σ H Q q)⟩
section
variable {G : Gb} {cf : FnI} {lf : Nat → Env → Out D} {S : SC} {pos : Pos} {a b e : Expr} {as : AL} {fr : Fr} {ρ ρ1 ρ2 : Env} {σ σ1 : L2.St} {H H1 : Hp}
theorem RSok.after {r : Rs} {D : Ends} (s : Step G fr ρ σ H ρ1 σ1 H1) (h : RSok G fr ρ σ H r D) : RSok G fr ρ1 σ1 H1 r D := by
  cases r with
  | next ρ' => exact fun σ' H' s' => h σ' H' (s.trans s')
  | ret d ρ' => exact fun v σ' H' s' r => h v σ' H' (s.trans s') r
  | brk ρ' => exact fun σ' H' s' => h σ' H' (s.trans s')
  | cont ρ' => exact fun σ' H' s' => h σ' H' (s.trans s')
  | exc k => exact h
  | bad => exact h
theorem ROk.after {r : Out D} {Q : VK} (s : Step G fr ρ σ H ρ1 σ H1) (h : ROk G fr ρ σ H r Q) : ROk G fr ρ1 σ H1 r Q := by
  cases r with
  | ok d ρ' => exact fun v H' s' r => h v H' (s.trans s') r
  | exc k => exact h
  | bad => exact h
/-! ### what takes a value -/
/-- the name may be set here -/
def Sets (S : SC) (x : Str) : Prop := Loc S.sc x ∧ (S.kd = 0 ∨ S.sc.names.lookup x = some .local)
theorem CxS.set {X : Cx} (c : CxS G S fr X) {x : Str} (h : Sets S x) : Loc X.env.scope x ∧ (X.fn x = true ∨ X.env.scope.names.lookup x = some .local) := ⟨c.loc h.1, h.2.imp (fun z => c.fn z x) fun z => by rw [c.sc]; exact z⟩
theorem set_pu (ok : OkF G fr ρ σ H) {i : Nat} {d : D} {v : V} (r : Rep G.B (vis fr ρ σ H) d v) (h : setS ρ i (.pu d) = some ρ1) : Step G fr ρ σ H ρ1 (σ.set i (some v)) H := by
  have main : ∀ u, ρ[i]? = some u → Free u → ρ1 = ρ.set i (.pu d) → Step G fr ρ σ H ρ1 (σ.set i (some v)) H := fun u e f z => by
    subst z
    exact put_pu ok e f (r.mono (vis_le (fun a o => let ⟨j, _, q⟩ := own_set rfl o; ⟨j, q⟩) (.refl _)))
  unfold setS at h
  split at h
  · rename_i e; cases h; exact main _ e free_no rfl
  · rename_i e; cases h; exact main _ e free_pu rfl
  · rename_i e; cases h; exact main _ e free_ow rfl
  · cases h
theorem set_ow (ok : OkF G fr ρ σ H) {i : Nat} {l : List D} {xs : List V} {a : Addr} (n : H a = none) (r : RepL G.B (vis fr ρ σ H) l xs) (h : setS ρ i (.ow (.lst l)) = some ρ1) : Step G fr ρ σ H ρ1 (σ.set i (some (.ref a))) (upd H a (.lst xs)) := by
  unfold setS at h
  split at h
  · rename_i e; cases h; exact put_own ok e free_no n r
  · rename_i e; cases h; exact put_own ok e free_pu n r
  · rename_i e; cases h; exact put_own ok e free_ow n r
  · cases h
theorem eg_nm {i : Nat} {x : Str} (hN : S.N[i]? = some x) (hx : Sets S x) : EG G S (.Name x pos) (.nm i) := fun fr X c =>
  pg_imp (pg_name (by rw [c.N]; exact c.nd) (c.nN hN) (c.set hx).1 (c.set hx).2) fun v σ H Q ⟨ρ, d, ok, r, h⟩ => by
    rw [bindP] at h
    cases hs : setS ρ i (.pu d) with
    | none => rw [hs] at h; exact h.elim
    | some ρ1 => rw [hs] at h; exact h _ (set_pu ok r hs) fun j m => by rw [set_ne (fun z => m (by rw [pslots, z]; exact List.mem_singleton.mpr rfl))]
theorem egs_nil : EGs G S [] .nil := fun fr X c => pgs_imp pgs_nil fun v σ H Q ⟨ρ, ds, ok, r, h⟩ => by
  cases ds with
  | nil => rw [bindPL] at h; exact ⟨RepL.nil.mp r, h σ (.refl ok) fun _ _ => rfl⟩
  | cons d ds => rw [bindPL] at h <;> first | exact h.elim | simp
theorem egs_cons {tg : Expr} {tgs : List Expr} {p : Pt} {q : PtL} (h1 : EG G S tg p) (h2 : EGs G S tgs q) (hs : ∀ env : PySem.Env, (assignEach (tg :: tgs) env).map (·.2) = assign tg env :: (assignEach tgs env).map (·.2)) : EGs G S (tg :: tgs) (.cons p q) := fun fr X c =>
  pgs_imp (pgs_cons (h1 fr X c) (h2 fr X c) (hs _)) fun vs σ H Q ⟨ρ, ds, ok, r, h⟩ => by
    cases ds with
    | nil => rw [bindPL] at h <;> first | exact h.elim | simp
    | cons d ds =>
      rw [bindPL] at h
      obtain ⟨v, t, rfl, r1, r2⟩ := r.uncons
      refine ⟨v, t, rfl, ρ, d, ok, r1, ?_⟩
      cases hb : bindP p d ρ with
      | none => rw [hb] at h; exact h.elim
      | some ρ1 =>
        rw [hb] at h
        refine fun σ1 s1 k1 => ⟨ρ1, ds, s1.ok, r2.mono s1.ext, ?_⟩
        cases hc : bindPL q ds ρ1 with
        | none => simp only [Option.bind, hc] at h; exact h.elim
        | some ρ2 => simp only [Option.bind, hc] at h; exact fun σ2 s2 k2 => h σ2 (s1.trans s2) fun j m => (k2 j fun z => m (by rw [pslotsL]; exact List.mem_append_right _ z)).trans (k1 j fun z => m (by rw [pslotsL]; exact List.mem_append_left _ z))
def PtL.len : PtL → Nat
  | .nil => 0
  | .cons _ r => r.len + 1
theorem bindPL_len : ∀ {p : PtL} {ds : List D} {ρ ρ' : Env}, bindPL p ds ρ = some ρ' → ds.length = p.len
  | .nil, [], _, _, _ => rfl
  | .nil, _ :: _, _, _, h => by rw [bindPL] at h <;> first | cases h | simp
  | .cons _ _, [], _, _, h => by rw [bindPL] at h <;> first | cases h | simp
  | .cons p q, d :: ds, ρ, ρ', h => by
    rw [bindPL] at h
    obtain ⟨ρ1, _, h⟩ := Option.bind_eq_some_iff.mp h
    rw [List.length_cons, bindPL_len h]
    rfl
theorem eg_tp {tgs : List Expr} {k : Nat} {q : PtL} (h : EGs G S tgs q) (hn : ∀ env : PySem.Env, (assignEach tgs env).length = q.len) (hst : ∀ env : PySem.Env, (assignEach tgs env).findIdx? (·.1) = none) : EG G S (.Tuple tgs k pos) (.tp q) := fun fr X c =>
  pg_imp (pg_tup c.calm (h fr X c) (hn _) (hst _)) fun v σ H Q ⟨ρ, d, ok, r, h⟩ => by
    cases d <;> (try (rw [bindP] at h <;> first | exact h.elim | simp; done))
    rename_i ds
    simp only [Rep] at r
    obtain ⟨a, xs, rfl, h1, h2⟩ := r
    rw [bindP] at h
    refine ⟨a, xs, rfl, by rw [c.K, ← G.hK]; exact ext_sqT vis_ext h1, ?_, ρ, ds, ok, h2, by rw [pslots] at h; exact h⟩
    cases hb : bindPL q ds ρ with
    | none => rw [hb] at h; exact h.elim
    | some ρ1 => rw [h2.length, bindPL_len hb]
/-! ### simple statements -/
theorem es_asg {tg : Expr} {p : Pt} {c1 : C} (he : EE G cf lf S e c1) (hg : EG G S tg p) (hs : ∀ env : PySem.Env, env.scope = S.sc → swapsWithSole [tg] e pos.line env = pure false) (hw : ∀ env : PySem.Env, env.scope = S.sc → swappedStores [tg] e env = pure none) (h1 : ∀ env : PySem.Env, (assignEach [tg] env).map (·.2) = [assign tg env]) :
    ES G cf lf S (.Assign [tg] e pos) (.asg p c1) := fun fr X c => ps_imp (ps_asg (he fr X c) (hg fr X c) (hs _ c.sc) (hw _ c.sc) (h1 _)) fun D σ H ⟨ρ, ok, h⟩ => by
  rw [evalS] at h
  refine ⟨ρ, ok, ?_⟩
  cases ho : evalE cf lf c1 ρ with
  | bad => rw [ho] at h; exact h
  | exc k => rw [ho] at h; exact h
  | ok d ρ1 =>
    rw [ho] at h
    simp only [Out.rs] at h
    refine fun v H1 s1 r1 => ⟨ρ1, d, s1.ok, r1, ?_⟩
    cases hb : bindP p d ρ1 with
    | none => rw [hb] at h; exact h.elim
    | some ρ2 => rw [hb] at h; exact fun σ2 s2 _ => h σ2 H1 (s1.trans s2)
theorem es_set {i : Nat} {x : Str} {p1 : Pos} {c1 : C} (hN : S.N[i]? = some x) (hx : Sets S x) (he : EE G cf lf S e c1) (hs : ∀ env : PySem.Env, env.scope = S.sc → swapsWith e (some (.Name x p1)) pos.line env = pure false) :
    ES G cf lf S (.Assign [.Name x p1] e pos) (.asg (.nm i) c1) := fun fr X c => ps_imp (ps_set (by rw [c.N]; exact c.nd) (c.nN hN) (c.set hx).1 (he fr X c) (hs _ c.sc) (c.set hx).2) fun D σ H ⟨ρ, ok, h⟩ => by
  rw [evalS] at h
  refine ⟨ρ, ok, ?_⟩
  cases ho : evalE cf lf c1 ρ with
  | bad => rw [ho] at h; exact h
  | exc k => rw [ho] at h; exact h
  | ok d ρ1 =>
    rw [ho] at h
    simp only [Out.rs] at h
    intro v H1 s1 r1
    rw [bindP] at h
    cases hb : setS ρ1 i (.pu d) with
    | none => rw [hb] at h; exact h.elim
    | some ρ2 => rw [hb] at h; exact h _ H1 (s1.trans (set_pu s1.ok r1 hb))
theorem es_own {i : Nat} {x : Str} {p1 : Pos} {c1 : C} (hN : S.N[i]? = some x) (hx : Sets S x) (he : EF G cf lf S e c1) (hs : ∀ env : PySem.Env, env.scope = S.sc → swapsWith e (some (.Name x p1)) pos.line env = pure false) :
    ES G cf lf S (.Assign [.Name x p1] e pos) (.own i c1) := fun fr X c => ps_imp (ps_set (by rw [c.N]; exact c.nd) (c.nN hN) (c.set hx).1 (he fr X c) (hs _ c.sc) (c.set hx).2) fun D σ H ⟨ρ, ok, h⟩ => by
  rw [evalS] at h
  refine ⟨ρ, ok, ?_⟩
  cases ho : evalE cf lf c1 ρ with
  | bad => rw [ho] at h; exact h
  | exc k => rw [ho] at h; exact h
  | ok d ρ1 =>
    rw [ho] at h
    simp only [Out.rs] at h
    split at h
    · rename_i hf
      cases d <;> simp [fresh] at hf
      intro a xs H1 s1 n r1
      cases hb : setS ρ1 i (.ow (.lst _)) with
      | none => rw [hb] at h; exact h.elim
      | some ρ2 => rw [hb] at h; exact h _ _ (s1.trans (set_ow s1.ok n r1 hb))
    · exact h.elim
theorem es_expr {c1 : C} (he : EE G cf lf S e c1) (hs : ∀ env : PySem.Env, env.scope = S.sc → swapsWith e none pos.line env = pure false) : ES G cf lf S (.Expr e pos) (.expr c1) := fun fr X c => ps_imp (ps_expr (he fr X c) (hs _ c.sc)) fun D σ H ⟨ρ, ok, h⟩ => by
  rw [evalS] at h
  refine ⟨ρ, ok, ?_⟩
  cases ho : evalE cf lf c1 ρ with
  | bad => rw [ho] at h; exact h
  | exc k => rw [ho] at h; exact h
  | ok d ρ1 => rw [ho] at h; exact fun v H1 s1 r1 => h σ H1 s1
theorem es_ret {c1 : C} (he : EE G cf lf S e c1) : ES G cf lf S (.Return (some e) pos) (.ret c1) := fun fr X c => ps_imp (ps_ret (he fr X c)) fun D σ H ⟨ρ, ok, h⟩ => by
  rw [evalS] at h
  refine ⟨ρ, ok, ?_⟩
  cases ho : evalE cf lf c1 ρ with
  | bad => rw [ho] at h; exact h
  | exc k => rw [ho] at h; exact h
  | ok d ρ1 => rw [ho] at h; exact fun v H1 s1 r1 => h v σ H1 s1 r1
theorem es_retN : ES G cf lf S (.Return none pos) .retN := fun fr X c => ps_imp ps_retN fun D σ H ⟨ρ, ok, h⟩ => by
  rw [evalS] at h
  exact h .non σ H (.refl ok) rep_non
theorem es_pass : ES G cf lf S (.Pass pos) .pass := fun fr X c => ps_imp ps_pass fun D σ H ⟨ρ, ok, h⟩ => by
  rw [evalS] at h
  exact h σ H (.refl ok)
theorem es_doc {x j pos'} : ES G cf lf S (.Expr (.Constant (.str x) j pos) pos') .pass := fun fr X c => ps_imp ps_doc fun D σ H ⟨ρ, ok, h⟩ => by
  rw [evalS] at h
  exact h σ H (.refl ok)
theorem es_brk : ES G cf lf S (.Break pos) .brk := fun fr X c => ps_imp ps_break fun D σ H ⟨ρ, ok, h⟩ => by
  rw [evalS] at h
  exact h σ H (.refl ok)
theorem es_cont : ES G cf lf S (.Continue pos) .cont := fun fr X c => ps_imp ps_continue fun D σ H ⟨ρ, ok, h⟩ => by
  rw [evalS] at h
  exact h σ H (.refl ok)
theorem ess_nil : ESs G cf lf S [] .nil := fun fr X c => pss_imp pss_nil fun D σ H ⟨ρ, ok, h⟩ => by
  rw [evalSL] at h
  exact h σ H (.refl ok)
theorem ess_cons {st : Stmt} {rest : List Stmt} {s : MZ.S} {r : SL} (h1 : ES G cf lf S st s) (h2 : ESs G cf lf S rest r) : ESs G cf lf S (st :: rest) (.cons s r) := fun fr X c => pss_imp (pss_cons (h1 fr X c) (h2 fr X c)) fun D σ H ⟨ρ, ok, h⟩ => by
  rw [evalSL] at h
  refine ⟨ρ, ok, ?_⟩
  cases ho : evalS cf lf s ρ with
  | bad => rw [ho] at h; exact h
  | exc k => rw [ho] at h; exact h
  | next ρ1 => rw [ho] at h; exact fun σ1 H1 s1 => ⟨ρ1, s1.ok, h.after s1⟩
  | ret d ρ1 => rw [ho] at h; exact h
  | brk ρ1 => rw [ho] at h; exact h
  | cont ρ1 => rw [ho] at h; exact h
theorem es_if {t : Expr} {c1 : C} {A B : List Stmt} {sa sb : SL} (ht : ET G cf lf S t c1) (ha : ESs G cf lf S A sa) (hb : ESs G cf lf S B sb) : ES G cf lf S (.If t A B pos) (.ife c1 sa sb) := fun fr X c => ps_imp (ps_if (ht fr X c) (ha fr X c) (hb fr X c)) fun D σ H ⟨ρ, ok, h⟩ => by
  rw [evalS] at h
  refine ⟨ρ, ok, ?_⟩
  cases ho : evalE cf lf c1 ρ with
  | bad => rw [ho] at h; exact h
  | exc k => rw [ho] at h; exact h
  | ok d ρ1 =>
    rw [ho] at h
    simp only [Out.rs] at h
    split at h
    · rename_i ht
      exact ⟨true, ht, fun H1 s1 => show tS G fr (evalSL cf lf sa) D σ H1 from ⟨ρ1, s1.ok, h.after s1⟩⟩
    · rename_i ht
      exact ⟨false, ht, fun H1 s1 => show tS G fr (evalSL cf lf sb) D σ H1 from ⟨ρ1, s1.ok, h.after s1⟩⟩
    · exact h.elim
end
end MZ
end
section
set_option maxRecDepth 100000
set_option maxHeartbeats 2000000
namespace MZ
open PySem PySem.Spec PyProof.Rows L2 LamX MX
section
variable {G : Gb} {cf : FnI} {lf : Nat → Env → Out D} {S : SC} {pos : Pos} {a b e : Expr} {as : AL} {fr : Fr} {ρ ρ1 ρ2 : Env} {σ σ1 : L2.St} {H H1 : Hp}
/-- raise X(..) -/
theorem es_raise {k : Nat} (hkd : S.kd ≠ 1) (he : ∀ fr X, CxS G S fr X → PMk X e (fun σ H Q => Q (G.xc k) none H)) : ES G cf lf S (.Raise (some e) none pos) (.raise k) := fun fr X c =>
  ps_imp (ps_raise c.calm (c.fl hkd).2.2 (he fr X c)) fun D σ H ⟨ρ, ok, h⟩ => by
    rw [evalS] at h
    exact ⟨k, rfl, rfl, ok.keepX, h⟩
/-- x op= e -/
theorem es_aug {op : Operator} {p : Prim} {r : R2} {i : Nat} {x : Str} {p1 : Pos} {c1 : C} (hr : ∀ fr X, CxS G S fr X → OpR X (inplaceOp op) r) (hp : PrimOk G p (Two r)) (hN : S.N[i]? = some x) (hx : Sets S x) (he : EE G cf lf S e c1) :
    ES G cf lf S (.AugAssign (.Name x p1) op e pos) (.aug p i c1) := fun fr X c => ps_imp (ps_aug (by rw [c.N]; exact c.nd) (c.nN hN) (c.set hx).1 (he fr X c) (hr fr X c) (c.set hx).2) fun D σ H ⟨ρ, ok, h⟩ => by
  rw [evalS] at h
  cases hc : cont ρ i with
  | none => rw [hc] at h; exact h.elim
  | some d0 =>
    rw [hc] at h
    simp only at h
    obtain ⟨v0, e0⟩ := slot_val ok hc
    refine ⟨v0, e0, ρ, ok, ?_⟩
    cases ho : evalE cf lf c1 ρ with
    | bad => rw [ho] at h; exact h
    | exc k => rw [ho] at h; exact h
    | ok d ρ1 =>
      rw [ho] at h
      simp only [Out.rs] at h
      intro v H1 s1 r1
      split at h
      · rename_i x0 ex
        obtain ⟨v1, e1, rx⟩ := s1.ok.slot i _ ex
        rw [e0] at e1
        cases e1
        cases hq : primR p [x0, d] with
        | none => rw [hq] at h; exact h.elim
        | some y =>
          rw [hq] at h
          simp only [Option.bind] at h
          cases hb : setS ρ1 i (.pu y) with
          | none => rw [hb] at h; exact h.elim
          | some ρ2 =>
            rw [hb] at h
            obtain ⟨_, _, e, k⟩ := hp fr ρ1 σ H1 [x0, d] [v0, v] y (fun z H2 => D.nx (σ.set i (some z)) H2) s1.ok ⟨v0, [v], rfl, rx.top vis_ext, v, [], rfl, r1.top vis_ext, rfl⟩ hq fun z H2 s2 r2 => h _ _ (s1.trans (s2.trans (set_pu s2.ok r2 hb)))
            cases e
            exact k
      · exact h.elim
/-- a, b = x, y -/
theorem es_par {i j : Nat} {x y : Str} {px py pt : Pos} {kt k2 pt2} {c1 c2 : C} (hi : S.N[i]? = some x) (hj : S.N[j]? = some y) (hij : i ≠ j) (hx : S.sc.names.lookup x = some .local) (hy : S.sc.names.lookup y = some .local)
    (ha : EE G cf lf S a c1) (hb : EE G cf lf S b c2) (hpa : ∀ env : PySem.Env, starEach [a, b] env = (false, eval a env) :: starEach [b] env) (hpb : ∀ env : PySem.Env, starEach [b] env = (false, eval b env) :: starEach [] env)
    (hw : ∀ env : PySem.Env, env.scope = S.sc → swappedStores [.Tuple [.Name x px, .Name y py] kt pt] (.Tuple [a, b] k2 pt2) env = pure (some [x, y]))
    (hs : ∀ env : PySem.Env, env.scope = S.sc → swapsWithSole [.Tuple [.Name x px, .Name y py] kt pt] (.Tuple [a, b] k2 pt2) pos.line env = pure false) :
    ES G cf lf S (.Assign [.Tuple [.Name x px, .Name y py] kt pt] (.Tuple [a, b] k2 pt2) pos) (.par false false i j c1 c2) := fun fr X c =>
  ps_imp (ps_par c.calm (by rw [c.N]; exact c.nd) (c.nN hi) (c.nN hj) hij (by rw [c.sc]; exact hx) (by rw [c.sc]; exact hy) (pa_cons (ha fr X c) (pa_cons (hb fr X c) pa_nil (hpb _)) (hpa _)) (hw _ c.sc) (hs _ c.sc)) fun D σ H ⟨ρ, ok, h⟩ => by
    rw [evalS] at h
    refine ⟨ρ, ok, ?_⟩
    cases ho : evalE cf lf c1 ρ with
    | bad => rw [ho] at h; exact h
    | exc k => rw [ho] at h; exact h
    | ok d ρ1 =>
      rw [ho] at h
      simp only [Out.rs] at h
      refine fun v H1 s1 r1 => ⟨ρ1, s1.ok, ?_⟩
      cases h2 : evalE cf lf c2 ρ1 with
      | bad => rw [h2] at h; exact h
      | exc k => rw [h2] at h; exact h
      | ok y ρ2 =>
        rw [h2] at h
        intro w H2 s2 r2
        simp only at h
        split at h
        · change RSok G fr ρ σ H (ofE ((setS ρ2 i (.pu d)).bind fun ρ3 => setS ρ3 j (.pu y))) D at h
          cases h3 : setS ρ2 i (.pu d) with
          | none => rw [h3] at h; exact h.elim
          | some ρ3 =>
            have t3 := set_pu s2.ok (r1.mono s2.ext) h3
            rw [h3] at h
            change RSok G fr ρ σ H (ofE (setS ρ3 j (.pu y))) D at h
            cases h4 : setS ρ3 j (.pu y) with
            | none => rw [h4] at h; exact h.elim
            | some ρ4 =>
              rw [h4] at h
              exact ⟨v, w, rfl, h _ _ (s1.trans (s2.trans (t3.trans (set_pu t3.ok (r2.mono t3.ext) h4))))⟩
        · exact h.elim
/-- a, b = x, a new list -/
theorem es_parO {i j : Nat} {x y : Str} {px py pt : Pos} {kt k2 pt2} {c1 c2 : C} (hi : S.N[i]? = some x) (hj : S.N[j]? = some y) (hij : i ≠ j) (hx : S.sc.names.lookup x = some .local) (hy : S.sc.names.lookup y = some .local)
    (ha : EE G cf lf S a c1) (hb : EF G cf lf S b c2) (hpa : ∀ env : PySem.Env, starEach [a, b] env = (false, eval a env) :: starEach [b] env) (hpb : ∀ env : PySem.Env, starEach [b] env = (false, eval b env) :: starEach [] env)
    (hw : ∀ env : PySem.Env, env.scope = S.sc → swappedStores [.Tuple [.Name x px, .Name y py] kt pt] (.Tuple [a, b] k2 pt2) env = pure (some [x, y]))
    (hs : ∀ env : PySem.Env, env.scope = S.sc → swapsWithSole [.Tuple [.Name x px, .Name y py] kt pt] (.Tuple [a, b] k2 pt2) pos.line env = pure false) :
    ES G cf lf S (.Assign [.Tuple [.Name x px, .Name y py] kt pt] (.Tuple [a, b] k2 pt2) pos) (.par false true i j c1 c2) := fun fr X c =>
  ps_imp (ps_par c.calm (by rw [c.N]; exact c.nd) (c.nN hi) (c.nN hj) hij (by rw [c.sc]; exact hx) (by rw [c.sc]; exact hy) (pa_cons (ha fr X c) (pa_cons (hb fr X c) pa_nil (hpb _)) (hpa _)) (hw _ c.sc) (hs _ c.sc)) fun D σ H ⟨ρ, ok, h⟩ => by
    rw [evalS] at h
    refine ⟨ρ, ok, ?_⟩
    cases ho : evalE cf lf c1 ρ with
    | bad => rw [ho] at h; exact h
    | exc k => rw [ho] at h; exact h
    | ok d ρ1 =>
      rw [ho] at h
      simp only [Out.rs] at h
      refine fun v H1 s1 r1 => ⟨ρ1, s1.ok, ?_⟩
      cases h2 : evalE cf lf c2 ρ1 with
      | bad => rw [h2] at h; exact h
      | exc k => rw [h2] at h; exact h
      | ok y ρ2 =>
        rw [h2] at h
        simp only at h
        split at h
        · rename_i hf
          cases y <;> simp [fresh] at hf
          rename_i l
          intro p xs H2 s2 n r2
          change RSok G fr ρ σ H (ofE ((setS ρ2 i (.pu d)).bind fun ρ3 => setS ρ3 j (.ow (.lst l)))) D at h
          cases h3 : setS ρ2 i (.pu d) with
          | none => rw [h3] at h; exact h.elim
          | some ρ3 =>
            have t3 := set_pu s2.ok (r1.mono s2.ext) h3
            rw [h3] at h
            change RSok G fr ρ σ H (ofE (setS ρ3 j (.ow (.lst l)))) D at h
            cases h4 : setS ρ3 j (.ow (.lst l)) with
            | none => rw [h4] at h; exact h.elim
            | some ρ4 =>
              rw [h4] at h
              exact ⟨v, .ref p, rfl, h _ _ (s1.trans (s2.trans (t3.trans (set_ow t3.ok n (r2.mono t3.ext) h4))))⟩
        · exact h.elim
/-- a, b = a new list, a constant -/
theorem es_parK {i j : Nat} {x y : Str} {px py pt : Pos} {kt k2 pt2} {c1 : C} {d2 : D} {v2 : V} (hi : S.N[i]? = some x) (hj : S.N[j]? = some y) (hij : i ≠ j) (hx : S.sc.names.lookup x = some .local) (hy : S.sc.names.lookup y = some .local)
    (ha : EF G cf lf S a c1) (hb : ∀ X : Cx, PE X b (tC v2)) (hr : ∀ B H, Rep B H d2 v2) (hpa : ∀ env : PySem.Env, starEach [a, b] env = (false, eval a env) :: starEach [b] env) (hpb : ∀ env : PySem.Env, starEach [b] env = (false, eval b env) :: starEach [] env)
    (hw : ∀ env : PySem.Env, env.scope = S.sc → swappedStores [.Tuple [.Name x px, .Name y py] kt pt] (.Tuple [a, b] k2 pt2) env = pure (some [x, y]))
    (hs : ∀ env : PySem.Env, env.scope = S.sc → swapsWithSole [.Tuple [.Name x px, .Name y py] kt pt] (.Tuple [a, b] k2 pt2) pos.line env = pure false) :
    ES G cf lf S (.Assign [.Tuple [.Name x px, .Name y py] kt pt] (.Tuple [a, b] k2 pt2) pos) (.par true false i j c1 (.cst d2)) := fun fr X c =>
  ps_imp (ps_par c.calm (by rw [c.N]; exact c.nd) (c.nN hi) (c.nN hj) hij (by rw [c.sc]; exact hx) (by rw [c.sc]; exact hy) (pa_cons (ha fr X c) (pa_cons (hb X) pa_nil (hpb _)) (hpa _)) (hw _ c.sc) (hs _ c.sc)) fun D σ H ⟨ρ, ok, h⟩ => by
    rw [evalS] at h
    refine ⟨ρ, ok, ?_⟩
    cases ho : evalE cf lf c1 ρ with
    | bad => rw [ho] at h; exact h
    | exc k => rw [ho] at h; exact h
    | ok d ρ1 =>
      rw [ho] at h
      simp only [Out.rs, evalE] at h
      split at h
      · rename_i hf
        cases d <;> simp [fresh] at hf
        rename_i l
        intro p xs H2 s2 n r2
        change RSok G fr ρ σ H (ofE ((setS ρ1 i (.ow (.lst l))).bind fun ρ3 => setS ρ3 j (.pu d2))) D at h
        cases h3 : setS ρ1 i (.ow (.lst l)) with
        | none => rw [h3] at h; exact h.elim
        | some ρ3 =>
          have t3 := set_ow s2.ok n r2 h3
          rw [h3] at h
          change RSok G fr ρ σ H (ofE (setS ρ3 j (.pu d2))) D at h
          cases h4 : setS ρ3 j (.pu d2) with
          | none => rw [h4] at h; exact h.elim
          | some ρ4 =>
            rw [h4] at h
            exact ⟨.ref p, v2, rfl, h _ _ (s2.trans (t3.trans (set_pu t3.ok (hr _ _) h4)))⟩
      · exact h.elim
/-- a, b = a new list, [] -/
theorem es_parL {i j : Nat} {x y : Str} {px py pt p0 : Pos} {kt k2 pt2} {c1 : C} (hi : S.N[i]? = some x) (hj : S.N[j]? = some y) (hij : i ≠ j) (hx : S.sc.names.lookup x = some .local) (hy : S.sc.names.lookup y = some .local)
    (ha : EF G cf lf S a c1) (hpa : ∀ env : PySem.Env, starEach [a, .List [] p0] env = (false, eval a env) :: starEach [.List [] p0] env)
    (hw : ∀ env : PySem.Env, env.scope = S.sc → swappedStores [.Tuple [.Name x px, .Name y py] kt pt] (.Tuple [a, .List [] p0] k2 pt2) env = pure (some [x, y]))
    (hs : ∀ env : PySem.Env, env.scope = S.sc → swapsWithSole [.Tuple [.Name x px, .Name y py] kt pt] (.Tuple [a, .List [] p0] k2 pt2) pos.line env = pure false) :
    ES G cf lf S (.Assign [.Tuple [.Name x px, .Name y py] kt pt] (.Tuple [a, .List [] p0] k2 pt2) pos) (.par true true i j c1 (.lst .nil)) := fun fr X c =>
  ps_imp (ps_par c.calm (by rw [c.N]; exact c.nd) (c.nN hi) (c.nN hj) hij (by rw [c.sc]; exact hx) (by rw [c.sc]; exact hy) (pa_cons (ha fr X c) (pa_cons (pe_lst pa_nil) pa_nil rfl) (hpa _)) (hw _ c.sc) (hs _ c.sc)) fun D σ H ⟨ρ, ok, h⟩ => by
    rw [evalS] at h
    refine ⟨ρ, ok, ?_⟩
    cases ho : evalE cf lf c1 ρ with
    | bad => rw [ho] at h; exact h
    | exc k => rw [ho] at h; exact h
    | ok d ρ1 =>
      rw [ho] at h
      simp only [Out.rs, evalE, evalX, Out.bind, List.length_nil, Nat.zero_le, if_true] at h
      split at h
      · rename_i hf
        cases d <;> simp [fresh] at hf
        rename_i l
        intro p xs H2 s2 n r2
        change RSok G fr ρ σ H (ofE ((setS ρ1 i (.ow (.lst l))).bind fun ρ3 => setS ρ3 j (.ow (.lst [])))) D at h
        cases h3 : setS ρ1 i (.ow (.lst l)) with
        | none => rw [h3] at h; exact h.elim
        | some ρ3 =>
          have t3 := set_ow s2.ok n r2 h3
          rw [h3] at h
          change RSok G fr ρ σ H (ofE (setS ρ3 j (.ow (.lst [])))) D at h
          cases h4 : setS ρ3 j (.ow (.lst [])) with
          | none => rw [h4] at h; exact h.elim
          | some ρ4 =>
            rw [h4] at h
            exact ⟨Nat.zero_le _, fun q m => ⟨.ref p, .ref q, rfl, h _ _ (s2.trans (t3.trans (set_ow t3.ok m (RepL.nil.mpr rfl) h4)))⟩⟩
      · exact h.elim
theorem own_at (ok : OkF G fr ρ σ H) {i : Nat} {u : SV} {l : List D} (h : ρ[i]? = some u) (hu : svOwn u = some (.lst l)) : ∃ a xs, σ[i]? = some (some (.ref a)) ∧ H a = some (.lst xs) ∧ RepL G.B (vis fr ρ σ H) l xs := by
  obtain ⟨a, e, q⟩ := (SlotOk.own hu).mp (ok.slot i u h)
  obtain ⟨xs, q1, q2⟩ := q
  exact ⟨a, xs, e, q1, q2⟩
/-- x.append(e) -/
theorem es_app {i : Nat} {x : Str} {p1 apos cpos : Pos} {c1 : C} (hN : S.N[i]? = some x) (hv : Vis S.sc x) (he : EE G cf lf S e c1) (hse : ∀ env : PySem.Env, starEach [e] env = (false, eval e env) :: starEach [] env)
    (hfew : ∀ env : PySem.Env, ((backTo cpos (starEach [e] env)).all (fun x => !x.1) && (backToKw cpos (keywordEach [] env)).all (fun x => x.1.isSome) && decide ([e].length + ([] : List Keyword).length + (if ([] : List Keyword).isEmpty then 0 else 1) < 30)) = true)
    (hline : (apos.endLine == cpos.line) = true) (hs : ∀ env : PySem.Env, env.scope = S.sc → swapsWith (.Call (.Attribute (.Name x p1) "append" apos) [e] [] cpos) none pos.line env = pure false)
    (hd : (x == ("__debug__" : Str)) = false := by decide) (hcd : (x == ("__classdict__" : Str)) = false := by decide) (hbase : ∀ env : PySem.Env, attributeBase (.Name x p1) "append" env (eval (.Name x p1) env) = eval (.Name x p1) env := by intro _; rfl) :
    ES G cf lf S (.Expr (.Call (.Attribute (.Name x p1) "append" apos) [e] [] cpos) pos) (.app i c1) := fun fr X c =>
  ps_imp (ps_expr (pe_bm PySem.F.plainAttrs_list PySem.F.slot_list_append PySem.F.type_list_append mt_append (pe_var (c.nN hN) (c.vis hv) hd hcd) (pa_cons (he fr X c) pa_nil (hse _)) (hbase _) (hfew _) hline (hse _) rfl) (hs _ c.sc)) fun D σ H ⟨ρ, ok, h⟩ => by
    rw [evalS] at h
    split at h
    · rename_i l0 hc
      obtain ⟨v0, e0⟩ := slot_val ok hc
      obtain ⟨a, xs, rfl, h0, _⟩ := slot_rep ok hc e0
      refine ⟨.ref a, e0, .inl ⟨rfl, xs, .of h0⟩, ρ, ok, ?_⟩
      cases ho : evalE cf lf c1 ρ with
      | bad => rw [ho] at h; exact h
      | exc k => rw [ho] at h; exact h
      | ok d ρ1 =>
        rw [ho] at h
        simp only [Out.rs] at h
        intro v H1 s1 r1
        split at h
        · rename_i l hl
          obtain ⟨a', ys, e1, h1, r2⟩ := own_at s1.ok hl rfl
          rw [e0] at e1
          cases e1
          split at h
          · rename_i hz
            exact ⟨a, ys, v, rfl, rfl, h1, by rw [line_is, r2.length]; exact hz, h _ _ (s1.trans (own_mut s1.ok hl rfl rfl (fun _ z => nomatch z) (fun _ z => nomatch z) e0 (r2.append (RepL.cons r1 (RepL.nil.mpr rfl)))))⟩
          · exact h.elim
        · rename_i l hl
          obtain ⟨a', ys, e1, h1, r2⟩ := own_at s1.ok hl rfl
          rw [e0] at e1
          cases e1
          split at h
          · rename_i hz
            exact ⟨a, ys, v, rfl, rfl, h1, by rw [line_is, r2.length]; exact hz, h _ _ (s1.trans (own_mut s1.ok hl rfl rfl (fun _ z => nomatch z) (fun _ z => ⟨_, rfl⟩) e0 (r2.append (RepL.cons r1 (RepL.nil.mpr rfl)))))⟩
          · exact h.elim
        · exact h.elim
    · exact h.elim
/-- x[k] = e -/
theorem es_setIx {i : Nat} {x : Str} {k : Expr} {p1 p2 : Pos} {c1 ck : C} (hN : S.N[i]? = some x) (hv : Vis S.sc x) (he : EE G cf lf S e c1) (hk : EE G cf lf S k ck)
    (ha : ∀ (env : PySem.Env) (v : Value), assign (.Subscript (.Name x p1) k p2) env v = (do
      let ov ← holding [v] (eval (.Name x p1) env)
      let iv ← holding [v, ov] (eval k env)
      standAt p2
      holding [v, ov, iv] (setItem ov iv v)
      release [v, ov, iv] []))
    (hs : ∀ env : PySem.Env, env.scope = S.sc → swapsWithSole [.Subscript (.Name x p1) k p2] e pos.line env = pure false) (hw : ∀ env : PySem.Env, env.scope = S.sc → swappedStores [.Subscript (.Name x p1) k p2] e env = pure none) (h1 : ∀ env : PySem.Env, (assignEach [.Subscript (.Name x p1) k p2] env).map (·.2) = [assign (.Subscript (.Name x p1) k p2) env])
    (hd : (x == ("__debug__" : Str)) = false := by decide) (hcd : (x == ("__classdict__" : Str)) = false := by decide) :
    ES G cf lf S (.Assign [.Subscript (.Name x p1) k p2] e pos) (.setIx i ck c1) := fun fr X c =>
  ps_imp (ps_asg (he fr X c) (pg_sub (pe_var (c.nN hN) (c.vis hv) hd hcd) (hk fr X c) set_list (ha _)) (hs _ c.sc) (hw _ c.sc) (h1 _)) fun D σ H ⟨ρ, ok, h⟩ => by
    rw [evalS] at h
    refine ⟨ρ, ok, ?_⟩
    cases ho : evalE cf lf c1 ρ with
    | bad => rw [ho] at h; exact h
    | exc k => rw [ho] at h; exact h
    | ok d ρ1 =>
      rw [ho] at h
      simp only [Out.rs] at h
      intro v H1 s1 r1
      cases hc : cont ρ1 i with
      | none => rw [hc] at h; exact h.elim
      | some d0 =>
        rw [hc] at h
        simp only at h
        obtain ⟨v0, e0⟩ := slot_val s1.ok hc
        refine ⟨v0, e0, ρ1, s1.ok, ?_⟩
        cases h2 : evalE cf lf ck ρ1 with
        | bad => rw [h2] at h; exact h
        | exc k => rw [h2] at h; exact h
        | ok y ρ2 =>
          rw [h2] at h
          simp only at h
          intro w H2 s2 r2
          have r1' := r1.mono s2.ext
          have ixn : ∀ {n : Nat} {m : Int}, 0 ≤ m ∧ m < n → ixN n m = some m.toNat := fun {n m} z => by
            unfold ixN
            rw [if_pos z.1, if_pos z.2]
          split at h
          · rename_i l j hl
            obtain ⟨a', ys, e1, h1, r3⟩ := own_at s2.ok hl rfl
            rw [e0] at e1
            cases e1
            simp only [Rep] at r2
            subst r2
            split at h
            · rename_i hz
              exact ⟨a', ys, j, j.toNat, rfl, rfl, h1, by rw [r3.length]; exact ixn hz, h _ _ (s1.trans (s2.trans (own_mut s2.ok hl rfl rfl (fun _ z => nomatch z) (fun _ z => nomatch z) e0 (r3.set _ r1'))))⟩
            · exact h.elim
          · rename_i l j hl
            obtain ⟨a', ys, e1, h1, r3⟩ := own_at s2.ok hl rfl
            rw [e0] at e1
            cases e1
            simp only [Rep] at r2
            subst r2
            split at h
            · rename_i hz
              exact ⟨a', ys, j, j.toNat, rfl, rfl, h1, by rw [r3.length]; exact ixn hz, h _ _ (s1.trans (s2.trans (own_mut s2.ok hl rfl rfl (fun _ z => nomatch z) (fun _ z => ⟨_, rfl⟩) e0 (r3.set _ r1'))))⟩
            · exact h.elim
          · exact h.elim
end
end MZ
end
section
set_option maxRecDepth 100000
set_option maxHeartbeats 2000000
namespace MZ
open PySem PySem.Spec PyProof.Rows L2 LamX MX RZ
/-! ### locks -/
theorem lockL_len : ∀ (bs : List Nat) (ρ : Env), (lockL bs ρ).length = ρ.length
  | [], _ => rfl
  | i :: r, ρ => by
    rw [lockL, lockL_len r]
    split
    · exact List.length_set
    · rfl
theorem lock_get : ∀ {bs : List Nat} {ρ : Env} {j : Nat} {w : SV}, (lockL bs ρ)[j]? = some w → ∃ u, ρ[j]? = some u ∧ (w = u ∨ ∃ d, u = .ow d ∧ w = .lk d)
  | [], _, _, w, h => ⟨w, h, .inl rfl⟩
  | i :: r, ρ, j, w, h => by
    rw [lockL] at h
    obtain ⟨u, h1, h2⟩ := lock_get h
    split at h1
    · rename_i v e
      rcases set_get h1 with ⟨rfl, _, rfl⟩ | ⟨_, h1⟩
      · refine ⟨v, e, ?_⟩
        cases v <;> simp only [lock1] at h2
        · rcases h2 with h2 | ⟨d, h2, _⟩ <;> first | exact .inl h2 | cases h2
        · rcases h2 with h2 | ⟨d, h2, _⟩ <;> first | exact .inl h2 | cases h2
        · rcases h2 with h2 | ⟨d, h2, _⟩
          · exact .inr ⟨_, rfl, h2⟩
          · cases h2
        · rcases h2 with h2 | ⟨d, h2, _⟩ <;> first | exact .inl h2 | cases h2
        · rcases h2 with h2 | ⟨d, h2, _⟩ <;> first | exact .inl h2 | cases h2
      · exact ⟨u, h1, h2⟩
    · exact ⟨u, h1, h2⟩
theorem lock_keep : ∀ {bs : List Nat} {ρ : Env} {j : Nat} {u : SV}, ρ[j]? = some u → (∀ d, u ≠ .ow d) → (lockL bs ρ)[j]? = some u
  | [], _, _, _, h, _ => h
  | i :: r, ρ, j, u, h, n => by
    rw [lockL]
    refine lock_keep (bs := r) ?_ n
    split
    · rename_i v e
      by_cases z : i = j
      · subst z
        rw [h] at e
        cases e
        rw [set_same (get_lt h)]
        cases u <;> first | rfl | exact (n _ rfl).elim
      · rw [set_ne z]
        exact h
    · exact h
theorem lock_in : ∀ {bs : List Nat} {ρ : Env} {j : Nat} {d : D}, j ∈ bs → ρ[j]? = some (SV.ow d) → (lockL bs ρ)[j]? = some (SV.lk d)
  | i :: r, ρ, j, d, m, h => by
    rw [lockL]
    by_cases z : i = j
    · subst z
      rw [h]
      exact lock_keep (set_same (get_lt h)) (fun _ z => nomatch z)
    · have m' : j ∈ r := (List.mem_cons.mp m).resolve_left fun y => z y.symm
      refine lock_in m' ?_
      split
      · rw [set_ne z]; exact h
      · exact h
theorem unlockL_len (ρ0 : Env) : ∀ (bs : List Nat) (ρ : Env), (unlockL ρ0 bs ρ).length = ρ.length
  | [], _ => rfl
  | i :: r, ρ => by
    rw [unlockL, unlockL_len ρ0 r]
    split
    · exact List.length_set
    · rfl
theorem unlock_get {ρ0 : Env} : ∀ {bs : List Nat} {ρ : Env} {j : Nat} {w : SV}, (unlockL ρ0 bs ρ)[j]? = some w → ∃ u, ρ[j]? = some u ∧ (w = u ∨ ∃ d d', ρ0[j]? = some (SV.ow d') ∧ u = .lk d ∧ w = .ow d)
  | [], _, _, w, h => ⟨w, h, .inl rfl⟩
  | i :: r, ρ, j, w, h => by
    rw [unlockL] at h
    obtain ⟨u, h1, h2⟩ := unlock_get h
    split at h1
    · rename_i o v e0 e
      rcases set_get h1 with ⟨rfl, _, rfl⟩ | ⟨_, h1⟩
      · refine ⟨v, e, ?_⟩
        unfold unlock1 at h2
        split at h2
        · rename_i d1 d2
          rcases h2 with h2 | ⟨d, d', h0, h2, _⟩
          · exact .inr ⟨_, _, e0, rfl, h2⟩
          · cases h2
        · exact h2
      · exact ⟨u, h1, h2⟩
    · exact ⟨u, h1, h2⟩
theorem unlock_keep {ρ0 : Env} : ∀ {bs : List Nat} {ρ : Env} {j : Nat} {u : SV}, ρ[j]? = some u → (∀ d', ρ0[j]? ≠ some (SV.ow d')) → (unlockL ρ0 bs ρ)[j]? = some u
  | [], _, _, _, h, _ => h
  | i :: r, ρ, j, u, h, n => by
    rw [unlockL]
    refine unlock_keep (bs := r) ?_ n
    split
    · rename_i o v e0 e
      by_cases z : i = j
      · subst z
        rw [h] at e
        cases e
        rw [set_same (get_lt h)]
        unfold unlock1
        split
        · exact (n _ e0).elim
        · rfl
      · rw [set_ne z]
        exact h
    · exact h
theorem unlock_out {ρ0 : Env} : ∀ {bs : List Nat} {ρ : Env} {j : Nat}, j ∉ bs → (unlockL ρ0 bs ρ)[j]? = ρ[j]?
  | [], _, _, _ => rfl
  | i :: r, ρ, j, n => by
    rw [unlockL, unlock_out (bs := r) fun z => n (List.mem_cons_of_mem _ z)]
    split
    · rw [set_ne fun z => n (by rw [z]; exact List.mem_cons_self)]
    · rfl
section
variable {G : Gb} {fr : Fr} {ρ ρ1 ρ2 : Env} {σ σ1 : L2.St} {H H1 : Hp}
theorem lock_loose {bs : List Nat} {i : Nat} {a : Addr} {w : SV} (e1 : (lockL bs ρ)[i]? = some w) (e2 : loose w = true) (e3 : σ[i]? = some (some (.ref a))) : LooseAt ρ σ i a := by
  obtain ⟨u, e, z⟩ := lock_get e1
  rcases z with rfl | ⟨d, _, rfl⟩
  · exact ⟨⟨_, e, e2⟩, e3⟩
  · cases e2
theorem lock_step (ok : OkF G fr ρ σ H) (bs : List Nat) : Step G fr ρ σ H (lockL bs ρ) σ H := by
  obtain ⟨k, v, _⟩ := relabel ok (lockL_len bs ρ) (fun j w h => by
    obtain ⟨u, e, z⟩ := lock_get h
    refine ⟨u, e, ?_⟩
    rcases z with rfl | ⟨d, rfl, rfl⟩
    · exact .inl rfl
    · exact .inr ⟨d, rfl, rfl⟩) (fun i a ⟨⟨w, e1, e2⟩, e3⟩ => ok.own0 i a (lock_loose e1 e2 e3)) fun i a e => by
    obtain ⟨⟨d, z⟩, _⟩ := ok.mts i a e
    refine ⟨d, z.imp (fun y => ?_) fun y => ?_⟩
    · exact lock_keep y (fun _ z => nomatch z)
    · exact lock_keep y (fun _ z => nomatch z)
  exact ⟨k, v, fun j d e => ⟨lock_keep e (fun _ z => nomatch z), rfl⟩⟩
theorem unlock_loose {bs : List Nat} (ok1 : OkF G fr ρ1 σ H1) (s : Step G fr (lockL bs ρ1) σ H1 ρ2 σ1 H) : ∀ i a, LooseAt (unlockL ρ1 bs ρ2) σ1 i a → NotH0 fr a := fun i a ⟨⟨w, e1, e2⟩, e3⟩ => by
  obtain ⟨u, e, z⟩ := unlock_get e1
  rcases z with rfl | ⟨d, d', h0, rfl, rfl⟩
  · exact s.ok.own0 i a ⟨⟨_, e, e2⟩, e3⟩
  · by_cases m : (lockL bs ρ1)[i]? = some (SV.lk d')
    · refine ok1.own0 i a ⟨⟨_, h0, rfl⟩, ?_⟩
      rw [← (s.lk i d' m).2]
      exact e3
    · by_cases m2 : i ∈ bs
      · exact (m (lock_in m2 h0)).elim
      · rw [unlock_out m2, e] at e1
        cases e1
/-- what is unlocked behind a walk that began at ρ1, locked -/
theorem unlock_step {bs : List Nat} (ok1 : OkF G fr ρ1 σ H1) (s : Step G fr (lockL bs ρ1) σ H1 ρ2 σ1 H) : Step G fr ρ1 σ H1 (unlockL ρ1 bs ρ2) σ1 H := by
  have s1 := lock_step ok1 bs
  obtain ⟨k, v, _⟩ := relabel s.ok (unlockL_len ρ1 bs ρ2) (fun j w h => by
    obtain ⟨u, e, z⟩ := unlock_get h
    refine ⟨u, e, ?_⟩
    rcases z with rfl | ⟨d, d', _, rfl, rfl⟩
    · exact .inl rfl
    · exact .inr ⟨d, rfl, rfl⟩) (unlock_loose ok1 s) fun i a e => by
    obtain ⟨⟨d, z⟩, _⟩ := s.ok.mts i a e
    have n : ∀ d', ρ1[i]? ≠ some (SV.ow d') := fun d' y => by
      obtain ⟨⟨d2, q⟩, _⟩ := ok1.mts i a e
      rcases q with q | q <;> (rw [y] at q; cases q)
    exact ⟨d, z.imp (fun y => unlock_keep y n) fun y => unlock_keep y n⟩
  refine ⟨k, s1.ext.trans (s.ext.trans v), fun j d e => ?_⟩
  obtain ⟨e1, e2⟩ := (s1.lk.trans s.lk) j d e
  exact ⟨unlock_keep e1 (fun d' y => by rw [e] at y; cases y), e2⟩
/-! ### what is walked -/
/-- a later state, perhaps of another frame -/
structure Later (G : Gb) (fr : Fr) (ρ : Env) (σ : L2.St) (H : Hp) (fr' : Fr) (ρ' : Env) (σ' : L2.St) (H' : Hp) : Prop where
  ok : OkF G fr' ρ' σ' H'
  ext : ExtN (vis fr ρ σ H) (vis fr' ρ' σ' H')
  lk : Lks ρ σ ρ' σ'
theorem Step.later (s : Step G fr ρ σ H ρ1 σ1 H1) : Later G fr ρ σ H fr ρ1 σ1 H1 := ⟨s.ok, s.ext, s.lk⟩
theorem Later.step {fr' : Fr} {ρ' : Env} {σ' : L2.St} {H' : Hp} (a : Later G fr ρ σ H fr' ρ1 σ1 H1) (b : Step G fr' ρ1 σ1 H1 ρ' σ' H') : Later G fr ρ σ H fr' ρ' σ' H' := ⟨b.ok, a.ext.trans b.ext, a.lk.trans b.lk⟩
/-- a list that stays while it is walked -/
def LAt (G : Gb) (fr : Fr) (ρ : Env) (σ : L2.St) (H : Hp) (l : List D) (a : Addr) : Prop :=
  (∃ xs, vis fr ρ σ H a = some (.lst xs) ∧ RepL G.B (vis fr ρ σ H) l xs) ∨ ∃ j : Nat, ρ[j]? = some (SV.lk (.lst l)) ∧ σ[j]? = some (some (V.ref a))
theorem LAt.step {fr' : Fr} {l : List D} {a : Addr} (h : LAt G fr ρ σ H l a) (s : Later G fr ρ σ H fr' ρ1 σ1 H1) : LAt G fr' ρ1 σ1 H1 l a := by
  rcases h with ⟨xs, h1, h2⟩ | ⟨j, h1, h2⟩
  · exact .inl ⟨xs, s.ext a _ h1 (fun _ z => nomatch z), h2.mono s.ext⟩
  · obtain ⟨e1, e2⟩ := s.lk j _ h1
    exact .inr ⟨j, e1, e2.trans h2⟩
theorem LAt.get {l : List D} {a : Addr} (ok : OkF G fr ρ σ H) (h : LAt G fr ρ σ H l a) : ∃ xs, H a = some (.lst xs) ∧ RepL G.B (vis fr ρ σ H) l xs := by
  rcases h with ⟨xs, h1, h2⟩ | ⟨j, h1, h2⟩
  · exact ⟨xs, (vis_some.mp h1).2, h2⟩
  · obtain ⟨a', xs, e, h3, h4⟩ := own_at ok h1 rfl
    rw [h2] at e
    cases e
    exact ⟨xs, h3, h4⟩
def TAt (G : Gb) (fr : Fr) (ρ : Env) (σ : L2.St) (H : Hp) (l : List D) (a : Addr) : Prop := ∃ xs, SqT G.B.K (vis fr ρ σ H) a xs ∧ RepL G.B (vis fr ρ σ H) l xs
theorem TAt.step {fr' : Fr} {l : List D} {a : Addr} (h : TAt G fr ρ σ H l a) (s : Later G fr ρ σ H fr' ρ1 σ1 H1) : TAt G fr' ρ1 σ1 H1 l a := by
  obtain ⟨xs, h1, h2⟩ := h
  exact ⟨xs, ext_sqT s.ext h1, h2.mono s.ext⟩
/-- an operand that is walked -/
def IRep (G : Gb) (fr : Fr) (ρ : Env) (σ : L2.St) (H : Hp) (d : D) (v : V) : Prop := match d with
  | .lst l => ∃ a, v = .ref a ∧ LAt G fr ρ σ H l a
  | d => Rep G.B (vis fr ρ σ H) d v
def IRepL (G : Gb) (fr : Fr) (ρ : Env) (σ : L2.St) (H : Hp) : List D → List V → Prop
  | [], vs => vs = []
  | d :: ds, vs => ∃ v r, vs = v :: r ∧ IRep G fr ρ σ H d v ∧ IRepL G fr ρ σ H ds r
theorem IRepL.one {d : D} {vs : List V} (h : IRepL G fr ρ σ H [d] vs) : ∃ v, vs = [v] ∧ IRep G fr ρ σ H d v := by
  obtain ⟨v, r, rfl, h1, rfl⟩ := h
  exact ⟨v, rfl, h1⟩
theorem IRepL.two {d e : D} {vs : List V} (h : IRepL G fr ρ σ H [d, e] vs) : ∃ v w, vs = [v, w] ∧ IRep G fr ρ σ H d v ∧ IRep G fr ρ σ H e w := by
  obtain ⟨v, r, rfl, h1, h⟩ := h
  obtain ⟨w, rfl, h2⟩ := h.one
  exact ⟨v, w, rfl, h1, h2⟩
theorem irep_of {d : D} {v : V} (r : Rep G.B (vis fr ρ σ H) d v) : IRep G fr ρ σ H d v := by
  cases d <;> try exact r
  simp only [Rep] at r
  obtain ⟨a, xs, rfl, h1, h2⟩ := r
  exact ⟨a, rfl, .inl ⟨xs, h1, h2⟩⟩
theorem irep_slot (ok : OkF G fr ρ σ H) {bs : List Nat} {i : Nat} {d : D} {v : V} (hm : i ∈ bs) (hb : ∀ d, ρ[i]? ≠ some (SV.mp d)) (h : cont ρ i = some d) (e : σ[i]? = some (some v)) : IRep G fr (lockL bs ρ) σ H d v := by
  have s := lock_step ok bs
  have pu : ρ[i]? = some (SV.pu d) → IRep G fr (lockL bs ρ) σ H d v := fun e' => by
    obtain ⟨x, q, r⟩ := ok.slot i _ e'
    rw [e] at q
    cases q
    exact irep_of (r.mono s.ext)
  have lk : (lockL bs ρ)[i]? = some (SV.lk d) → IRep G fr (lockL bs ρ) σ H d v := fun e' => by
    obtain ⟨a, q, r⟩ := (SlotOk.own rfl).mp (s.ok.slot i _ e')
    rw [e] at q
    cases q
    cases d <;> try exact r.elim
    exact ⟨a, rfl, .inr ⟨i, e', e⟩⟩
  unfold cont at h
  split at h
  · cases h; rename_i q; exact pu q
  · cases h; rename_i q; exact lk (lock_in hm q)
  · cases h; rename_i q; exact lk (lock_keep q (fun _ z => nomatch z))
  · rename_i q; exact (hb _ q).elim
  · cases h
theorem okBo_not : ∀ {bs : List Nat} {ρ : Env} {i : Nat}, okBo bs ρ = true → i ∈ bs → ∀ d, ρ[i]? ≠ some (SV.mp d)
  | j :: r, ρ, i, h, m, d, e => by
    rw [okBo] at h
    obtain ⟨h1, h2⟩ := Bool.and_eq_true_iff.mp h
    rcases List.mem_cons.mp m with rfl | m
    · rw [e] at h1
      cases h1
    · exact okBo_not h2 m d e
theorem RX.walk (ok : OkF G fr ρ σ H) {bs : List Nat} (hb : okBo bs ρ = true) : ∀ {as : AL} {ds full : List D} {vs : List V}, (∀ i ∈ bors as, i ∈ bs) → muAt as = none → RX G.B (vis fr ρ σ H) σ as ds vs → MZ.fill as ds ρ = some full → IRepL G fr (lockL bs ρ) σ H full vs
  | .nil, _, _, _, _, _, h, e => by
    obtain ⟨rfl, rfl⟩ := h
    rw [MZ.fill] at e
    cases e
    rfl
  | .ex _ r, _, _, _, m, n, h, e => by
    obtain ⟨d, ds, v, vs, rfl, rfl, h1, h2⟩ := h
    rw [MZ.fill] at e
    obtain ⟨f, e1, rfl⟩ := Option.map_eq_some_iff.mp e
    exact ⟨v, vs, rfl, irep_of (h1.mono (lock_step ok bs).ext), RX.walk ok hb (as := r) m n h2 e1⟩
  | .bo i r, _, _, _, m, n, h, e => by
    obtain ⟨v, vs, rfl, h1, h2⟩ := h
    rw [MZ.fill] at e
    obtain ⟨d, e0, e⟩ := Option.bind_eq_some_iff.mp e
    obtain ⟨f, e1, rfl⟩ := Option.map_eq_some_iff.mp e
    have mi : i ∈ bs := m i (List.mem_cons_self)
    exact ⟨v, vs, rfl, irep_slot ok mi (okBo_not hb mi) e0 h1, RX.walk ok hb (as := r) (fun j q => m j (List.mem_cons_of_mem _ q)) n h2 e1⟩
  | .mu i r, _, _, _, _, n, _, _ => by cases n
/-- an iterator that walks these items, whatever happens meanwhile -/
def JOk (G : Gb) (fr : Fr) (ρ : Env) (σ : L2.St) (H : Hp) (items : List D) (J : It) : Prop := ∀ fr' ρ' σ' H', Later G fr ρ σ H fr' ρ' σ' H' →
  (∀ i d, items[i]? = some d → J.go i H' ∧ ∀ x H'', J.yld i H' x H'' → Step G fr' ρ' σ' H' ρ' σ' H'' ∧ Rep G.B (vis fr' ρ' σ' H'') d x) ∧ J.stop items.length H'
theorem jok_list {l : List D} {a : Addr} (ok : OkF G fr ρ σ H) (h : LAt G fr ρ σ H l a) : JOk G fr ρ σ H l (Itl G.K a) := fun fr' ρ' σ' H' s => by
  obtain ⟨xs, h1, h2⟩ := (h.step s).get s.ok
  refine ⟨fun i d e => ?_, ⟨xs, .of h1, by rw [h2.length]; exact Nat.le_refl _⟩⟩
  obtain ⟨x, e1, e2⟩ := h2.get e
  refine ⟨⟨xs, x, .of h1, e1⟩, fun y H'' z => ?_⟩
  obtain ⟨rfl, z⟩ := z
  have := z xs (.of h1)
  rw [e1] at this
  cases this
  exact ⟨.refl s.ok, e2⟩
theorem jok_tup {l : List D} {a : Addr} (ok : OkF G fr ρ σ H) (h : TAt G fr ρ σ H l a) : JOk G fr ρ σ H l (Itt G.K a) := fun fr' ρ' σ' H' s => by
  obtain ⟨xs, h1, h2⟩ := h.step s
  have h3 : SqT G.K H' a xs := G.hK ▸ ext_sqT vis_ext h1
  refine ⟨fun i d e => ?_, ⟨xs, h3, by rw [h2.length]; exact Nat.le_refl _⟩⟩
  obtain ⟨x, e1, e2⟩ := h2.get e
  refine ⟨⟨xs, x, h3, e1⟩, fun y H'' z => ?_⟩
  obtain ⟨rfl, z⟩ := z
  have := z xs h3
  rw [e1] at this
  cases this
  exact ⟨.refl s.ok, e2⟩
theorem rng_get {a : Int} {n i : Nat} {d : D} (h : (rng a n)[i]? = some d) : i < n ∧ d = .int (a + i) := by
  unfold rng at h
  rw [List.getElem?_map] at h
  obtain ⟨k, e, rfl⟩ := Option.map_eq_some_iff.mp h
  have hl := get_lt e
  rw [List.length_range] at hl
  rw [List.getElem?_range hl] at e
  cases e
  exact ⟨hl, rfl⟩
theorem rng_len {a : Int} {n : Nat} : (rng a n).length = n := by unfold rng; rw [List.length_map, List.length_range]
theorem jok_rng {lo : Int} {n : Nat} (ok : OkF G fr ρ σ H) : JOk G fr ρ σ H (rng lo n) (Itr lo n) := fun fr' ρ' σ' H' s => by
  refine ⟨fun i d e => ?_, ?_⟩
  · obtain ⟨h1, rfl⟩ := rng_get e
    refine ⟨h1, fun x H'' z => ?_⟩
    obtain ⟨rfl, rfl⟩ := z
    exact ⟨.refl s.ok, rep_int⟩
  · rw [rng_len]
    exact Nat.le_refl n
theorem jok_enum {l : List D} {a : Addr} (ok : OkF G fr ρ σ H) (h : LAt G fr ρ σ H l a) : JOk G fr ρ σ H (((List.range l.length).zip l).map fun (p : Nat × D) => .tup [.int p.1, p.2]) (Ite G.K a) := fun fr' ρ' σ' H' s => by
  obtain ⟨xs, h1, h2⟩ := (h.step s).get s.ok
  refine ⟨fun i d e => ?_, ⟨xs, .of h1, by rw [h2.length]; simp⟩⟩
  rw [List.getElem?_map] at e
  obtain ⟨⟨k, d0⟩, e', rfl⟩ := Option.map_eq_some_iff.mp e
  obtain ⟨ek, ed⟩ := List.getElem?_zip_eq_some.mp e'
  have hl := get_lt ek
  rw [List.length_range] at hl
  rw [List.getElem?_range hl] at ek
  cases ek
  obtain ⟨x, e1, e2⟩ := h2.get ed
  refine ⟨⟨xs, x, .of h1, e1⟩, fun y H'' z => ?_⟩
  obtain ⟨T, x', rfl, n, rfl, z⟩ := z
  have := z xs (.of h1)
  rw [e1] at this
  cases this
  exact ⟨s.ok.laid n, mk_tup s.ok n (RepL.cons rep_int (RepL.cons e2 (RepL.nil.mpr rfl)))⟩
theorem jok_zip {l m : List D} {a b : Addr} (ok : OkF G fr ρ σ H) (h : LAt G fr ρ σ H l a) (h' : LAt G fr ρ σ H m b) : JOk G fr ρ σ H ((l.zip m).map fun p => .tup [p.1, p.2]) (Itz G.K a b) := fun fr' ρ' σ' H' s => by
  obtain ⟨xs, h1, h2⟩ := (h.step s).get s.ok
  obtain ⟨ys, k1, k2⟩ := (h'.step s).get s.ok
  refine ⟨fun i d e => ?_, ⟨xs, ys, .of h1, .of k1, by rw [h2.length, k2.length, List.length_map, List.length_zip]; omega⟩⟩
  rw [List.getElem?_map] at e
  obtain ⟨⟨d1, d2⟩, e', rfl⟩ := Option.map_eq_some_iff.mp e
  obtain ⟨ea, eb⟩ := List.getElem?_zip_eq_some.mp e'
  obtain ⟨x, e1, e2⟩ := h2.get ea
  obtain ⟨y, f1, f2⟩ := k2.get eb
  refine ⟨⟨xs, ys, x, y, .of h1, .of k1, e1, f1⟩, fun w H'' z => ?_⟩
  obtain ⟨T, x', y', rfl, n, rfl, z, z'⟩ := z
  have := z xs (.of h1)
  rw [e1] at this
  cases this
  have := z' ys (.of k1)
  rw [f1] at this
  cases this
  exact ⟨s.ok.laid n, mk_tup s.ok n (RepL.cons e2 (RepL.cons f2 (RepL.nil.mpr rfl)))⟩
theorem jok_zipT {l m : List D} {a b : Addr} (ok : OkF G fr ρ σ H) (h : TAt G fr ρ σ H l a) (h' : TAt G fr ρ σ H m b) : JOk G fr ρ σ H ((l.zip m).map fun p => .tup [p.1, p.2]) (ItzT G.K a b) := fun fr' ρ' σ' H' s => by
  obtain ⟨xs, h1, h2⟩ := h.step s
  obtain ⟨ys, k1, k2⟩ := h'.step s
  have h3 : SqT G.K H' a xs := G.hK ▸ ext_sqT vis_ext h1
  have k3 : SqT G.K H' b ys := G.hK ▸ ext_sqT vis_ext k1
  refine ⟨fun i d e => ?_, ⟨xs, ys, h3, k3, by rw [h2.length, k2.length, List.length_map, List.length_zip]; omega⟩⟩
  rw [List.getElem?_map] at e
  obtain ⟨⟨d1, d2⟩, e', rfl⟩ := Option.map_eq_some_iff.mp e
  obtain ⟨ea, eb⟩ := List.getElem?_zip_eq_some.mp e'
  obtain ⟨x, e1, e2⟩ := h2.get ea
  obtain ⟨y, f1, f2⟩ := k2.get eb
  refine ⟨⟨xs, ys, x, y, h3, k3, e1, f1⟩, fun w H'' z => ?_⟩
  obtain ⟨T, x', y', rfl, n, rfl, z, z'⟩ := z
  have := z xs h3
  rw [e1] at this
  cases this
  have := z' ys k3
  rw [f1] at this
  cases this
  exact ⟨s.ok.laid n, mk_tup s.ok n (RepL.cons e2 (RepL.cons f2 (RepL.nil.mpr rfl)))⟩
end
end MZ
end
section
set_option maxRecDepth 100000
set_option maxHeartbeats 2000000
namespace MZ
open PySem PySem.Spec PyProof.Rows L2 LamX MX RZ
/-- what is asked behind an iterable -/
def RIok (G : Gb) (fr : Fr) (k : ItK) (as : AL) (ρ : Env) (σ : L2.St) (H : Hp) (o : Out (List D)) (R : It → Hp → Prop) : Prop := match o with
  | .ok ds ρ1 => match (fill as ds ρ1).bind (itR k) with
    | some items => okBo (bors as) ρ1 = true ∧ ∀ J H', Step G fr ρ σ H ρ1 σ H' → JOk G fr (lockL (bors as) ρ1) σ H' items J → R J H'
    | none => False
  | .exc k => fr.ek k
  | .bad => False
def tI (G : Gb) (cf : FnI) (lf : Nat → Env → Out D) (fr : Fr) (k : ItK) (as : AL) : TI := fun σ H R => ∃ ρ, OkF G fr ρ σ H ∧ RIok G fr k as ρ σ H (evalX cf lf as ρ) R
def EI (G : Gb) (cf : FnI) (lf : Nat → Env → Out D) (S : SC) (tg iter : Expr) (k : ItK) (as : AL) : Prop := ∀ fr X, CxS G S fr X → PI X tg iter (tI G cf lf fr k as)
section
variable {G : Gb} {cf : FnI} {lf : Nat → Env → Out D} {S : SC} {pos : Pos} {tg iter a b e : Expr} {as : AL} {fr : Fr} {ρ ρ1 ρ2 : Env} {σ σ1 : L2.St} {H H1 : Hp}
/-- from operands to the walk -/
theorem ti_fold {k : ItK} {R : It → Hp → Prop} (hm : muAt as = none) (ok : OkF G fr ρ σ H) (h : RIok G fr k as ρ σ H (evalX cf lf as ρ) R) {Q : List V → Hp → Prop}
    (q : ∀ ds full items ρ1 vs H1, evalX cf lf as ρ = .ok ds ρ1 → MZ.fill as ds ρ1 = some full → itR k full = some items → Step G fr ρ σ H ρ1 σ H1 → IRepL G fr (lockL (bors as) ρ1) σ H1 full vs → (∀ J H', Step G fr ρ1 σ H1 ρ1 σ H' → JOk G fr (lockL (bors as) ρ1) σ H' items J → R J H') → Q vs H1) : tXc G fr cf lf as σ H Q := by
  refine tX_fold ok ?_
  cases hx : evalX cf lf as ρ with
  | bad => rw [hx] at h; exact h
  | exc k => rw [hx] at h; exact h
  | ok ds ρ1 =>
    rw [hx] at h
    simp only [RIok] at h
    intro vs H1 s1 rx
    cases hf : MZ.fill as ds ρ1 with
    | none => rw [hf] at h; exact h.elim
    | some full =>
      rw [hf] at h
      simp only [Option.bind] at h
      cases hi : itR k full with
      | none => rw [hi] at h; exact h.elim
      | some items =>
        rw [hi] at h
        exact q ds full items ρ1 vs H1 hx hf hi s1 (rx.walk s1.ok h.1 (fun _ m => m) hm hf) fun J H' s' j => h.2 J H' (s1.trans s') j
theorem lock_ok (ok : OkF G fr ρ σ H) : OkF G fr (lockL (bors as) ρ) σ H := (lock_step ok _).ok
/-- the data of one operand that is walked, told ahead -/
theorem ei_seq (he : EO G cf lf S e as) (hl : as.len = 1) (hm : muAt as = none) : EI G cf lf S tg e .seq as := fun fr X c => ⟨fun pins s σ H R I ⟨ρ, ok, h⟩ => by
  have key : (∃ ds ρ1 l, evalX cf lf as ρ = .ok ds ρ1 ∧ MZ.fill as ds ρ1 = some [.tup l]) ∨ ¬ (∃ ds ρ1 l, evalX cf lf as ρ = .ok ds ρ1 ∧ MZ.fill as ds ρ1 = some [.tup l]) := Classical.em _
  rcases key with ⟨ds, ρ1, l, hx, hf⟩ | key
  · refine (pi_tup (he fr X c)).run pins s σ H R I ?_
    have := tXc_one hl (ti_fold hm ok h (Q := fun vs H1 => ∃ x, vs = [x] ∧ ∃ a, x = .ref a ∧ (∃ xs, SqT X.K H1 a xs) ∧ R (Itt X.K a) H1) fun ds' full items ρ1' vs H1 hx' hf' hi s1 ir k => by
      rw [hx] at hx'
      cases hx'
      rw [hf] at hf'
      cases hf'
      cases hi
      obtain ⟨v, rfl, r⟩ := ir.one
      change Rep _ _ _ _ at r
      simp only [Rep] at r
      obtain ⟨a, xs, rfl, h1, h2⟩ := r
      have hT := c.K ▸ G.hK ▸ ext_sqT vis_ext h1
      exact ⟨_, rfl, a, rfl, ⟨xs, hT⟩, c.K ▸ k _ H1 (.refl s1.ok) (jok_tup (lock_ok s1.ok) ⟨xs, h1, h2⟩)⟩)
    refine tO_mono (fun v H' z => ?_) this
    obtain ⟨x, e, z⟩ := z
    cases e
    exact z
  · refine (pi_list (he fr X c)).run pins s σ H R I ?_
    have := tXc_one hl (ti_fold hm ok h (Q := fun vs H1 => ∃ x, vs = [x] ∧ ∃ a, x = .ref a ∧ (∃ xs, SqL X.K H1 a xs) ∧ R (Itl X.K a) H1) fun ds' full items ρ1' vs H1 hx' hf' hi s1 ir k => by
      change seqR full = some items at hi
      unfold seqR at hi
      split at hi
      · obtain ⟨v, rfl, r⟩ := ir.one
        cases hi
        obtain ⟨a, rfl, r⟩ := r
        obtain ⟨xs, h1, h2⟩ := r.get (lock_ok s1.ok)
        exact ⟨_, rfl, a, rfl, ⟨xs, .of h1⟩, c.K ▸ k _ H1 (.refl s1.ok) (jok_list (lock_ok s1.ok) r)⟩
      · exact (key ⟨ds', ρ1', _, hx', hf'⟩).elim
      · cases hi)
    refine tO_mono (fun v H' z => ?_) this
    obtain ⟨x, e, z⟩ := z
    cases e
    exact z⟩
theorem irep_int {i : Int} {v : V} (r : IRep G fr ρ σ H (.int i) v) : v = .int i := by
  change Rep _ _ _ _ at r
  simpa only [Rep] using r
theorem line_62 : (line : Int) < 2 ^ 62 := by decide
theorem ei_range1 {p : Pos} (hg : S.sc.names.lookup ("range" : Str) = some .globalImplicit) (hn : G.mg "range" = none) (he : EA G cf lf S [a] as) (hm : muAt as = none) (hs : ∀ env : PySem.Env, starEach [a] env = [(false, eval a env)]) : EI G cf lf S tg (.Call (.Name "range" p) [a] [] pos) .range1 as := fun fr X c => ⟨fun pins s σ H R I ⟨ρ, ok, h⟩ => by
  refine (pi_range1 (c.gl hg) (c.hm hn) (he fr X c) (hs _)).run pins s σ H R I ?_
  refine ti_fold hm ok h fun ds full items ρ1 vs H1 hx hf hi s1 ir k => ?_
  change rng1R full = some items at hi
  unfold rng1R at hi
  split at hi
  · rename_i n
    obtain ⟨v, rfl, r⟩ := ir.one
    split at hi <;> cases hi
    rename_i hz
    have := line_62
    exact ⟨n, by rw [irep_int r], by omega, by omega, k _ H1 (.refl s1.ok) (jok_rng (lock_ok s1.ok))⟩
  · cases hi⟩
theorem ei_range2 {p : Pos} (hg : S.sc.names.lookup ("range" : Str) = some .globalImplicit) (hn : G.mg "range" = none) (he : EA G cf lf S [a, b] as) (hm : muAt as = none) (hs : ∀ env : PySem.Env, starEach [a, b] env = [(false, eval a env), (false, eval b env)]) (hs2 : ∀ env : PySem.Env, starEach [b] env = [(false, eval b env)]) : EI G cf lf S tg (.Call (.Name "range" p) [a, b] [] pos) .range2 as := fun fr X c => ⟨fun pins s σ H R I ⟨ρ, ok, h⟩ => by
  refine (pi_range2 (c.gl hg) (c.hm hn) (he fr X c) (hs _) (hs2 _)).run pins s σ H R I ?_
  refine ti_fold hm ok h fun ds full items ρ1 vs H1 hx hf hi s1 ir k => ?_
  change rng2R full = some items at hi
  unfold rng2R at hi
  split at hi
  · rename_i n m
    obtain ⟨v, w, rfl, r, r'⟩ := ir.two
    split at hi <;> cases hi
    rename_i hz
    have := line_62
    exact ⟨n, m, by rw [irep_int r, irep_int r'], ⟨by omega, by omega, by omega, by omega⟩, k _ H1 (.refl s1.ok) (jok_rng (lock_ok s1.ok))⟩
  · cases hi⟩
theorem ei_enum {p tpos : Pos} {elts : List Expr} {kk : Nat} (hg : S.sc.names.lookup ("enumerate" : Str) = some .globalImplicit) (hn : G.mg "enumerate" = none) (he : EA G cf lf S [a] as) (hm : muAt as = none) (hs : ∀ env : PySem.Env, starEach [a] env = [(false, eval a env)]) : EI G cf lf S (.Tuple elts kk tpos) (.Call (.Name "enumerate" p) [a] [] pos) .enum as := fun fr X c => ⟨fun pins s σ H R I ⟨ρ, ok, h⟩ => by
  refine (pi_enum (c.gl hg) (c.hm hn) (he fr X c) (hs _)).run pins s σ H R I ?_
  refine ti_fold hm ok h fun ds full items ρ1 vs H1 hx hf hi s1 ir k => ?_
  change enumR full = some items at hi
  unfold enumR at hi
  split at hi
  · obtain ⟨v, rfl, r⟩ := ir.one
    cases hi
    obtain ⟨a, rfl, r⟩ := r
    obtain ⟨xs, h1, h2⟩ := r.get (lock_ok s1.ok)
    exact ⟨a, xs, rfl, .of h1, c.K ▸ k _ H1 (.refl s1.ok) (jok_enum (lock_ok s1.ok) r)⟩
  · cases hi⟩
theorem ei_zip {p tpos : Pos} {elts : List Expr} {kk : Nat} (hg : S.sc.names.lookup ("zip" : Str) = some .globalImplicit) (hn : G.mg "zip" = none) (he : EA G cf lf S [a, b] as) (hm : muAt as = none) (hs : ∀ env : PySem.Env, starEach [a, b] env = (false, eval a env) :: starEach [b] env) (hpl : ∀ env : PySem.Env, (backTo pos (starEach [b] env)).any (·.1) = false) : EI G cf lf S (.Tuple elts kk tpos) (.Call (.Name "zip" p) [a, b] [] pos) .zip as := fun fr X c => ⟨fun pins s σ H R I ⟨ρ, ok, h⟩ => by
  refine (pi_zipA (c.gl hg) (c.hm hn) (he fr X c) (hs _) (hpl _)).run pins s σ H R I ?_
  refine ti_fold hm ok h fun ds full items ρ1 vs H1 hx hf hi s1 ir k => ?_
  change zipR full = some items at hi
  unfold zipR at hi
  split at hi
  · obtain ⟨v, w, rfl, r, r'⟩ := ir.two
    cases hi
    obtain ⟨a, rfl, r⟩ := r
    obtain ⟨b, rfl, r'⟩ := r'
    obtain ⟨xs, h1, h2⟩ := r.get (lock_ok s1.ok)
    obtain ⟨ys, k1, k2⟩ := r'.get (lock_ok s1.ok)
    exact ⟨a, b, xs, ys, rfl, .inl ⟨.of h1, .of k1, c.K ▸ k _ H1 (.refl s1.ok) (jok_zip (lock_ok s1.ok) r r')⟩⟩
  · obtain ⟨v, w, rfl, r, r'⟩ := ir.two
    cases hi
    change Rep _ _ _ _ at r r'
    simp only [Rep] at r r'
    obtain ⟨a, xs, rfl, h1, h2⟩ := r
    obtain ⟨b, ys, rfl, k1, k2⟩ := r'
    have hT := c.K ▸ G.hK ▸ ext_sqT vis_ext h1
    have kT := c.K ▸ G.hK ▸ ext_sqT vis_ext k1
    exact ⟨a, b, xs, ys, rfl, .inr ⟨hT, kT, c.K ▸ k _ H1 (.refl s1.ok) (jok_zipT (lock_ok s1.ok) ⟨xs, h1, h2⟩ ⟨ys, k1, k2⟩)⟩⟩
  · cases hi⟩
/-! ### for, while -/
theorem RSok.before {r : Rs} {D : Ends} (s : Step G fr ρ σ H ρ1 σ1 H1) (h : RSok G fr ρ σ H r D) : RSok G fr ρ1 σ1 H1 r D := h.after s
def onward (ρ1 : Env) (bs : List Nat) (r : Rs) : Rs := r.seq fun ρ2 => .next (unlockL ρ1 bs ρ2)
theorem for_turns {p : Pt} {body : SL} {bs : List Nat} {items : List D} {J : It} {g : TG} {tb : TS} {Dn : Ends} (ok1 : OkF G fr ρ1 σ H1) (s1 : Step G fr ρ σ H ρ1 σ H1) (hg : g = tG G fr p) (hb : tb = tS G fr (evalSL cf lf body))
    (j : JOk G fr (lockL bs ρ1) σ H1 items J) (h : RSok G fr ρ σ H (onward ρ1 bs (forF p (evalSL cf lf body) items (lockL bs ρ1))) Dn) :
    ∃ W : Nat → Nat → L2.St → Hp → Prop, (∃ m, W 0 m σ H1) ∧ ∀ i m σ H, W i m σ H →
      (J.stop i H ∧ Dn.nx σ H) ∨ (J.go i H ∧ ∃ N : L2.St → Hp → Prop, (∀ σ' H', N σ' H' → ∃ m', m' < m ∧ W (i + 1) m' σ' H') ∧ ∀ x H', J.yld i H x H' → g x σ H' fun σ2 H2 => tb { Dn with nx := N, ct := N, bk := Dn.nx } σ2 H2) := by
  subst hg hb
  have sl := lock_step ok1 bs
  have fin : ∀ {ρ' σ' H'}, Step G fr (lockL bs ρ1) σ H1 ρ' σ' H' → Step G fr ρ σ H (unlockL ρ1 bs ρ') σ' H' := fun s' => s1.trans (unlock_step ok1 s')
  refine ⟨fun i m σ' H' => ∃ ρ', Step G fr (lockL bs ρ1) σ H1 ρ' σ' H' ∧ m = items.length - i ∧ i ≤ items.length ∧ RSok G fr ρ σ H (onward ρ1 bs (forF p (evalSL cf lf body) (items.drop i) ρ')) Dn, ⟨items.length, lockL bs ρ1, .refl sl.ok, by omega, Nat.zero_le _, h⟩, fun i m σ' H' w => ?_⟩
  obtain ⟨ρ', s', hm, hi, h⟩ := w
  obtain ⟨jg, js⟩ := j fr ρ' σ' H' s'.later
  by_cases e : i = items.length
  · subst e
    rw [List.drop_length, forF] at h
    exact .inl ⟨js, h σ' H' (fin s')⟩
  · have hlt : i < items.length := by omega
    refine .inr ⟨(jg i items[i] (List.getElem?_eq_getElem hlt)).1, fun σ3 H3 => ∃ ρ3, Step G fr (lockL bs ρ1) σ H1 ρ3 σ3 H3 ∧ RSok G fr ρ σ H (onward ρ1 bs (forF p (evalSL cf lf body) (items.drop (i + 1)) ρ3)) Dn, fun σ3 H3 ⟨ρ3, s3, r3⟩ => ⟨items.length - (i + 1), by omega, ρ3, s3, rfl, by omega, r3⟩, fun x H'' y => ?_⟩
    obtain ⟨sy, ry⟩ := (jg i items[i] (List.getElem?_eq_getElem hlt)).2 x H'' y
    rw [List.drop_eq_getElem_cons hlt, forF] at h
    refine ⟨ρ', items[i], sy.ok, ry, ?_⟩
    cases hb : bindP p items[i] ρ' with
    | none => rw [hb] at h; exact h.elim
    | some ρ2 =>
      rw [hb] at h
      simp only [ofE, Rs.seq] at h
      refine fun σ2 s2 _ => ⟨ρ2, s2.ok, ?_⟩
      have st := s'.trans (sy.trans s2)
      cases hr : evalSL cf lf body ρ2 with
      | bad => rw [hr] at h; exact h.elim
      | exc k => rw [hr] at h; exact h
      | next ρ3 => rw [hr] at h; exact fun σ3 H3 s3 => ⟨ρ3, st.trans s3, h⟩
      | cont ρ3 => rw [hr] at h; exact fun σ3 H3 s3 => ⟨ρ3, st.trans s3, h⟩
      | brk ρ3 => rw [hr] at h; exact fun σ3 H3 s3 => h σ3 H3 (fin (st.trans s3))
      | ret d ρ3 => rw [hr] at h; exact fun v σ3 H3 s3 r3 => h v σ3 H3 (s1.trans (sl.trans (st.trans s3))) r3
theorem es_for {k : ItK} {p : Pt} {body : List Stmt} {sb : SL} (hkd : S.kd = 0) (hi : EI G cf lf S tg iter k as) (hg : EG G S tg p) (hb : ESs G cf lf S body sb) (hs : ∀ (env : PySem.Env) x, foldedSetIterable iter env x = pure x) : ES G cf lf S (.For tg iter body [] pos) (.fors p k as sb) := fun fr X c =>
  ps_imp (ps_for (c.po hkd) c.calm (hi fr X c) (hg fr X c) (hb fr X c) (hs _)) fun Dn σ H ⟨ρ, ok, h⟩ => by
    rw [evalS] at h
    refine ⟨ρ, ok, ?_⟩
    cases hx : evalX cf lf as ρ with
    | bad => rw [hx] at h; exact h
    | exc k => rw [hx] at h; exact h
    | ok ds ρ1 =>
      rw [hx] at h
      simp only [Out.rs] at h
      cases hf : (MZ.fill as ds ρ1).bind (itR k) with
      | none => rw [hf] at h; exact h.elim
      | some items =>
        rw [hf] at h
        simp only at h
        cases hbo : okBo (bors as) ρ1 with
        | false => rw [hbo] at h; exact h.elim
        | true =>
          rw [hbo] at h
          simp only [RIok, hf]
          exact ⟨hbo, fun J H' s1 j => for_turns s1.ok s1 rfl rfl j h⟩
theorem es_while {t : Expr} {c1 : C} {body : List Stmt} {sb : SL} (hkd : S.kd = 0) (ht : ET G cf lf S t c1) (hb : ESs G cf lf S body sb) : ES G cf lf S (.While t body [] pos) (.while c1 sb) := fun fr X c =>
  ps_imp (ps_while (c.po hkd) (ht fr X c) (hb fr X c)) fun Dn σ H ⟨ρ, ok, h⟩ => by
    rw [evalS] at h
    refine ⟨fun m σ' H' => ∃ ρ', Step G fr ρ σ H ρ' σ' H' ∧ RSok G fr ρ σ H (whileF (evalE cf lf c1) (evalSL cf lf sb) m ρ') Dn, ⟨mostW, ρ, .refl ok, h⟩, fun m σ' H' w => ?_⟩
    obtain ⟨ρ', s', h⟩ := w
    refine ⟨ρ', s'.ok, ?_⟩
    cases m with
    | zero => exact h.elim
    | succ m =>
      rw [whileF] at h
      cases ho : evalE cf lf c1 ρ' with
      | bad => rw [ho] at h; exact h
      | exc k => rw [ho] at h; exact h
      | ok d ρ1 =>
        rw [ho] at h
        simp only [Out.rs] at h
        cases hd : truD d with
        | none => rw [hd] at h; exact h.elim
        | some k =>
          rw [hd] at h
          refine ⟨k, hd, fun H1 s1 => ?_⟩
          cases k with
          | false => exact h σ' H1 (s'.trans s1)
          | true =>
            refine ⟨fun σ3 H3 => ∃ ρ3, Step G fr ρ σ H ρ3 σ3 H3 ∧ RSok G fr ρ σ H (whileF (evalE cf lf c1) (evalSL cf lf sb) m ρ3) Dn, fun σ3 H3 ⟨ρ3, s3, r3⟩ => ⟨m, Nat.lt_succ_self m, ρ3, s3, r3⟩, ρ1, s1.ok, ?_⟩
            simp only at h
            cases hr : evalSL cf lf sb ρ1 with
            | bad => rw [hr] at h; exact h.elim
            | exc k => rw [hr] at h; exact h
            | next ρ3 => rw [hr] at h; exact fun σ3 H3 s3 => ⟨ρ3, s'.trans (s1.trans s3), h⟩
            | cont ρ3 => rw [hr] at h; exact fun σ3 H3 s3 => ⟨ρ3, s'.trans (s1.trans s3), h⟩
            | brk ρ3 => rw [hr] at h; exact fun σ3 H3 s3 => h σ3 H3 (s'.trans (s1.trans s3))
            | ret d ρ3 => rw [hr] at h; exact fun v σ3 H3 s3 r3 => h v σ3 H3 (s'.trans (s1.trans s3)) r3
end
end MZ
end
section
set_option maxRecDepth 100000
set_option maxHeartbeats 2000000
namespace MZ
open PySem PySem.Spec PyProof.Rows L2 LamX MX RZ
theorem wipeE_get : ∀ (own : List Nat) (ρ : Env) (j : Nat), (wipeE own ρ)[j]? = if j ∈ own then (ρ[j]?).map (fun _ => SV.no) else ρ[j]?
  | [], ρ, j => by simp [wipeE]
  | i :: r, ρ, j => by
    rw [wipeE, wipeE_get r]
    by_cases e : i = j
    · subst e
      by_cases m : i ∈ r
      · simp [m, List.getElem?_set_self']; rfl
      · simp [m, List.getElem?_set_self']; rfl
    · rw [set_ne e]
      have : j ∈ i :: r ↔ j ∈ r := ⟨fun z => (List.mem_cons.mp z).resolve_left fun y => e y.symm, List.mem_cons_of_mem _⟩
      simp [this]
theorem wipe_get : ∀ (own : List Nat) (σ : L2.St) (j : Nat), (wipe σ own)[j]? = if j ∈ own then (σ[j]?).map (fun _ => none) else σ[j]?
  | [], σ, j => by simp [wipe]
  | i :: r, σ, j => by
    rw [wipe]
    by_cases e : i = j
    · subst e
      rw [List.getElem?_set_self', wipe_get r]
      by_cases m : i ∈ r
      · simp [m]; rfl
      · simp [m]; rfl
    · rw [set_ne e, wipe_get r]
      have : j ∈ i :: r ↔ j ∈ r := ⟨fun z => (List.mem_cons.mp z).resolve_left fun y => e y.symm, List.mem_cons_of_mem _⟩
      simp [this]
theorem backE_get (ρ0 : Env) : ∀ (own : List Nat) (ρ : Env) (j : Nat), (backE ρ0 own ρ)[j]? = if j ∈ own then (ρ[j]?).map (fun _ => ρ0[j]?.getD .no) else ρ[j]?
  | [], ρ, j => by simp [backE]
  | i :: r, ρ, j => by
    rw [backE, backE_get ρ0 r]
    by_cases e : i = j
    · subst e
      by_cases m : i ∈ r
      · simp [m, List.getElem?_set_self']; rfl
      · simp [m, List.getElem?_set_self']; rfl
    · rw [set_ne e]
      have : j ∈ i :: r ↔ j ∈ r := ⟨fun z => (List.mem_cons.mp z).resolve_left fun y => e y.symm, List.mem_cons_of_mem _⟩
      simp [this]
theorem wipeE_out {own : List Nat} {ρ : Env} {j : Nat} (h : j ∉ own) : (wipeE own ρ)[j]? = ρ[j]? := by rw [wipeE_get, if_neg h]
theorem wipe_out {own : List Nat} {σ : L2.St} {j : Nat} (h : j ∉ own) : (wipe σ own)[j]? = σ[j]? := by rw [wipe_get, if_neg h]
theorem backE_out {ρ0 ρ : Env} {own : List Nat} {j : Nat} (h : j ∉ own) : (backE ρ0 own ρ)[j]? = ρ[j]? := by rw [backE_get, if_neg h]
theorem len_of {α : Type} {l m : List α} (h : ∀ j : Nat, (l[j]?).isSome = (m[j]?).isSome) : l.length = m.length := by
  have key : ∀ {a b : List α}, (∀ j : Nat, (a[j]?).isSome = (b[j]?).isSome) → b.length ≤ a.length := fun {a b} h => by
    rcases Nat.lt_or_ge a.length b.length with z | z
    · have := h a.length
      rw [List.getElem?_eq_none (Nat.le_refl _), List.getElem?_eq_getElem z] at this
      cases this
    · exact z
  exact Nat.le_antisymm (key fun j => (h j).symm) (key h)
theorem wipeE_len (own : List Nat) (ρ : Env) : (wipeE own ρ).length = ρ.length := len_of fun j => by
  rw [wipeE_get]
  split <;> simp
theorem backE_len (ρ0 : Env) (own : List Nat) (ρ : Env) : (backE ρ0 own ρ).length = ρ.length := len_of fun j => by
  rw [backE_get]
  split <;> simp
theorem setS_len {ρ ρ' : Env} {i : Nat} {v : SV} (h : setS ρ i v = some ρ') : ρ'.length = ρ.length := by
  unfold setS at h
  split at h <;> first | (cases h; exact List.length_set) | cases h
mutual
theorem bind_len : ∀ {p : Pt} {d : D} {ρ ρ' : Env}, bindP p d ρ = some ρ' → ρ'.length = ρ.length
  | .nm i, d, ρ, ρ', h => by
    rw [bindP] at h
    exact setS_len h
  | .tp l, .tup ds, ρ, ρ', h => by
    rw [bindP] at h
    exact bindL_len h
  | .tp l, .non, _, _, h => by rw [bindP] at h <;> first | cases h | simp
  | .tp l, .bl _, _, _, h => by rw [bindP] at h <;> first | cases h | simp
  | .tp l, .int _, _, _, h => by rw [bindP] at h <;> first | cases h | simp
  | .tp l, .str _, _, _, h => by rw [bindP] at h <;> first | cases h | simp
  | .tp l, .lst _, _, _, h => by rw [bindP] at h <;> first | cases h | simp
  | .tp l, .dic _ _, _, _, h => by rw [bindP] at h <;> first | cases h | simp
  | .tp l, .obj _ _, _, _, h => by rw [bindP] at h <;> first | cases h | simp
  | .tp l, .clo _, _, _, h => by rw [bindP] at h <;> first | cases h | simp
theorem bindL_len : ∀ {p : PtL} {ds : List D} {ρ ρ' : Env}, bindPL p ds ρ = some ρ' → ρ'.length = ρ.length
  | .nil, [], ρ, ρ', h => by
    rw [bindPL] at h
    cases h
    rfl
  | .cons p q, d :: ds, ρ, ρ', h => by
    rw [bindPL] at h
    obtain ⟨ρ1, h1, h2⟩ := Option.bind_eq_some_iff.mp h
    exact (bindL_len h2).trans (bind_len h1)
  | .nil, _ :: _, _, _, h => by rw [bindPL] at h <;> first | cases h | simp
  | .cons _ _, [], _, _, h => by rw [bindPL] at h <;> first | cases h | simp
end
theorem noOwn_not : ∀ {own : List Nat} {ρ : Env}, noOwn own ρ = true → ∀ j ∈ own, ∀ u, ρ[j]? = some u → isOwn u = false := fun {own ρ} h j m u e => by
  have := List.all_eq_true.mp h j m
  rw [e] at this
  simpa using this
section
variable {G : Gb} {fr : Fr} {ρ ρ1 ρ2 : Env} {σ σ1 σ2 : L2.St} {H H1 : Hp} {own : List Nat}
theorem own_wipe {a : Addr} (o : Own (wipeE own ρ) (wipe σ own) a) : ∃ j, j ∉ own ∧ OwnAt ρ σ j a := by
  obtain ⟨j, ⟨w, h1, h2⟩, h3⟩ := o
  by_cases m : j ∈ own
  · rw [wipeE_get, if_pos m] at h1
    obtain ⟨_, _, rfl⟩ := Option.map_eq_some_iff.mp h1
    cases h2
  · rw [wipeE_out m] at h1
    rw [wipe_out m] at h3
    exact ⟨j, m, ⟨w, h1, h2⟩, h3⟩
/-- names forgotten -/
theorem wipe_ok (ok : OkF G fr ρ σ H) (hm : ∀ i a, fr.mt = some (i, a) → i ∉ own) : OkF G fr (wipeE own ρ) (wipe σ own) H ∧ ExtN (vis fr ρ σ H) (vis fr (wipeE own ρ) (wipe σ own) H) := by
  have ho : ∀ a, Own (wipeE own ρ) (wipe σ own) a → Own ρ σ a := fun a o => let ⟨j, _, z⟩ := own_wipe o; ⟨j, z⟩
  have hv : ExtN (vis fr ρ σ H) (vis fr (wipeE own ρ) (wipe σ own) H) := vis_le ho (.refl _)
  have hat : ∀ {j a}, OwnAt (wipeE own ρ) (wipe σ own) j a → OwnAt ρ σ j a := fun {j a} ⟨⟨w, h1, h2⟩, h3⟩ => by
    by_cases m : j ∈ own
    · rw [wipeE_get, if_pos m] at h1
      obtain ⟨_, _, rfl⟩ := Option.map_eq_some_iff.mp h1
      cases h2
    · rw [wipeE_out m] at h1
      rw [wipe_out m] at h3
      exact ⟨⟨w, h1, h2⟩, h3⟩
  refine ⟨⟨by rw [wipeE_len, wipe_length]; exact ok.len, fun j w e => ?_, fun j k a p q => ok.dist j k a (hat p) (hat q), fun a o => ok.nh a (ho a o), ok.hdl, ok.keep, fun j a ⟨⟨w, e1, e2⟩, e3⟩ => ?_, ok.tab, fun j a e => ?_⟩, hv⟩
  · by_cases m : j ∈ own
    · rw [wipeE_get, if_pos m] at e
      obtain ⟨_, _, rfl⟩ := Option.map_eq_some_iff.mp e
      exact trivial
    · rw [wipeE_out m] at e
      rw [wipe_out m]
      exact (ok.slot j w e).mono hv fun _ _ _ _ z => z
  · by_cases m : j ∈ own
    · rw [wipeE_get, if_pos m] at e1
      obtain ⟨_, _, rfl⟩ := Option.map_eq_some_iff.mp e1
      cases e2
    · rw [wipeE_out m] at e1
      rw [wipe_out m] at e3
      exact ok.own0 j a ⟨⟨w, e1, e2⟩, e3⟩
  · have m := hm j a e
    rw [wipeE_out m, wipe_out m]
    exact ok.mts j a e
/-- names back -/
theorem back_ok {V : Hp} {ρ0 : Env} (ok : OkF G fr (wipeE own ρ) (wipe σ own) H) (hm : ∀ i a, fr.mt = some (i, a) → i ∉ own) (e : ExtN V (vis fr (wipeE own ρ) (wipe σ own) H))
    (hb : ∀ j ∈ own, ∀ u, ρ0[j]? = some u → isOwn u = false ∧ ∀ d, u = .pu d → ∃ x, σ[j]? = some (some x) ∧ Rep G.B V d x) : OkF G fr (backE ρ0 own ρ) σ H ∧ ExtN (vis fr (wipeE own ρ) (wipe σ own) H) (vis fr (backE ρ0 own ρ) σ H) := by
  have hin : ∀ {j w}, j ∈ own → (backE ρ0 own ρ)[j]? = some w → w = .no ∨ ρ0[j]? = some w := fun {j w} m h => by
    rw [backE_get, if_pos m] at h
    obtain ⟨_, _, rfl⟩ := Option.map_eq_some_iff.mp h
    cases ρ0[j]? with
    | none => exact .inl rfl
    | some u => exact .inr rfl
  have hat : ∀ {j a}, OwnAt (backE ρ0 own ρ) σ j a → OwnAt (wipeE own ρ) (wipe σ own) j a := fun {j a} ⟨⟨w, h1, h2⟩, h3⟩ => by
    by_cases m : j ∈ own
    · rcases hin m h1 with rfl | z
      · cases h2
      · rw [(hb j m w z).1] at h2
        cases h2
    · rw [backE_out m] at h1
      exact ⟨⟨w, by rw [wipeE_out m]; exact h1, h2⟩, by rw [wipe_out m]; exact h3⟩
  have ho : ∀ a, Own (backE ρ0 own ρ) σ a → Own (wipeE own ρ) (wipe σ own) a := fun a ⟨j, z⟩ => ⟨j, hat z⟩
  have hv : ExtN (vis fr (wipeE own ρ) (wipe σ own) H) (vis fr (backE ρ0 own ρ) σ H) := vis_le ho (.refl _)
  refine ⟨⟨by rw [backE_len]; have := ok.len; rw [wipeE_len, wipe_length] at this; exact this, fun j w q => ?_, fun j k a p q => ok.dist j k a (hat p) (hat q), fun a o => ok.nh a (ho a o), ok.hdl, ok.keep, fun j a ⟨⟨w, e1, e2⟩, e3⟩ => ?_, ok.tab, fun j a q => ?_⟩, hv⟩
  · by_cases m : j ∈ own
    · rcases hin m q with rfl | z
      · exact trivial
      · obtain ⟨n, k⟩ := hb j m w z
        cases w <;> try (cases n; done)
        · exact trivial
        · rename_i d
          obtain ⟨x, x1, x2⟩ := k d rfl
          exact ⟨x, x1, (x2.mono e).mono hv⟩
    · rw [backE_out m] at q
      have := ok.slot j w (by rw [wipeE_out m]; exact q)
      rw [wipe_out m] at this
      exact this.mono hv fun _ _ _ _ z => z
  · by_cases m : j ∈ own
    · rcases hin m e1 with rfl | z
      · cases e2
      · have := (hb j m w z).1
        rw [loose_own e2] at this
        cases this
    · rw [backE_out m] at e1
      exact ok.own0 j a ⟨⟨w, by rw [wipeE_out m]; exact e1, e2⟩, by rw [wipe_out m]; exact e3⟩
  · have m := hm j a q
    have := ok.mts j a q
    rw [wipeE_out m, wipe_out m] at this
    rw [backE_out m]
    exact this
/-! ### a list that grows, hidden meanwhile -/
def frD (fr : Fr) (D : Addr) (xs : List V) : Fr := { fr with hd := fun a => fr.hd a ∨ a = D, H0 := upd fr.H0 D (.lst xs) }
def del (H : Hp) (D : Addr) : Hp := fun b => if b = D then none else H b
theorem del_same {D : Addr} : del H D D = none := by unfold del; rw [if_pos rfl]
theorem del_ne {D b : Addr} (h : b ≠ D) : del H D b = H b := by unfold del; rw [if_neg h]
theorem upd_del {D : Addr} {o : HO} : upd (del H D) D o = upd H D o := by
  funext b
  by_cases e : b = D
  · subst e; rw [upd_same, upd_same]
  · rw [upd_ne e, upd_ne e, del_ne e]
theorem upd_id {D : Addr} {o : HO} (h : H D = some o) : upd H D o = H := by
  funext b
  by_cases e : b = D
  · subst e; rw [upd_same, h]
  · rw [upd_ne e]
structure FreshD (fr : Fr) (D : Addr) : Prop where
  a0 : ¬ fr.A0 D
  hd : ¬ fr.hd D
  h0 : ∀ o, fr.H0 D = some o → ∃ ps, o = .tbl ps
theorem fresh_of (ok : OkF G fr ρ σ H) {D : Addr} (n : H D = none) : FreshD fr D where
  a0 := fun ⟨i, e⟩ => (ok.fr0 n).2 ⟨i, by
    obtain ⟨⟨d, z⟩, q⟩ := ok.mts i D e
    exact ⟨z.elim (fun y => ⟨_, y, rfl⟩) (fun y => ⟨_, y, rfl⟩), q⟩⟩
  hd := (ok.fr0 n).1
  h0 := fun o e => Classical.byContradiction fun y => by
    have := ok.keep D o e (fun ⟨i, e⟩ => (ok.fr0 n).2 ⟨i, by
      obtain ⟨⟨d, z⟩, q⟩ := ok.mts i D e
      exact ⟨z.elim (fun y => ⟨_, y, rfl⟩) (fun y => ⟨_, y, rfl⟩), q⟩⟩) (fun ps z => y ⟨ps, z⟩)
    rw [n] at this
    cases this
theorem hide_eq {p q : Addr → Prop} {H H' : Hp} (h : ∀ a, hide p H a = hide q H' a) : hide p H = hide q H' := funext h
theorem vis_D {D : Addr} {xs : List V} {o : HO} (n : H D = none) : vis (frD fr D xs) ρ σ (upd H D o) = vis fr ρ σ H := by
  funext a
  by_cases e : a = D
  · subst e
    have h1 : vis (frD fr a xs) ρ σ (upd H a o) a = none := by unfold vis hide; rw [if_pos (.inl (.inr rfl))]
    have h2 : vis fr ρ σ H a = none := by unfold vis hide; split <;> first | rfl | exact n
    rw [h1, h2]
  · unfold vis hide
    by_cases k : fr.hd a ∨ Own ρ σ a
    · rw [if_pos k, if_pos (k.imp .inl id)]
    · rw [if_neg k, if_neg (fun z => k (z.imp (fun y => y.resolve_right e) id)), upd_ne e]
theorem enterD (ok : OkF G fr ρ σ H) {D : Addr} (n : H D = none) (xs : List V) : OkF G (frD fr D xs) ρ σ (upd H D (.lst xs)) where
  len := ok.len
  slot := fun i v e => by
    rw [vis_D n]
    exact (ok.slot i v e).mono (.refl _) fun a ys _ _ z => by rw [upd_ne (ne_of_none z n)]; exact z
  dist := ok.dist
  nh := fun a o z => z.elim (ok.nh a o) fun y => by
    subst y
    exact (ok.fr0 n).2 o
  hdl := fun a z => by
    have hD := fresh_of ok n
    by_cases e : a = D
    · subst e
      exact ⟨hD.a0, xs, upd_same⟩
    · obtain ⟨h1, ys, h2⟩ := ok.hdl a (z.resolve_right e)
      exact ⟨h1, ys, by show upd fr.H0 D _ a = _; rw [upd_ne e]; exact h2⟩
  keep := fun a o e k z => by
    by_cases y : a = D
    · subst y
      have : upd fr.H0 a (.lst xs) a = some o := e
      rw [upd_same] at this
      cases this
      exact upd_same
    · have : upd fr.H0 D (.lst xs) a = some o := e
      rw [upd_ne y] at this
      rw [upd_ne y]
      exact ok.keep a o this k z
  own0 := fun i a o => by
    have y : a ≠ D := fun y => by subst y; exact (ok.fr0 n).2 ⟨i, o.own⟩
    refine (ok.own0 i a o).imp id fun k o' e => ?_
    have : upd fr.H0 D (.lst xs) a = some o' := e
    rw [upd_ne y] at this
    exact k o' this
  tab := fun p m => (ok.tab p m).upd n
  mts := ok.mts
theorem leaveD {D : Addr} {xs : List V} (hD : FreshD fr D) (ok : OkF G (frD fr D xs) ρ σ H) : H D = some (.lst xs) ∧ OkF G fr ρ σ (del H D) ∧ vis (frD fr D xs) ρ σ H = vis fr ρ σ (del H D) := by
  have hd : H D = some (.lst xs) := ok.keep D (.lst xs) upd_same hD.a0 (fun ps z => nomatch z)
  have hv : vis (frD fr D xs) ρ σ H = vis fr ρ σ (del H D) := by
    have := vis_D (fr := fr) (ρ := ρ) (σ := σ) (xs := xs) (o := .lst xs) (H := del H D) (D := D) del_same
    rw [upd_del, upd_id hd] at this
    exact this
  have nD : ∀ {a}, Own ρ σ a → a ≠ D := fun o y => ok.nh _ o (.inr y)
  refine ⟨hd, ⟨ok.len, fun i v e => ?_, ok.dist, fun a o z => ok.nh a o (.inl z), fun a z => ?_, fun a o e k z => ?_, fun i a o => ?_, fun p m => ?_, ok.mts⟩, hv⟩
  · rw [← hv]
    have s := ok.slot i v e
    cases v with
    | no => exact trivial
    | pu d => exact s
    | ow d =>
      obtain ⟨a, h1, h2⟩ := s
      exact ⟨a, h1, h2.mono (.refl _) fun ys z => by rw [del_ne (nD ⟨i, ⟨_, e, rfl⟩, h1⟩)]; exact z⟩
    | lk d =>
      obtain ⟨a, h1, h2⟩ := s
      exact ⟨a, h1, h2.mono (.refl _) fun ys z => by rw [del_ne (nD ⟨i, ⟨_, e, rfl⟩, h1⟩)]; exact z⟩
    | mp d =>
      obtain ⟨a, h1, h2⟩ := s
      exact ⟨a, h1, h2.mono (.refl _) fun ys z => by rw [del_ne (nD ⟨i, ⟨_, e, rfl⟩, h1⟩)]; exact z⟩
  · obtain ⟨h1, ys, h2⟩ := ok.hdl a (.inl z)
    have y : a ≠ D := fun y => by subst y; exact hD.hd z
    have : upd fr.H0 D (.lst xs) a = some (.lst ys) := h2
    rw [upd_ne y] at this
    exact ⟨h1, ys, this⟩
  · have y : a ≠ D := fun y => by
      subst y
      obtain ⟨ps, w⟩ := hD.h0 o e
      exact z ps w
    rw [del_ne y]
    refine ok.keep a o ?_ k z
    show upd fr.H0 D _ a = _
    rw [upd_ne y]
    exact e
  · refine (ok.own0 i a o).imp id fun k o' e => k o' ?_
    show upd fr.H0 D _ a = _
    rw [upd_ne (nD ⟨i, o.own⟩)]
    exact e
  · have t := ok.tab p m
    unfold TabOk at t ⊢
    split
    · rename_i y
      rw [y] at t
      obtain ⟨ps, t1, t2⟩ := t
      exact ⟨ps, by rw [del_ne (ne_of t1 hd (fun z => nomatch z))]; exact t1, t2⟩
    · rename_i y z
      rw [z] at t
      obtain ⟨ps, t1, t2, t3⟩ := t
      refine ⟨ps, by rw [del_ne (ne_of t1 hd (fun z => nomatch z))]; exact t1, t2, fun pos cv x => ?_⟩
      obtain ⟨c, c1, c2⟩ := t3 pos cv x
      exact ⟨c, c1, by rw [del_ne (ne_of c2 hd (fun z => nomatch z))]; exact c2⟩
theorem setD {D : Addr} {xs : List V} (ys : List V) (hD : FreshD fr D) (ok : OkF G (frD fr D xs) ρ σ H) : OkF G (frD fr D ys) ρ σ (upd H D (.lst ys)) ∧ vis (frD fr D xs) ρ σ H = vis (frD fr D ys) ρ σ (upd H D (.lst ys)) := by
  obtain ⟨h1, h2, h3⟩ := leaveD hD ok
  have := enterD h2 del_same ys
  rw [upd_del] at this
  refine ⟨this, ?_⟩
  obtain ⟨_, _, h6⟩ := leaveD hD this
  rw [h3, h6]
  congr 1
  funext b
  by_cases e : b = D
  · subst e; rw [del_same, del_same]
  · rw [del_ne e, del_ne e, upd_ne e]
end
end MZ
end
section
set_option maxRecDepth 100000
set_option maxHeartbeats 2000000
namespace MZ
open PySem PySem.Spec PyProof.Rows L2 LamX MX RZ
theorem pe_ex {ι : Sort _} {X : Cx} {e : Expr} {t : ι → TE} (h : ∀ i, PE X e (t i)) : PE X e (fun σ H Q => ∃ i, t i σ H Q) := ⟨fun pins s σ H Q I ⟨i, q⟩ => (h i).run pins s σ H Q I q⟩
theorem pts_ex {ι : Sort _} {X : Cx} {e : List Expr} {t : ι → TT} (h : ∀ i, PTs X e (t i)) : PTs X e (fun σ H Q => ∃ i, t i σ H Q) := ⟨fun pins s σ H Q I ⟨i, q⟩ => (h i).run pins s σ H Q I q⟩
theorem pg_ex {ι : Sort _} {X : Cx} {e : Expr} {t : ι → TG} (h : ∀ i, PG X e (t i)) : PG X e (fun v σ H Q => ∃ i, t i v σ H Q) := ⟨fun pins s σ H v u Q I r ⟨i, q⟩ => (h i).run pins s σ H v u Q I r q⟩
theorem pts_imp {X : Cx} {e : List Expr} {t t' : TT} (h : PTs X e t) (k : ∀ σ H Q, t' σ H Q → t σ H Q) : PTs X e t' := ⟨fun pins s σ H Q I q => h.run pins s σ H Q I (k σ H Q q)⟩
def noX (fr : Fr) : Fr := { fr with ek := fun _ => False }
def frX (x : Bool) (fr : Fr) : Fr := if x then fr else noX fr
section
variable {G : Gb} {fr : Fr} {ρ ρ1 ρ2 : Env} {σ σ1 σ2 : L2.St} {H H1 : Hp} {own : List Nat}
theorem okf_noX (ok : OkF G fr ρ σ H) : OkF G (noX fr) ρ σ H := ⟨ok.len, ok.slot, ok.dist, ok.nh, ok.hdl, ok.keep, ok.own0, ok.tab, ok.mts⟩
theorem okf_unX (ok : OkF G (noX fr) ρ σ H) : OkF G fr ρ σ H := ⟨ok.len, ok.slot, ok.dist, ok.nh, ok.hdl, ok.keep, ok.own0, ok.tab, ok.mts⟩
theorem okf_X {x : Bool} (ok : OkF G fr ρ σ H) : OkF G (frX x fr) ρ σ H := by
  cases x
  · exact okf_noX ok
  · exact ok
theorem okf_X' {x : Bool} (ok : OkF G (frX x fr) ρ σ H) : OkF G fr ρ σ H := by
  cases x
  · exact okf_unX ok
  · exact ok
theorem vis_X {x : Bool} : vis (frX x fr) ρ σ H = vis fr ρ σ H := by cases x <;> rfl
theorem mt_X {x : Bool} : (frX x fr).mt = fr.mt := by cases x <;> rfl
theorem fresh_X {x : Bool} {D : Addr} (h : FreshD fr D) : FreshD (frX x fr) D := by
  cases x
  · exact ⟨h.a0, h.hd, h.h0⟩
  · exact h
end
def blkS (S : SC) (scope : Scope) : SC := { N := S.N, sc := relS scope S.sc, lvl := S.lvl, kd := 1 }
section
variable {G : Gb} {cf : FnI} {lf : Nat → Env → Out D} {S : SC} {pos : Pos} {tg iter elt e : Expr} {ifs : List Expr} {as : AL}
/-- the tests of a comprehension -/
def ETs (G : Gb) (cf : FnI) (lf : Nat → Env → Out D) (S : SC) (ifs : List Expr) (c : C) : Prop := ∀ fr X, CxS G S fr X → PTs X ifs (tT G fr (evalE cf lf c))
theorem ets_nil : ETs G cf lf S [] (.cst (.bl true)) := fun fr X c => pts_imp pts_nil fun σ H Q ⟨ρ, ok, h⟩ => by
  rw [evalE] at h
  obtain ⟨b, hb, h⟩ := h
  cases hb
  exact h H (.refl ok)
theorem ets_one {c1 : C} (h : ET G cf lf S e c1) : ETs G cf lf S [e] c1 := fun fr X c => pts_one (h fr X c)
section
variable {fr : Fr} {X : Cx}
/-- the families of readings of a block's parts -/
def gFam (G : Gb) (fr : Fr) (p : Pt) : TG := fun v σ H Q => ∃ (i : (D : Addr) ×' (xs : List V) ×' FreshD fr D), tG G (frD fr i.1 i.2.1) p v σ H Q
def tFam (G : Gb) (cf : FnI) (lf : Nat → Env → Out D) (fr : Fr) (c : C) (vs : List Nat) (σ0 : L2.St) : TT := fun σ H Q => wipe σ vs = wipe σ0 vs ∧ ∃ (i : (D : Addr) ×' (xs : List V) ×' FreshD fr D), tT G (frD fr i.1 i.2.1) (evalE cf lf c) σ H Q
def eFam (G : Gb) (cf : FnI) (lf : Nat → Env → Out D) (fr : Fr) (c : C) (vs : List Nat) (σ0 : L2.St) : TE := fun σ H Q => wipe σ vs = wipe σ0 vs ∧ ∃ (i : (D : Addr) ×' (xs : List V) ×' FreshD fr D), tE G (frD fr i.1 i.2.1) (evalE cf lf c) σ H Q
theorem wf_D {D : Addr} {xs : List V} (hD : FreshD fr D) {cls : Value} {d : Option Addr} {σ σ' : L2.St} {H : Hp} (w : WF G (frD fr D xs) cls d σ H) : WF G fr cls d σ' H := by
  obtain ⟨k, h1, h2, h3, h4⟩ := w
  refine ⟨k, h1, h2, ⟨fun a o e n z => h3.keep a o ?_ n z, h3.tab⟩, h4⟩
  have : a ≠ D := fun y => by
    subst y
    obtain ⟨ps, y⟩ := hD.h0 o e
    exact z ps y
  show upd fr.H0 D _ a = _
  rw [upd_ne this]
  exact e
theorem blk_cx (c : CxS G S fr X) {fr' : Fr} {s : Shared} {H : Hp} {scope : Scope} {cl : List (Str × Addr)} {C : Addr} {fp : List Addr} {xe : Value → Shared → Prop} (tk : TakF (bcx X s H scope (compEnvC scope cl C X.env) fp xe) (WF G fr')) : CxS G (blkS S scope) fr' (bcx X s H scope (compEnvC scope cl C X.env) fp xe) where
  prog := c.prog
  w := c.w
  K := c.K
  mg := c.mg
  base := c.base
  N := c.N
  sc := by show relS scope X.env.scope = relS scope S.sc; rw [c.sc]
  nd := c.nd
  calm := c.calm
  room := c.room
  tk := tk
  fn := fun z => by cases z
  fl := fun z => (z rfl).elim
  po := fun z => by cases z
  code := fun z => by cases z
  cells := fun c z => by cases z
/-- the tests of a block, told where it stands -/
def BTs (G : Gb) (cf : FnI) (lf : Nat → Env → Out D) (S : SC) (scope : Scope) (ifs : List Expr) (c : C) (vs : List Nat) : Prop := ∀ (fr fr' : Fr) (X : Cx) (s : Shared) (H : Hp) (C : Addr) (cl : List (Str × Addr)) (fp : List Addr) (xe : Value → Shared → Prop) (pins : List (Addr × Obj)) (σ : L2.St), CxS G S fr X → Inv X pins σ H s → (∀ b ∈ fp, FpOk X pins H b) →
  (∀ (i : (D : Addr) ×' (xs : List V) ×' FreshD fr' D), CxS G (blkS S scope) (frD fr' i.1 i.2.1) (bcx X s H scope (compEnvC scope cl C X.env) fp xe)) → PTs (bcx X s H scope (compEnvC scope cl C X.env) fp xe) ifs (tFam G cf lf fr' c vs σ)
theorem bts_of {c1 : C} {vs : List Nat} {scope : Scope} (h : ETs G cf lf (blkS S scope) ifs c1) : BTs G cf lf S scope ifs c1 vs := fun fr fr' X s H C cl fp xe pins σ c I hf cc => pts_imp (pts_ex fun i => h _ _ (cc i)) fun σ H Q z => z.2
theorem b_parts {x : Bool} {W : WX} {p : Pt} {c1 c2 : C} {scope : Scope} {vs : List Nat} (c : CxS G S fr X) (hW : ∀ D xs, FreshD (frX x fr) D → ∀ cls d σ' H, WF G (frD (frX x fr) D xs) cls d σ' H → ∀ σ, W cls d σ H) (hg : EG G (blkS S scope) tg p) (hc : BTs G cf lf S scope ifs c1 vs) (he : EE G cf lf (blkS S scope) elt c2) :
    BParts X tg ifs elt scope W (fun _ => gFam G (frX x fr) p) (tFam G cf lf (frX x fr) c1 vs) (eFam G cf lf (frX x fr) c2 vs) := fun s H C cl fp xe pins σ I hf tk => by
  have cc : ∀ (i : (D : Addr) ×' (xs : List V) ×' FreshD (frX x fr) D), CxS G (blkS S scope) (frD (frX x fr) i.1 i.2.1) (bcx X s H scope (compEnvC scope cl C X.env) fp xe) := fun i => blk_cx c (tk _ (hW i.1 i.2.1 i.2.2))
  exact ⟨pg_ex fun i => hg _ _ (cc i), hc fr _ X s H C cl fp xe pins σ c I hf cc, pe_imp (pe_ex fun i => he _ _ (cc i)) fun σ H Q z => z.2⟩
end
section
variable {fr : Fr} {ρ ρ1 ρ2 : Env} {σ σ1 σ2 : L2.St} {H H1 : Hp}
theorem wipe_eq {vs : List Nat} {sl : List Nat} (hl : σ2.length = σ.length) (h : ∀ j, j ∉ sl → σ2[j]? = (wipe σ vs)[j]?) (hs : ∀ j ∈ sl, j ∈ vs) : wipe σ2 vs = wipe σ vs := by
  apply List.ext_getElem?
  intro j
  rw [wipe_get, wipe_get]
  by_cases m : j ∈ vs
  · rw [if_pos m, if_pos m]
    by_cases z : j < σ.length
    · rw [List.getElem?_eq_getElem z, List.getElem?_eq_getElem (hl ▸ z)]; rfl
    · rw [List.getElem?_eq_none (Nat.le_of_not_lt z), List.getElem?_eq_none (Nat.le_of_not_lt (hl ▸ z))]
  · rw [if_neg m, if_neg m, h j (fun y => m (hs j y)), wipe_get, if_neg m]
/-- what becomes of a comprehension's list -/
def postC (x : Bool) (ρ1 : Env) (bs vs : List Nat) (o : Out (List D)) : Out D :=
  let o' := (o.back fun ρ2 => unlockL ρ1 bs (backE ρ1 vs ρ2)).bind fun l ρ3 => .ok (.lst l) ρ3
  if x then o' else untold o'
theorem lc_t {x : Bool} {k : ItK} {p : Pt} {c1 c2 : C} {vs : List Nat} {Q : VK} (hp : ∀ j ∈ pslots p, j ∈ vs) (h : tF G fr (evalE cf lf (.comp x p k as c1 c2 vs)) σ H Q) :
    tLcX (tI G cf lf fr k as) (fun _ => gFam G (frX x fr) p) (tFam G cf lf (frX x fr) c1 vs) (eFam G cf lf (frX x fr) c2 vs) vs σ H Q := by
  obtain ⟨ρ, ok, h⟩ := h
  rw [evalE] at h
  refine ⟨ρ, ok, ?_⟩
  cases hx : evalX cf lf as ρ with
  | bad => rw [hx] at h; exact h
  | exc k => rw [hx] at h; exact h
  | ok ds ρ1 =>
    rw [hx] at h
    simp only [Out.bind] at h
    cases hf : (MZ.fill as ds ρ1).bind (itR k) with
    | none => rw [hf] at h; exact h.elim
    | some items =>
      rw [hf] at h
      simp only [lift] at h
      simp only [RIok, hf]
      split at h
      · rename_i hno
        obtain ⟨hno, hbo⟩ := Bool.and_eq_true_iff.mp hno
        refine ⟨hbo, fun J H1 s1 j D nD => ?_⟩
        have h : RFok G fr ρ σ H (postC x ρ1 (bors as) vs (compF p vs (evalE cf lf c1) (evalE cf lf c2) items [] (lockL (bors as) ρ1))) Q := h
        clear hx hf
        have s2 := lock_step s1.ok (bors as)
        have hD : FreshD (frX x fr) D := fresh_X (fresh_of s2.ok nD)
        have hD0 : FreshD fr D := fresh_of s2.ok nD
        have hm : ∀ i a, fr.mt = some (i, a) → i ∉ vs := fun i a e m => by
          obtain ⟨⟨d, z⟩, _⟩ := s1.ok.mts i a e
          rcases z with z | z
          · have := noOwn_not hno i m _ z; cases this
          · have := noOwn_not hno i m _ z; cases this
        have hm' : ∀ xs i a, (frD (frX x fr) D xs).mt = some (i, a) → i ∉ vs := fun xs i a e => hm i a (by rw [← mt_X (x := x)]; exact e)
        have hlk : ∀ j d, (lockL (bors as) ρ1)[j]? = some (SV.lk d) → j ∉ vs := fun j d e m => by
          obtain ⟨u, e1, z⟩ := lock_get e
          have := noOwn_not hno j m u e1
          rcases z with rfl | ⟨d', rfl, _⟩ <;> cases this
        have fexc : ∀ {k}, RFok G fr ρ σ H (postC x ρ1 (bors as) vs (.exc k)) Q → (frX x fr).ek k := fun {k} z => by
          cases x
          · exact z.elim
          · exact z
        have fbad : RFok G fr ρ σ H (postC x ρ1 (bors as) vs .bad) Q → False := fun z => by cases x <;> exact z
        let W : Nat → Nat → Hp → Prop := fun i m H' => ∃ ρ' acc xs, OkF G (frD (frX x fr) D xs) (wipeE vs ρ') (wipe σ vs) H' ∧ ExtN (vis fr (lockL (bors as) ρ1) σ H1) (vis (frD (frX x fr) D xs) (wipeE vs ρ') (wipe σ vs) H') ∧
          (∀ (j : Nat) (d : MZ.D), (lockL (bors as) ρ1)[j]? = some (SV.lk d) → ρ'[j]? = some (SV.lk d)) ∧ RepL G.B (vis (frD (frX x fr) D xs) (wipeE vs ρ') (wipe σ vs) H') acc xs ∧ m = items.length - i ∧ i ≤ items.length ∧
          RFok G fr ρ σ H (postC x ρ1 (bors as) vs (compF p vs (evalE cf lf c1) (evalE cf lf c2) (items.drop i) acc ρ')) Q
        have w0 : W 0 items.length (upd H1 D (.lst [])) := by
          have k1 := enterD (okf_X (x := x) s2.ok) nD []
          obtain ⟨k2, k3⟩ := wipe_ok k1 (own := vs) (hm' [])
          refine ⟨lockL (bors as) ρ1, [], [], k2, ?_, fun _ _ e => e, RepL.nil.mpr rfl, by omega, Nat.zero_le _, h⟩
          rw [vis_D nD, vis_X] at k3
          exact k3
        refine ⟨W, ⟨items.length, w0⟩, fun i m H' w => ?_⟩
        obtain ⟨ρ', acc, xs, ok', ext', lk', acc', em, hi, h⟩ := w
        have lt : Later G fr (lockL (bors as) ρ1) σ H1 (frD (frX x fr) D xs) (wipeE vs ρ') (wipe σ vs) H' := ⟨ok', ext', fun j d e => ⟨by rw [wipeE_out (hlk j d e)]; exact lk' j d e, wipe_out (hlk j d e)⟩⟩
        obtain ⟨jg, js⟩ := j _ _ _ _ lt
        by_cases e : i = items.length
        · subst e
          rw [List.drop_length, compF] at h
          refine .inl ⟨js, ?_⟩
          obtain ⟨d1, d2, d3⟩ := leaveD hD ok'
          have d2' : OkF G fr (wipeE vs ρ') (wipe σ vs) (del H' D) := okf_X' d2
          have e3 : ExtN (vis fr (lockL (bors as) ρ1) σ H1) (vis fr (wipeE vs ρ') (wipe σ vs) (del H' D)) := by
            rw [d3, vis_X] at ext'
            exact ext'
          obtain ⟨b1, b2⟩ := back_ok (ρ0 := ρ1) d2' hm e3 fun j m u e => ⟨noOwn_not hno j m u e, fun d z => by
            subst z
            obtain ⟨y, y1, y2⟩ := s1.ok.slot j _ e
            exact ⟨y, y1, y2.mono s2.ext⟩⟩
          have st : Step G fr (lockL (bors as) ρ1) σ H1 (backE ρ1 vs ρ') σ (del H' D) := ⟨b1, e3.trans b2, fun j d e => ⟨by rw [backE_out (hlk j d e)]; exact lk' j d e, rfl⟩⟩
          have st' := s1.trans (unlock_step s1.ok st)
          have : RFok G fr ρ σ H (.ok (.lst acc) (unlockL ρ1 (bors as) (backE ρ1 vs ρ'))) Q := by cases x <;> exact h
          have hv := unlock_step s1.ok st
          have q := this D xs (del H' D) st' del_same (by
            have ev : ExtN (vis fr (backE ρ1 vs ρ') σ (del H' D)) (vis fr (unlockL ρ1 (bors as) (backE ρ1 vs ρ')) σ (del H' D)) := by
              obtain ⟨_, v, _⟩ := relabel b1 (unlockL_len ρ1 (bors as) (backE ρ1 vs ρ')) (fun j w h => by
                obtain ⟨u, e, z⟩ := unlock_get h
                refine ⟨u, e, ?_⟩
                rcases z with rfl | ⟨d, d', _, rfl, rfl⟩
                · exact .inl rfl
                · exact .inr ⟨d, rfl, rfl⟩) hv.ok.own0 fun i a e => (hv.ok.mts i a e).1
              exact v
            rw [d3, vis_X] at acc'
            exact (acc'.mono b2).mono ev)
          rw [upd_del, upd_id d1] at q
          exact q
        · have hlt : i < items.length := by omega
          have ge := List.getElem?_eq_getElem hlt
          refine .inr ⟨(jg i items[i] ge).1, W (i + 1) (items.length - (i + 1)), fun H3 w3 => ⟨_, by omega, w3⟩, fun y H'' hy => ?_⟩
          obtain ⟨sy, ry⟩ := (jg i items[i] ge).2 y H'' hy
          rw [List.drop_eq_getElem_cons hlt, compF] at h
          refine ⟨⟨D, xs, hD⟩, wipeE vs ρ', items[i], sy.ok, ry, ?_⟩
          cases hb : bindP p items[i] (wipeE vs ρ') with
          | none => rw [hb] at h; exact (fbad h).elim
          | some ρb =>
            rw [hb] at h
            simp only [liftE, Out.bind] at h
            intro σ2 sb kb
            have hw : wipe σ2 vs = wipe σ vs := wipe_eq (by
              have e1 := sb.ok.len
              have e2 := bind_len hb
              have e3 := ok'.len
              rw [wipe_length] at e3
              omega) kb hp
            refine ⟨hw, hw, ⟨D, xs, hD⟩, ρb, sb.ok, ?_⟩
            have lkb : ∀ j d, (lockL (bors as) ρ1)[j]? = some (SV.lk d) → ρb[j]? = some (SV.lk d) := fun j d e => ((sy.lk.trans sb.lk) j d (by rw [wipeE_out (hlk j d e)]; exact lk' j d e)).1
            cases h1 : evalE cf lf c1 ρb with
            | bad => rw [h1] at h; exact (fbad h).elim
            | exc k => rw [h1] at h; exact fexc h
            | ok d ρ2 =>
              rw [h1] at h
              simp only at h
              cases hd : truD d with
              | none => rw [hd] at h; exact (fbad h).elim
              | some b =>
                rw [hd] at h
                refine ⟨b, hd, fun H3 s3 => ?_⟩
                have sAll := sy.trans (sb.trans s3)
                cases b with
                | false =>
                  show W (i + 1) (items.length - (i + 1)) H3
                  obtain ⟨k2, k3⟩ := wipe_ok s3.ok (own := vs) (hm' xs)
                  rw [hw] at k2 k3
                  exact ⟨ρ2, acc, xs, k2, ext'.trans (sAll.ext.trans k3), fun j d e => (s3.lk j d (lkb j d e)).1, (acc'.mono sAll.ext).mono k3, rfl, by omega, h⟩
                | true =>
                  refine ⟨hw, ⟨D, xs, hD⟩, ρ2, s3.ok, ?_⟩
                  simp only at h
                  cases h2 : evalE cf lf c2 ρ2 with
                  | bad => rw [h2] at h; exact (fbad h).elim
                  | exc k => rw [h2] at h; exact fexc h
                  | ok y ρ3 =>
                    rw [h2] at h
                    simp only at h
                    intro v H4 s4 r4
                    have sB := sAll.trans s4
                    split at h
                    · rename_i hz
                      refine ⟨xs, (leaveD hD s4.ok).1, by rw [line_is, acc'.length]; exact hz, ?_⟩
                      obtain ⟨k2, k3⟩ := wipe_ok s4.ok (own := vs) (hm' xs)
                      rw [hw] at k2 k3
                      obtain ⟨k4, k5⟩ := setD (xs ++ [v]) hD k2
                      refine ⟨ρ3, acc ++ [y], xs ++ [v], k4, ?_, fun j d e => ((s3.lk.trans s4.lk) j d (lkb j d e)).1, ?_, rfl, by omega, h⟩
                      · rw [← k5]
                        exact ext'.trans (sB.ext.trans k3)
                      · rw [← k5]
                        exact ((acc'.mono sB.ext).mono k3).append (RepL.cons (r4.mono k3) (RepL.nil.mpr rfl))
                    · exact (fbad h).elim
      · exact h.elim
end
end
end MZ
end
section
set_option maxRecDepth 100000
set_option maxHeartbeats 2000000
namespace MZ
open PySem PySem.Spec PyProof.Rows L2 LamX MX RZ
section
variable {G : Gb} {cf : FnI} {lf : Nat → Env → Out D} {S : SC} {pos : Pos} {tg iter elt e : Expr} {ifs : List Expr} {as : AL} {k : ItK} {p : Pt} {c1 c2 : C} {scope : Scope} {own : List (Str × Nat)}
theorem bok {X : Cx} {fr : Fr} (c : CxS G S fr X) (ok : BlkOk S.N S.sc scope own) : BlkOk X.N X.env.scope scope own := by rw [c.N, c.sc]; exact ok
theorem hW1 {fr : Fr} : ∀ D xs, FreshD (frX true fr) D → ∀ cls d σ' H, WF G (frD (frX true fr) D xs) cls d σ' H → ∀ σ, WF G fr cls d σ H := fun D xs hD cls d σ' H w σ => wf_D hD w
theorem hW0 {fr : Fr} : ∀ D xs, FreshD (frX false fr) D → ∀ cls d σ' H, WF G (frD (frX false fr) D xs) cls d σ' H → ∀ σ : L2.St, (fun (_ : Value) (_ : Option Addr) (_ : L2.St) (_ : Hp) => False) cls d σ H := fun D xs hD cls d σ' H ⟨k, _, _, _, z⟩ σ => z
theorem ef_comp (hkd : S.kd ≠ 1) (hi : EI G cf lf S tg iter k as) (ok : BlkOk S.N S.sc scope own) (hg : EG G (blkS S scope) tg p) (hc : BTs G cf lf S scope ifs c1 (own.map (·.2))) (he : EE G cf lf (blkS S scope) elt c2) (hp : ∀ j ∈ pslots p, j ∈ own.map (·.2))
    (hs : ∀ (env : PySem.Env) x, foldedSetIterable iter env x = pure x) : EF G cf lf S (.ListComp elt [⟨tg, iter, ifs, 0⟩] scope pos) (.comp true p k as c1 c2 (own.map (·.2))) := fun fr X c =>
  pe_imp (pe_lcX (W := WF G fr) c.calm (by rw [c.N]; exact c.nd) (hi fr X c) (bok c ok) (.inl (c.fl hkd)) (b_parts (x := true) c hW1 hg hc he) (hs _)) fun σ H Q h => lc_t hp h
theorem ef_compB (hi : EI G cf lf S tg iter k as) (ok : BlkOk S.N S.sc scope own) (hg : EG G (blkS S scope) tg p) (hc : BTs G cf lf S scope ifs c1 (own.map (·.2))) (he : EE G cf lf (blkS S scope) elt c2) (hp : ∀ j ∈ pslots p, j ∈ own.map (·.2))
    (hs : ∀ (env : PySem.Env) x, foldedSetIterable iter env x = pure x) : EF G cf lf S (.ListComp elt [⟨tg, iter, ifs, 0⟩] scope pos) (.comp false p k as c1 c2 (own.map (·.2))) := fun fr X c =>
  pe_imp (pe_lcX (W := fun _ _ _ _ => False) c.calm (by rw [c.N]; exact c.nd) (hi fr X c) (bok c ok) (.inr fun _ _ _ _ z => z) (b_parts (x := false) c hW0 hg hc he) (hs _)) fun σ H Q h => lc_t hp h
theorem lsts_comp {x : Bool} {vs : List Nat} : Lsts cf lf (.comp x p k as c1 c2 vs) := fun ρ d ρ' h => by
  rw [evalE] at h
  cases hx : evalX cf lf as ρ with
  | bad => rw [hx] at h; cases h
  | exc k => rw [hx] at h; cases h
  | ok ds ρ1 =>
    rw [hx] at h
    simp only [Out.bind] at h
    cases hf : (MZ.fill as ds ρ1).bind (itR k) with
    | none => rw [hf] at h; cases h
    | some items =>
      rw [hf] at h
      simp only [lift] at h
      split at h
      · generalize compF p vs (evalE cf lf c1) (evalE cf lf c2) items [] (lockL (bors as) ρ1) = o at h
        cases o <;> cases x <;> simp [Out.back, untold] at h
        · exact ⟨_, h.1.symm⟩
        · exact ⟨_, h.1.symm⟩
      · cases h
theorem ee_comp (hkd : S.kd ≠ 1) (hi : EI G cf lf S tg iter k as) (ok : BlkOk S.N S.sc scope own) (hg : EG G (blkS S scope) tg p) (hc : BTs G cf lf S scope ifs c1 (own.map (·.2))) (he : EE G cf lf (blkS S scope) elt c2) (hp : ∀ j ∈ pslots p, j ∈ own.map (·.2))
    (hs : ∀ (env : PySem.Env) x, foldedSetIterable iter env x = pure x) : EE G cf lf S (.ListComp elt [⟨tg, iter, ifs, 0⟩] scope pos) (.comp true p k as c1 c2 (own.map (·.2))) := ef_ee (ef_comp hkd hi ok hg hc he hp hs) lsts_comp
theorem ee_compB (hi : EI G cf lf S tg iter k as) (ok : BlkOk S.N S.sc scope own) (hg : EG G (blkS S scope) tg p) (hc : BTs G cf lf S scope ifs c1 (own.map (·.2))) (he : EE G cf lf (blkS S scope) elt c2) (hp : ∀ j ∈ pslots p, j ∈ own.map (·.2))
    (hs : ∀ (env : PySem.Env) x, foldedSetIterable iter env x = pure x) : EE G cf lf S (.ListComp elt [⟨tg, iter, ifs, 0⟩] scope pos) (.comp false p k as c1 c2 (own.map (·.2))) := ef_ee (ef_compB hi ok hg hc he hp hs) lsts_comp
/-- a value as a statement's: name = e told by a reading -/
theorem set_own_t {i : Nat} {c : C} {fr : Fr} {Dn : Ends} {σ : L2.St} {H : Hp} (h : tS G fr (evalS cf lf (.own i c)) Dn σ H) : tAsg (tF G fr (evalE cf lf c)) (gName i) Dn σ H := by
  obtain ⟨ρ, ok, h⟩ := h
  rw [evalS] at h
  refine ⟨ρ, ok, ?_⟩
  cases ho : evalE cf lf c ρ with
  | bad => rw [ho] at h; exact h
  | exc k => rw [ho] at h; exact h
  | ok d ρ1 =>
    rw [ho] at h
    simp only [Out.rs] at h
    split at h
    · rename_i hf
      cases d <;> simp [fresh] at hf
      intro a xs H1 s1 n r1
      cases hb : setS ρ1 i (.ow (.lst _)) with
      | none => rw [hb] at h; exact h.elim
      | some ρ2 => rw [hb] at h; exact h _ _ (s1.trans (set_ow s1.ok n r1 hb))
    · exact h.elim
theorem set_pu_t {i : Nat} {c : C} {fr : Fr} {Dn : Ends} {σ : L2.St} {H : Hp} (hc : Lsts cf lf c) (h : tS G fr (evalS cf lf (.asg (.nm i) c)) Dn σ H) : tAsg (tF G fr (evalE cf lf c)) (gName i) Dn σ H := by
  obtain ⟨ρ, ok, h⟩ := h
  rw [evalS] at h
  refine ⟨ρ, ok, ?_⟩
  cases ho : evalE cf lf c ρ with
  | bad => rw [ho] at h; exact h
  | exc k => rw [ho] at h; exact h
  | ok d ρ1 =>
    obtain ⟨l, rfl⟩ := hc ρ d ρ1 ho
    rw [ho] at h
    simp only [Out.rs, bindP] at h
    intro a xs H1 s1 n r1
    cases hb : setS ρ1 i (.pu (.lst l)) with
    | none => rw [hb] at h; exact h.elim
    | some ρ2 =>
      rw [hb] at h
      have s2 := s1.trans (s1.ok.laid (o := .lst xs) n)
      exact h _ _ (s2.trans (set_pu s2.ok (mk_lst s1.ok n r1) hb))
/-- name = [..], the stores exchanged -/
theorem es_lcOwn {i : Nat} {y : Str} {py spos : Pos} (hkd : S.kd ≠ 1) (hN : S.N[i]? = some y) (hy : S.sc.names.lookup y = some .local) (hsw : ∀ env : PySem.Env, env.scope = S.sc → swapsWith (.ListComp elt [⟨tg, iter, ifs, 0⟩] scope pos) (some (.Name y py)) spos.line env = pure true)
    (hi : EI G cf lf S tg iter k as) (ok : BlkOk S.N S.sc scope own) (hg : EG G (blkS S scope) tg p) (hc : BTs G cf lf S scope ifs c1 (own.map (·.2))) (he : EE G cf lf (blkS S scope) elt c2) (hp : ∀ j ∈ pslots p, j ∈ own.map (·.2))
    (hs : ∀ (env : PySem.Env) x, foldedSetIterable iter env x = pure x) : ES G cf lf S (.Assign [.Name y py] (.ListComp elt [⟨tg, iter, ifs, 0⟩] scope pos) spos) (.own i (.comp true p k as c1 c2 (own.map (·.2)))) := fun fr X c =>
  ps_imp (ps_lcX (W := WF G fr) c.calm (by rw [c.N]; exact c.nd) (c.nN hN) (by rw [c.sc]; exact hy) (hsw _ c.sc) (hi fr X c) (bok c ok) (.inl (c.fl hkd)) (b_parts (x := true) c hW1 hg hc he) (hs _)) fun Dn σ H h => lc_t hp (set_own_t h)
theorem es_lcSet {i : Nat} {y : Str} {py spos : Pos} (hkd : S.kd ≠ 1) (hN : S.N[i]? = some y) (hy : S.sc.names.lookup y = some .local) (hsw : ∀ env : PySem.Env, env.scope = S.sc → swapsWith (.ListComp elt [⟨tg, iter, ifs, 0⟩] scope pos) (some (.Name y py)) spos.line env = pure true)
    (hi : EI G cf lf S tg iter k as) (ok : BlkOk S.N S.sc scope own) (hg : EG G (blkS S scope) tg p) (hc : BTs G cf lf S scope ifs c1 (own.map (·.2))) (he : EE G cf lf (blkS S scope) elt c2) (hp : ∀ j ∈ pslots p, j ∈ own.map (·.2))
    (hs : ∀ (env : PySem.Env) x, foldedSetIterable iter env x = pure x) : ES G cf lf S (.Assign [.Name y py] (.ListComp elt [⟨tg, iter, ifs, 0⟩] scope pos) spos) (.asg (.nm i) (.comp true p k as c1 c2 (own.map (·.2)))) := fun fr X c =>
  ps_imp (ps_lcX (W := WF G fr) c.calm (by rw [c.N]; exact c.nd) (c.nN hN) (by rw [c.sc]; exact hy) (hsw _ c.sc) (hi fr X c) (bok c ok) (.inl (c.fl hkd)) (b_parts (x := true) c hW1 hg hc he) (hs _)) fun Dn σ H h => lc_t hp (set_pu_t lsts_comp h)
/-! ### built-in functions -/
section
variable {x : Str} {p1 : Pos} {es : List Expr} {pr : Prim} {r : List V → Hp → VK → Prop} {id : String}
theorem ee_callB (hr : ∀ fr X, CxS G S fr X → CallR X (.builtin id) r) (hp : PrimOk G pr r) (hg : S.sc.names.lookup x = some .globalImplicit) (hm : G.mg x = none) (hv : bootBuiltins x = some (.builtin id)) (ha : EA G cf lf S (e :: es) as)
    (he : ∀ env : PySem.Env, starEach (e :: es) env = (false, eval e env) :: starEach es env) (hpl : ∀ env : PySem.Env, (backTo pos (starEach es env)).any (·.1) = false) (hn : x ≠ "__name__" := by decide) (hdb : (x == ("__debug__" : Str)) = false := by decide) : EE G cf lf S (.Call (.Name x p1) (e :: es) [] pos) (.prim pr as) := fun fr X c =>
  pe_imp (pe_callB (hr fr X c) (c.gl hg) (c.hm hm) hv (ha fr X c) hn hdb (he _) (hpl _)) fun σ H Q h => prim_tX hp h
theorem ee_callT {T : String} (hr : ∀ fr X, CxS G S fr X → CallR X (.type T) r) (hp : PrimOk G pr r) (hg : S.sc.names.lookup x = some .globalImplicit) (hm : G.mg x = none) (hv : bootBuiltins x = some (.type T)) (ha : EA G cf lf S (e :: es) as)
    (he : ∀ env : PySem.Env, starEach (e :: es) env = (false, eval e env) :: starEach es env) (hpl : ∀ env : PySem.Env, (backTo pos (starEach es env)).any (·.1) = false) (hn : x ≠ "__name__" := by decide) (hdb : (x == ("__debug__" : Str)) = false := by decide) : EE G cf lf S (.Call (.Name x p1) (e :: es) [] pos) (.prim pr as) := fun fr X c =>
  pe_imp (pe_callTy (hr fr X c) (c.gl hg) (c.hm hm) hv (ha fr X c) hn hdb (he _) (hpl _)) fun σ H Q h => prim_tX hp h
theorem CallR.or {X : Cx} {f : Value} {r r' : List V → Hp → VK → Prop} (h : CallR X f r) (h' : CallR X f r') : CallR X f (fun xs H Q => r xs H Q ∨ r' xs H Q) := by
  intro pins s σ H xs us Q I rs q
  rcases q with q | q
  · exact h pins s σ H xs us Q I rs q
  · exact h' pins s σ H xs us Q I rs q
theorem cr_len {fr : Fr} {X : Cx} (c : CxS G S fr X) : CallR X (.builtin "len") (rLen G.K) := c.K ▸ MZ.CallR.or call_len_seq call_len_str
theorem ee_len (hg : S.sc.names.lookup ("len" : Str) = some .globalImplicit) (hm : G.mg "len" = none) (ha : EA G cf lf S [e] as) (he : ∀ env : PySem.Env, starEach [e] env = (false, eval e env) :: starEach [] env) : EE G cf lf S (.Call (.Name "len" p1) [e] [] pos) (.prim .len as) := ee_callB (fun _ _ c => cr_len c) pk_len hg hm boot_len ha he (fun _ => rfl)
theorem ee_abs (hg : S.sc.names.lookup ("abs" : Str) = some .globalImplicit) (hm : G.mg "abs" = none) (ha : EA G cf lf S [e] as) (he : ∀ env : PySem.Env, starEach [e] env = (false, eval e env) :: starEach [] env) : EE G cf lf S (.Call (.Name "abs" p1) [e] [] pos) (.prim .abs as) := ee_callB (fun _ _ c => call_abs) pk_abs hg hm boot_abs ha he (fun _ => rfl)
theorem ee_max2 {e2 : Expr} (hg : S.sc.names.lookup ("max" : Str) = some .globalImplicit) (hm : G.mg "max" = none) (ha : EA G cf lf S [e, e2] as) (he : ∀ env : PySem.Env, starEach [e, e2] env = (false, eval e env) :: starEach [e2] env) (hpl : ∀ env : PySem.Env, (backTo pos (starEach [e2] env)).any (·.1) = false) : EE G cf lf S (.Call (.Name "max" p1) [e, e2] [] pos) (.prim .max2 as) := ee_callB (fun _ _ c => call_max2 c.calm) pk_max2 hg hm boot_max ha he hpl
theorem ee_min2 {e2 : Expr} (hg : S.sc.names.lookup ("min" : Str) = some .globalImplicit) (hm : G.mg "min" = none) (ha : EA G cf lf S [e, e2] as) (he : ∀ env : PySem.Env, starEach [e, e2] env = (false, eval e env) :: starEach [e2] env) (hpl : ∀ env : PySem.Env, (backTo pos (starEach [e2] env)).any (·.1) = false) : EE G cf lf S (.Call (.Name "min" p1) [e, e2] [] pos) (.prim .min2 as) := ee_callB (fun _ _ c => call_min2 c.calm) pk_min2 hg hm boot_min ha he hpl
theorem ee_maxL (hg : S.sc.names.lookup ("max" : Str) = some .globalImplicit) (hm : G.mg "max" = none) (ha : EA G cf lf S [e] as) (he : ∀ env : PySem.Env, starEach [e] env = (false, eval e env) :: starEach [] env) : EE G cf lf S (.Call (.Name "max" p1) [e] [] pos) (.prim .maxL as) := ee_callB (fun _ _ c => c.K ▸ cr_max c.calm) pk_maxL hg hm boot_max ha he (fun _ => rfl)
theorem ee_minL (hg : S.sc.names.lookup ("min" : Str) = some .globalImplicit) (hm : G.mg "min" = none) (ha : EA G cf lf S [e] as) (he : ∀ env : PySem.Env, starEach [e] env = (false, eval e env) :: starEach [] env) : EE G cf lf S (.Call (.Name "min" p1) [e] [] pos) (.prim .minL as) := ee_callB (fun _ _ c => c.K ▸ cr_min c.calm) pk_minL hg hm boot_min ha he (fun _ => rfl)
theorem ee_sumL (hg : S.sc.names.lookup ("sum" : Str) = some .globalImplicit) (hm : G.mg "sum" = none) (ha : EA G cf lf S [e] as) (he : ∀ env : PySem.Env, starEach [e] env = (false, eval e env) :: starEach [] env) : EE G cf lf S (.Call (.Name "sum" p1) [e] [] pos) (.prim .sumL as) := ee_callB (fun _ _ c => c.K ▸ cr_sum c.calm) pk_sumL hg hm boot_sum ha he (fun _ => rfl)
theorem ee_toInt (hg : S.sc.names.lookup ("int" : Str) = some .globalImplicit) (hm : G.mg "int" = none) (ha : EA G cf lf S [e] as) (he : ∀ env : PySem.Env, starEach [e] env = (false, eval e env) :: starEach [] env) : EE G cf lf S (.Call (.Name "int" p1) [e] [] pos) (.prim .toInt as) := ee_callT (fun _ _ c => call_int1) pk_toInt hg hm boot_int ha he (fun _ => rfl)
theorem ee_tupOf (hg : S.sc.names.lookup ("tuple" : Str) = some .globalImplicit) (hm : G.mg "tuple" = none) (ha : EA G cf lf S [e] as) (he : ∀ env : PySem.Env, starEach [e] env = (false, eval e env) :: starEach [] env) : EE G cf lf S (.Call (.Name "tuple" p1) [e] [] pos) (.prim .tupOf as) := ee_callT (fun _ _ c => c.K ▸ call_tuple_of) pk_tupOf hg hm boot_tuple ha he (fun _ => rfl)
theorem ee_lstOf (hg : S.sc.names.lookup ("list" : Str) = some .globalImplicit) (hm : G.mg "list" = none) (ha : EA G cf lf S [e] as) (he : ∀ env : PySem.Env, starEach [e] env = (false, eval e env) :: starEach [] env) : EE G cf lf S (.Call (.Name "list" p1) [e] [] pos) (.prim .lstOf as) := ee_callT (fun _ _ c => c.K ▸ call_list_of) pk_lstOf hg hm boot_list ha he (fun _ => rfl)
end
end
end MZ
end
section
set_option maxRecDepth 100000
set_option maxHeartbeats 2000000
namespace MZ
open PySem PySem.Spec PyProof.Rows L2 LamX MX RZ
/-- what a callee sees -/
noncomputable def hideC (fr : Fr) (H : Hp) : Hp := hide (fun a => fr.hd a ∨ fr.A0 a) H
structure Entry (G : Gb) (fd : Fd) (fr : Fr) (ds : List D) (vs : List V) (H : Hp) : Prop where
  h0 : fr.H0 = H
  hdl : ∀ a, fr.hd a → ¬ fr.A0 a ∧ ∃ xs, H a = some (.lst xs)
  tab : ∀ p ∈ G.T, TabOk H p
  mt : (fd.mu = none ∧ fr.mt = none) ∨ ∃ i a, fd.mu = some i ∧ fr.mt = some (i, a) ∧ i < fd.np
  arg : ∀ (i : Nat) (d : D) (v : V), ds[i]? = some d → vs[i]? = some v → (fd.mu = some i → ∃ a, v = .ref a ∧ fr.mt = some (i, a) ∧ OwnD G.B (hideC fr H) H d a) ∧ (fd.mu ≠ some i → Rep G.B (hideC fr H) d v)
  len : ds.length = fd.np
  vlen : vs.length = fd.np
structure Exit (G : Gb) (fr : Fr) (o : Option D) (H' : Hp) (d : D) (v : V) : Prop where
  keep : KeepX G fr H'
  rep : Rep G.B (hideC fr H') d v
  out : (o = none ∧ fr.mt = none) ∨ ∃ d' i a, o = some d' ∧ fr.mt = some (i, a) ∧ OwnD G.B (hideC fr H') H' d' a
/-- what a def promises: it computes what the core's def computes -/
def spF (G : Gb) (cf : FnI) (f : Nat) (fd : Fd) : Sp := fun vs H Q E => ∃ ds fr, Entry G fd fr ds vs H ∧ match cf f ds with
  | .ok d o => ∀ v H', Exit G fr o H' d v → Q v H'
  | .exc k => ∀ H', KeepX G fr H' → E (G.xc k) none H'
  | .bad => False
/-- where the changed argument stands -/
def muPos : AL → Option Nat
  | .nil => none
  | .ex _ r => (muPos r).map (· + 1)
  | .bo _ r => (muPos r).map (· + 1)
  | .mu _ _ => some 0
section
variable {G : Gb} {fr : Fr} {ρ ρ1 ρ2 : Env} {σ σ1 σ2 : L2.St} {H H1 H2 : Hp}
/-- an own object changed by a callee -/
theorem call_mut (ok : OkF G fr ρ σ H) {i : Nat} {u u' : SV} {l' : List D} {xs' : List V} {d : D} {a : Addr} (h : ρ[i]? = some u) (hu : svOwn u = some d) (hu' : svOwn u' = some (.lst l')) (hnl : ∀ d, u ≠ .lk d) (hm : ∀ d, u = .mp d → ∃ d', u' = .mp d') (e : σ[i]? = some (some (.ref a)))
    (kp : ∀ b o, H b = some o → b ≠ a → (∀ ps, o ≠ .tbl ps) → H2 b = some o) (tb : ∀ p ∈ G.T, TabOk H2 p) (ha : H2 a = some (.lst xs')) (r : RepL G.B (vis fr ρ σ H2) l' xs') : Step G fr ρ σ H (ρ.set i u') σ H2 ∧ ExtN (vis fr ρ σ H2) (vis fr (ρ.set i u') σ H2) := by
  have hl := get_lt h
  have iu : isOwn u = true := isOwn_sv.mpr ⟨_, hu⟩
  have lu : loose u = true := by cases u <;> simp [svOwn] at hu <;> first | rfl | exact (hnl _ rfl).elim
  have hlo : ∀ j b, LooseAt (ρ.set i u') σ j b → LooseAt ρ σ j b := fun j b ⟨⟨w, e1, e2⟩, e3⟩ => by
    rcases set_get e1 with ⟨rfl, _, rfl⟩ | ⟨m, e1⟩
    · exact ⟨⟨u, h, lu⟩, e3⟩
    · exact ⟨⟨w, e1, e2⟩, e3⟩
  have hia : OwnAt ρ σ i a := ⟨⟨u, h, iu⟩, e⟩
  have hat : ∀ j b, OwnAt (ρ.set i u') σ j b → OwnAt ρ σ j b := fun j b ⟨⟨w, e1, e2⟩, e3⟩ => by
    rcases set_get e1 with ⟨rfl, _, rfl⟩ | ⟨m, e1⟩
    · exact ⟨⟨u, h, iu⟩, e3⟩
    · exact ⟨⟨w, e1, e2⟩, e3⟩
  have ho : ∀ b, Own (ρ.set i u') σ b → Own ρ σ b := fun b ⟨j, z⟩ => ⟨j, hat j b z⟩
  have hv : ExtN (vis fr ρ σ H) (vis fr (ρ.set i u') σ H2) := fun b o q z => by
    obtain ⟨⟨h1, h2⟩, h3⟩ := vis_some.mp q
    exact vis_some.mpr ⟨⟨h1, fun w => h2 (ho b w)⟩, kp b o h3 (fun w => h2 (w ▸ ⟨i, hia⟩)) z⟩
  have hv2 : ExtN (vis fr ρ σ H2) (vis fr (ρ.set i u') σ H2) := vis_le ho (.refl _)
  refine ⟨⟨⟨by rw [List.length_set]; exact ok.len, fun j w q => ?_, fun j k b p q => ok.dist j k b (hat _ _ p) (hat _ _ q), fun b o => ok.nh b (ho b o), ok.hdl, fun b o q k z => ?_, fun j b w => ok.own0 j b (hlo j b w), tb, fun j b q => ?_⟩, hv, fun j d' q => ?_⟩, hv2⟩
  · rcases set_get q with ⟨rfl, _, rfl⟩ | ⟨m, q⟩
    · exact (SlotOk.own hu').mpr ⟨a, e, xs', ha, r.mono hv2⟩
    · refine (ok.slot j w q).mono hv fun b zs iw z1 z2 => kp b _ z2 (fun y => m (ok.dist i j a hia ⟨⟨w, q, iw⟩, y ▸ z1⟩)) (fun _ z => nomatch z)
  · refine kp b o (ok.keep b o q k z) (fun y => ?_) z
    subst y
    rcases ok.own0 i b ⟨⟨u, h, lu⟩, e⟩ with y | y
    · exact k y
    · obtain ⟨ps, y⟩ := y o q
      exact z ps y
  · obtain ⟨⟨d', e1⟩, e2⟩ := ok.mts j b q
    by_cases n : i = j
    · subst n
      refine ⟨?_, e2⟩
      rw [set_same hl]
      rw [h] at e1
      rcases e1 with e1 | e1
      · obtain ⟨d2, z⟩ := hm d' (Option.some.inj e1)
        exact ⟨d2, .inl (by rw [z])⟩
      · exact (hnl d' (Option.some.inj e1)).elim
    · rw [set_ne n]
      exact ⟨⟨d', e1⟩, e2⟩
  · have n : i ≠ j := fun z => by subst z; rw [h] at q; exact hnl d' (Option.some.inj q)
    rw [set_ne n]
    exact ⟨q, rfl⟩
/-- the callee's frame -/
def frC (fr : Fr) (ρ : Env) (σ : L2.St) (H : Hp) (m : Option (Nat × Addr)) : Fr := { hd := fun a => fr.hd a ∨ (Own ρ σ a ∧ ∀ i, m ≠ some (i, a)), H0 := H, mt := m, ek := fr.ek }
theorem hideC_vis {m : Option (Nat × Addr)} (hm : ∀ i a, m = some (i, a) → Own ρ σ a) {H' : Hp} : hideC (frC fr ρ σ H m) H' = vis fr ρ σ H' := by
  unfold hideC vis
  congr 1
  funext a
  refine propext ⟨fun z => ?_, fun z => ?_⟩
  · rcases z with (z | z) | ⟨i, z⟩
    · exact .inl z
    · exact .inr z.1
    · exact .inr (hm i a z)
  · rcases z with z | z
    · exact .inl (.inl z)
    · by_cases k : ∃ i, m = some (i, a)
      · exact .inr k
      · exact .inl (.inr ⟨z, fun i e => k ⟨i, e⟩⟩)
/-- operands of a call: none borrowed, one changed at most -/
def wfA : AL → Bool
  | .nil => true
  | .ex _ r => wfA r
  | .bo _ _ => false
  | .mu _ r => (muAt r).isNone && (bors r).isEmpty
theorem fill_id : ∀ {as : AL} {ds full : List D} {vs : List V} {B : RB} {V' : Hp} {σ : L2.St}, bors as = [] → muAt as = none → RX B V' σ as ds vs → MZ.fill as ds ρ = some full → full = ds
  | .nil, _, _, _, _, _, _, _, _, h, e => by
    obtain ⟨rfl, rfl⟩ := h
    rw [MZ.fill] at e
    cases e
    rfl
  | .ex _ r, _, _, _, _, _, _, h1, h2, h, e => by
    obtain ⟨d, ds, v, vs, rfl, rfl, k1, k2⟩ := h
    rw [MZ.fill] at e
    obtain ⟨f, e1, rfl⟩ := Option.map_eq_some_iff.mp e
    rw [fill_id (as := r) h1 h2 k2 e1]
  | .bo _ _, _, _, _, _, _, _, h1, _, _, _ => by cases h1
  | .mu _ _, _, _, _, _, _, _, _, h2, _, _ => by cases h2
/-- the operands as a callee takes them -/
theorem RX.args (ok : OkF G fr ρ σ H) : ∀ {as : AL} {ds full : List D} {vs : List V}, wfA as = true → RX G.B (vis fr ρ σ H) σ as ds vs → MZ.fill as ds ρ = some full →
    vs.length = full.length ∧ ∀ (j : Nat) (d : D) (v : V), full[j]? = some d → vs[j]? = some v → (muPos as = some j → ∃ i a u, muAt as = some i ∧ ρ[i]? = some u ∧ (u = .ow d ∨ u = .mp d) ∧ v = .ref a ∧ σ[i]? = some (some (.ref a)) ∧ OwnD G.B (vis fr ρ σ H) H d a) ∧ (muPos as ≠ some j → Rep G.B (vis fr ρ σ H) d v)
  | .nil, _, _, _, _, h, e => by
    obtain ⟨rfl, rfl⟩ := h
    rw [MZ.fill] at e
    cases e
    exact ⟨rfl, fun j d v z => by simp at z⟩
  | .ex _ r, _, _, _, hw, h, e => by
    obtain ⟨d, ds, v, vs, rfl, rfl, h1, h2⟩ := h
    rw [MZ.fill] at e
    obtain ⟨f, e1, rfl⟩ := Option.map_eq_some_iff.mp e
    obtain ⟨k1, k2⟩ := RX.args ok (as := r) hw h2 e1
    refine ⟨by rw [List.length_cons, List.length_cons, k1], fun j d' v' e2 e3 => ?_⟩
    cases j with
    | zero =>
      cases e2
      cases e3
      refine ⟨fun z => ?_, fun _ => h1⟩
      rw [muPos] at z
      obtain ⟨_, _, z⟩ := Option.map_eq_some_iff.mp z
      cases z
    | succ j =>
      obtain ⟨q1, q2⟩ := k2 j d' v' (by simpa using e2) (by simpa using e3)
      refine ⟨fun z => ?_, fun z => q2 fun y => z ?_⟩
      · rw [muPos] at z
        obtain ⟨j', z1, z2⟩ := Option.map_eq_some_iff.mp z
        cases z2
        exact q1 z1
      · rw [muPos, y]; rfl
  | .bo i r, _, _, _, hw, _, _ => by cases hw
  | .mu i r, _, _, _, hw, h, e => by
    obtain ⟨v, vs, rfl, h1, h2⟩ := h
    rw [MZ.fill] at e
    obtain ⟨d, e0, e⟩ := Option.bind_eq_some_iff.mp e
    obtain ⟨f, e1, rfl⟩ := Option.map_eq_some_iff.mp e
    obtain ⟨w1, w2⟩ := Bool.and_eq_true_iff.mp hw
    have m0 : muAt r = none := Option.isNone_iff_eq_none.mp w1
    have b0 : bors r = [] := List.isEmpty_iff.mp w2
    have ef := fill_id b0 m0 h2 e1
    subst ef
    have rl := RX_full b0 m0 h2
    refine ⟨by rw [List.length_cons, List.length_cons, rl.length], fun j d' v' e2 e3 => ?_⟩
    cases j with
    | zero =>
      cases e2
      cases e3
      refine ⟨fun _ => ?_, fun z => (z rfl).elim⟩
      have key : ∃ u, ρ[i]? = some u ∧ (u = .ow d ∨ u = .mp d) := by
        split at e0
        · rename_i z; cases e0; exact ⟨_, z, .inl rfl⟩
        · rename_i z; cases e0; exact ⟨_, z, .inr rfl⟩
        · cases e0
      obtain ⟨u, u1, u2⟩ := key
      obtain ⟨a, q1, q2⟩ := (SlotOk.own (v := u) (d := d) (by rcases u2 with rfl | rfl <;> rfl)).mp (ok.slot i u u1)
      rw [h1] at q1
      cases q1
      exact ⟨i, a, u, rfl, u1, u2, rfl, h1, q2⟩
    | succ j =>
      refine ⟨fun z => (by cases z), fun _ => ?_⟩
      obtain ⟨v2, f1, f2⟩ := rl.get (i := j) (by simpa using e2)
      have : vs[j]? = some v' := by simpa using e3
      rw [f1] at this
      cases this
      exact f2
theorem muPos_none : ∀ {as : AL}, muAt as = none → muPos as = none
  | .nil, _ => rfl
  | .ex _ r, h => by rw [muPos, muPos_none (as := r) h]; rfl
  | .bo _ r, h => by rw [muPos, muPos_none (as := r) h]; rfl
  | .mu _ _, h => by cases h
theorem muPos_some : ∀ {as : AL} {j : Nat}, muPos as = some j → j < as.len ∧ ∃ i, muAt as = some i
  | .nil, _, h => by cases h
  | .ex _ r, j, h => by
    rw [muPos] at h
    obtain ⟨j', h1, rfl⟩ := Option.map_eq_some_iff.mp h
    obtain ⟨k1, k2⟩ := muPos_some (as := r) h1
    exact ⟨Nat.succ_lt_succ k1, k2⟩
  | .bo _ r, j, h => by
    rw [muPos] at h
    obtain ⟨j', h1, rfl⟩ := Option.map_eq_some_iff.mp h
    obtain ⟨k1, k2⟩ := muPos_some (as := r) h1
    exact ⟨Nat.succ_lt_succ k1, k2⟩
  | .mu i _, j, h => by
    cases h
    exact ⟨Nat.succ_pos _, i, rfl⟩
theorem fill_len : ∀ {as : AL} {ds full : List D}, MZ.fill as ds ρ = some full → full.length = as.len
  | .nil, [], _, e => by rw [MZ.fill] at e; cases e; rfl
  | .nil, _ :: _, _, e => by rw [MZ.fill] at e <;> first | cases e | simp
  | .ex _ r, [], _, e => by rw [MZ.fill] at e <;> first | cases e | simp
  | .ex _ r, d :: ds, _, e => by
    rw [MZ.fill] at e
    obtain ⟨f, e1, rfl⟩ := Option.map_eq_some_iff.mp e
    rw [List.length_cons, fill_len e1]; rfl
  | .bo i r, _, _, e => by
    rw [MZ.fill] at e
    obtain ⟨d, e0, e⟩ := Option.bind_eq_some_iff.mp e
    obtain ⟨f, e1, rfl⟩ := Option.map_eq_some_iff.mp e
    rw [List.length_cons, fill_len e1]; rfl
  | .mu i r, _, _, e => by
    rw [MZ.fill] at e
    obtain ⟨d, e0, e⟩ := Option.bind_eq_some_iff.mp e
    obtain ⟨f, e1, rfl⟩ := Option.map_eq_some_iff.mp e
    rw [List.length_cons, fill_len e1]; rfl
end
section
variable {G : Gb} {cf : FnI} {lf : Nat → Env → Out D} {S : SC} {pos : Pos} {e : Expr} {es : List Expr} {as : AL}
theorem call_t {fr : Fr} {f : Nat} {fd : Fd} {σ : L2.St} {H : Hp} {Q : VK} (hw : wfA as = true) (hn : as.len = fd.np) (hmu : fd.mu = muPos as) (h : tE G fr (evalE cf lf (.call f as)) σ H Q) :
    tXc G fr cf lf as σ H fun vs H1 => spF G cf f fd vs H1 Q (fun cls d H' => WF G fr cls d σ H') := by
  obtain ⟨ρ, ok, h⟩ := h
  rw [evalE] at h
  refine tX_fold ok ?_
  cases hx : evalX cf lf as ρ with
  | bad => rw [hx] at h; exact h
  | exc k => rw [hx] at h; exact h
  | ok ds ρ1 =>
    rw [hx] at h
    simp only [Out.bind] at h
    intro vs H1 s1 rx
    cases hf : MZ.fill as ds ρ1 with
    | none => rw [hf] at h; exact h.elim
    | some full =>
      rw [hf] at h
      simp only [lift] at h
      obtain ⟨hvl, ha⟩ := rx.args s1.ok hw hf
      have hfl := fill_len hf
      have hkx : ∀ {m : Option (Nat × Addr)}, (∀ i a, m = some (i, a) → ∃ j, LooseAt ρ1 σ j a) → ∀ {H2}, KeepX G (frC fr ρ1 σ H1 m) H2 → KeepX G fr H2 := fun {m} hm {H2} q => ⟨fun b o q1 q2 q3 => q.keep b o (s1.ok.keep b o q1 q2 q3) (fun ⟨i, y⟩ => by
        obtain ⟨j, hm⟩ := hm i b y
        rcases s1.ok.own0 j b hm with z | z
        · exact q2 z
        · obtain ⟨ps, z⟩ := z o q1
          exact q3 ps z) q3, q.tab⟩
      cases hm : muPos as with
      | none =>
        have hma : muAt as = none := by
          cases z : muAt as with
          | none => rfl
          | some i =>
            have : ∀ {as : AL}, muAt as ≠ none → muPos as ≠ none := fun {as} y => by
              induction as using AL.rec (motive_1 := fun _ => True) with
              | nil => exact y
              | ex c r _ ih => intro w; rw [muPos] at w; exact ih y (Option.map_eq_none_iff.mp w)
              | bo i r ih => intro w; rw [muPos] at w; exact ih y (Option.map_eq_none_iff.mp w)
              | mu i r ih => intro w; cases w
              | _ => trivial
            exact (this (by rw [z]; exact fun w => nomatch w) hm).elim
        have hid : ∀ {H'}, hideC (frC fr ρ1 σ H1 none) H' = vis fr ρ1 σ H' := fun {H'} => hideC_vis (fun i a z => by cases z)
        refine ⟨full, frC fr ρ1 σ H1 none, ⟨rfl, fun a z => ?_, s1.ok.tab, .inl ⟨hmu.trans hm, rfl⟩, fun j d v e1 e2 => ⟨fun z => ?_, fun _ => ?_⟩, hfl.trans hn, hvl.trans (hfl.trans hn)⟩, ?_⟩
        · refine ⟨fun ⟨i, y⟩ => (by cases y), ?_⟩
          rcases z with z | z
          · exact s1.ok.hid z
          · exact s1.ok.there z.1
        · rw [hmu, hm] at z; cases z
        · rw [hid]
          exact (ha j d v e1 e2).2 (by rw [hm]; exact fun z => nomatch z)
        · cases hc : cf f full with
          | bad => rw [hc] at h; exact h.elim
          | exc k => rw [hc] at h; exact fun H2 q => ⟨k, rfl, rfl, hkx (fun i a z => by cases z) q, h⟩
          | ok d o =>
            rw [hc] at h
            simp only [callO, hma] at h
            intro v H2 x
            rcases x.out with ⟨rfl, _⟩ | ⟨d', i, a, _, z, _⟩
            · simp only [putOut, liftE, Out.bind] at h
              have g := s1.ok.grow (H1 := H2) (fun b o q n => x.keep.keep b o q (fun ⟨i, y⟩ => by cases y) n) x.keep.tab
              refine h v H2 (s1.trans g) ?_
              have := x.rep
              rw [hid] at this
              exact this
            · cases z
      | some j =>
        obtain ⟨jl, i, hma⟩ := muPos_some hm
        have jf : j < full.length := by rw [hfl]; exact jl
        have jv : j < vs.length := by rw [hvl]; exact jf
        obtain ⟨i', a, u, hma', hu, hu', hva, hsa, hod⟩ := (ha j full[j] vs[j] (List.getElem?_eq_getElem jf) (List.getElem?_eq_getElem jv)).1 hm
        rw [hma] at hma'
        cases hma'
        have svu : svOwn u = some full[j] := by rcases hu' with rfl | rfl <;> rfl
        have hOwn : Own ρ1 σ a := ⟨i, ⟨u, hu, isOwn_sv.mpr ⟨_, svu⟩⟩, hsa⟩
        have hmm : ∀ i' a', some (j, a) = some (i', a') → Own ρ1 σ a' := fun i' a' z => by cases z; exact hOwn
        have hml : ∀ i' a', some (j, a) = some (i', a') → ∃ k, LooseAt ρ1 σ k a' := fun i' a' z => by cases z; exact ⟨i, ⟨u, hu, by rcases hu' with rfl | rfl <;> rfl⟩, hsa⟩
        have hid : ∀ {H'}, hideC (frC fr ρ1 σ H1 (some (j, a))) H' = vis fr ρ1 σ H' := fun {H'} => hideC_vis hmm
        refine ⟨full, frC fr ρ1 σ H1 (some (j, a)), ⟨rfl, fun b z => ?_, s1.ok.tab, .inr ⟨j, a, hmu.trans hm, rfl, hn ▸ jl⟩, fun j' d v e1 e2 => ⟨fun z => ?_, fun z => ?_⟩, hfl.trans hn, hvl.trans (hfl.trans hn)⟩, ?_⟩
        · rcases z with z | z
          · refine ⟨fun ⟨i', y⟩ => ?_, s1.ok.hid z⟩
            cases y
            exact s1.ok.nh a hOwn z
          · exact ⟨fun ⟨i', y⟩ => z.2 i' y, s1.ok.there z.1⟩
        · rw [hmu, hm] at z
          cases z
          rw [List.getElem?_eq_getElem jf] at e1
          cases e1
          rw [List.getElem?_eq_getElem jv] at e2
          cases e2
          exact ⟨a, hva, rfl, by rw [hid]; exact hod⟩
        · rw [hid]
          exact (ha j' d v e1 e2).2 (by rw [← hmu]; exact z)
        · cases hc : cf f full with
          | bad => rw [hc] at h; exact h.elim
          | exc k => rw [hc] at h; exact fun H2 q => ⟨k, rfl, rfl, hkx hml q, h⟩
          | ok d o =>
            rw [hc] at h
            simp only [callO, hma] at h
            intro v H2 x
            rcases x.out with ⟨_, z⟩ | ⟨d', i', a', rfl, z, ho⟩
            · cases z
            · cases z
              rw [hid] at ho
              cases d' <;> try exact ho.elim
              rename_i l'
              obtain ⟨xs', ho1, ho2⟩ := ho
              have kp : ∀ b o, H1 b = some o → b ≠ a → (∀ ps, o ≠ .tbl ps) → H2 b = some o := fun b o q1 q2 q3 => x.keep.keep b o q1 (fun ⟨i', y⟩ => by cases y; exact q2 rfl) q3
              have xr := x.rep
              rw [hid] at xr
              rcases hu' with rfl | rfl
              · obtain ⟨st, ev⟩ := call_mut (u' := .ow (.lst l')) s1.ok hu svu rfl (fun _ z => nomatch z) (fun _ z => nomatch z) hsa kp x.keep.tab ho1 ho2
                simp only [putOut, hu, liftE, Out.bind] at h
                exact h v H2 (s1.trans st) (xr.mono ev)
              · obtain ⟨st, ev⟩ := call_mut (u' := .mp (.lst l')) s1.ok hu svu rfl (fun _ z => nomatch z) (fun _ z => ⟨_, rfl⟩) hsa kp x.keep.tab ho1 ho2
                simp only [putOut, hu, liftE, Out.bind] at h
                exact h v H2 (s1.trans st) (xr.mono ev)
/-- f(e, ..), f a def -/
theorem ee_call {x : Str} {p1 : Pos} {f k : Nat} {fd : Fd} {fa : Addr} {fdat : FuncData} {ps : List Str} (F : FnOk G.prog G.w G.K G.mg G.base (L2.CX G.prog G.w) k fa fdat ps (spF G cf f fd)) (hk : k ≤ S.lvl) (hg : S.sc.names.lookup x = some .globalImplicit) (hm : G.mg x = some (.ref fa)) (hkp : PySem.W.keepIn G.K (.ref fa) = true) (hb : Binds G.K fdat ps [])
    (ha : EA G cf lf S (e :: es) as) (hw : wfA as = true) (hn : as.len = fd.np) (hmu : fd.mu = muPos as)
    (he : ∀ env : PySem.Env, starEach (e :: es) env = (false, eval e env) :: starEach es env) (hpl : ∀ env : PySem.Env, (backTo pos (starEach es env)).any (·.1) = false) (hdb : (x == ("__debug__" : Str)) = false := by decide) : EE G cf lf S (.Call (.Name x p1) (e :: es) [] pos) (.call f as) := fun fr X c => by
  have F' : FnOk X.prog X.w X.K X.mg X.base (L2.CX X.prog X.w) k fa fdat ps (spF G cf f fd) := by rw [c.prog, c.w, c.K, c.mg, c.base]; exact F
  exact pe_imp (pe_callS (E := fun σ cls d H' => WF G fr cls d σ H') F' (c.room.mono hk) (c.gl hg) (c.hm hm) (by rw [c.K]; exact hkp) (by rw [c.K]; exact hb) (fun σ pins H s e s' I q => c.tk.passes (E := fun cls d H' => WF G fr cls d σ H') (fun cls d σ' H' w => w) pins σ H s e s' I q) (ha fr X c) hdb (he _) (hpl _)) fun σ H Q h => call_t hw hn hmu h
end
end MZ
end
section
set_option maxRecDepth 100000
set_option maxHeartbeats 2000000
namespace MZ
open PySem PySem.Spec PyProof.Rows L2 LamX MX RZ
section
variable {fd : Fd} {ds : List D} {vs : List V} {N : List Str}
theorem entry_in {i : Nat} {d : D} (h : ds[i]? = some d) : (entry fd ds)[i]? = some (if fd.mu = some i then SV.mp d else .pu d) := by
  unfold entry
  have hl := get_lt h
  rw [List.getElem?_append_left (by simpa using hl), List.getElem?_map, List.getElem?_zipIdx, h]
  simp
theorem entry_get {i : Nat} {u : SV} (h : (entry fd ds)[i]? = some u) : (∃ d, ds[i]? = some d ∧ u = if fd.mu = some i then SV.mp d else .pu d) ∨ (ds.length ≤ i ∧ u = .no) := by
  by_cases hl : i < ds.length
  · have := entry_in (fd := fd) (List.getElem?_eq_getElem hl)
    rw [h] at this
    exact .inl ⟨ds[i], List.getElem?_eq_getElem hl, Option.some.inj this⟩
  · right
    refine ⟨Nat.le_of_not_lt hl, ?_⟩
    unfold entry at h
    rw [List.getElem?_append_right (by simpa using Nat.le_of_not_lt hl)] at h
    exact List.eq_of_mem_replicate (List.mem_of_getElem? h)
theorem entry_len (hn : fd.np ≤ fd.n) (hl : ds.length = fd.np) : (entry fd ds).length = fd.n := by
  unfold entry
  simp [hl]
  omega
theorem start_get {i : Nat} {v : V} (h : vs[i]? = some v) : (L2.start N vs)[i]? = some (some v) := by
  unfold L2.start
  rw [List.getElem?_append_left (by simpa using get_lt h), List.getElem?_map, h]
  rfl
theorem start_len (h : vs.length ≤ N.length) : (L2.start N vs).length = N.length := by
  unfold L2.start
  simp
  omega
end
section
variable {G : Gb} {fd : Fd} {fr : Fr} {ds : List D} {vs : List V} {N : List Str} {H : Hp}
theorem entry_ok (e : Entry G fd fr ds vs H) (hN : fd.n = N.length) (hn : fd.np ≤ fd.n) : OkF G fr (entry fd ds) (L2.start N vs) H ∧ vis fr (entry fd ds) (L2.start N vs) H = hideC fr H := by
  have hpair : ∀ {i d}, ds[i]? = some d → ∃ v, vs[i]? = some v := fun {i d} h => by
    have : i < vs.length := by rw [e.vlen, ← e.len]; exact get_lt h
    exact ⟨_, List.getElem?_eq_getElem this⟩
  have hat : ∀ {i a}, OwnAt (entry fd ds) (L2.start N vs) i a → fr.mt = some (i, a) := fun {i a} ⟨⟨w, h1, h2⟩, h3⟩ => by
    rcases entry_get h1 with ⟨d, hd, rfl⟩ | ⟨_, rfl⟩
    · obtain ⟨v, hv⟩ := hpair hd
      split at h2
      · rename_i hm
        obtain ⟨b, rfl, q, _⟩ := (e.arg i d v hd hv).1 hm
        rw [start_get hv] at h3
        cases h3
        exact q
      · cases h2
    · cases h2
  have hta : ∀ {i a}, fr.mt = some (i, a) → (∃ d, (entry fd ds)[i]? = some (SV.mp d)) ∧ (L2.start N vs)[i]? = some (some (.ref a)) := fun {i a} q => by
    rcases e.mt with ⟨_, z⟩ | ⟨i', a', hm, hf, hi⟩
    · rw [q] at z; cases z
    · rw [q] at hf
      cases hf
      have hl : i < ds.length := by rw [e.len]; exact hi
      have hd := List.getElem?_eq_getElem hl
      obtain ⟨v, hv⟩ := hpair hd
      obtain ⟨b, rfl, q', _⟩ := (e.arg i _ v hd hv).1 hm
      rw [q] at q'
      cases q'
      exact ⟨⟨_, by rw [entry_in hd, if_pos hm]⟩, start_get hv⟩
  have hown : ∀ {a}, Own (entry fd ds) (L2.start N vs) a ↔ fr.A0 a := fun {a} => ⟨fun ⟨i, z⟩ => ⟨i, hat z⟩, fun ⟨i, z⟩ => ⟨i, by
    obtain ⟨⟨d, z1⟩, z2⟩ := hta z
    exact ⟨⟨_, z1, rfl⟩, z2⟩⟩⟩
  have hv : vis fr (entry fd ds) (L2.start N vs) H = hideC fr H := by
    unfold vis hideC
    congr 1
    funext a
    rw [hown]
  refine ⟨⟨by rw [entry_len hn e.len, start_len (by rw [e.vlen, ← hN]; exact hn), hN], fun i u h => ?_, fun i j a p q => ?_, fun a o z => ?_, fun a z => ?_, fun a o q _ _ => ?_, fun i a o => .inl (hown.mp ⟨i, o.own⟩), e.tab, fun i a q => ⟨(hta q).1.elim fun d z => ⟨d, .inl z⟩, (hta q).2⟩⟩, hv⟩
  · rw [hv]
    rcases entry_get h with ⟨d, hd, rfl⟩ | ⟨_, rfl⟩
    · obtain ⟨v, hv⟩ := hpair hd
      rw [start_get hv]
      obtain ⟨k1, k2⟩ := e.arg i d v hd hv
      split
      · rename_i hm
        obtain ⟨a, rfl, _, q⟩ := k1 hm
        exact ⟨a, rfl, q⟩
      · rename_i hm
        exact ⟨v, rfl, k2 hm⟩
    · exact trivial
  · have h1 := hat p
    rw [hat q] at h1
    cases h1
    rfl
  · exact (e.hdl a z).1 (hown.mp o)
  · obtain ⟨h1, h2⟩ := e.hdl a z
    rw [e.h0]
    exact ⟨h1, h2⟩
  · rw [e.h0] at q
    exact q
/-- THE RULE for a def: its body computes what the core's body computes -/
theorem fn_sound {cf cf' : FnI} {name qual : Str} {params : Arguments} {body : List Stmt} {scope : Scope} {dV kV doc pm cdv ct oc : Value} {an od : Option Addr} {osl : Array (Option Value)} {f : Nat} {fa : Addr} {ps : List Str} {k : Nat}
    (lk : G.K.lookup fa = some ⟨oc, od, .func (PySem.W.fnOf name qual params body scope dV kV doc pm an cdv ct), osl⟩) (hcd : PySem.W.codeIn G.K cdv qual = true) (S : FnScope N ps scope) (hps : ps.length = fd.np) (hN : fd.n = N.length) (hn : fd.np ≤ fd.n)
    (hcf : ∀ ds, ds.length = fd.np → cf' f ds = endF fd.mu (evalSL cf (lamsF cf fd) fd.body (entry fd ds)))
    (hbody : ESs G cf (lamsF cf fd) { N := N, sc := scope, lvl := k, kd := 0, cd := cdv, qual := qual ++ ".<locals>." } body fd.body) :
    FnOk G.prog G.w G.K G.mg G.base (L2.CX G.prog G.w) (k + 1) fa (PySem.W.fnOf name qual params body scope dV kV doc pm an cdv ct) ps (spF G cf' f fd) := by
  refine fn_of lk hcd S (fun vs H Q E ⟨ds, fr, e, _⟩ => e.vlen.trans hps.symm) fun A outer s H vs Q E hr hsp => ?_
  obtain ⟨ds, fr0, e, h⟩ := hsp
  let fr : Fr := { fr0 with ek := fun k => endF fd.mu (evalSL cf (lamsF cf fd) fd.body (entry fd ds)) = .exc k }
  have e' : Entry G fd fr ds vs H := ⟨e.h0, e.hdl, e.tab, e.mt, e.arg, e.len, e.vlen⟩
  have hE : ∀ cls d σ' H', WF G fr cls d σ' H' → E cls d H' := fun cls d σ' H' ⟨j, h1, h2, h3, h4⟩ => by
    subst h1 h2
    rw [hcf ds e.len, show endF fd.mu (evalSL cf (lamsF cf fd) fd.body (entry fd ds)) = .exc j from h4] at h
    exact h H' ⟨h3.keep, h3.tab⟩
  have tk : Takes (cxOf (L2.CX G.prog G.w) G.prog G.w G.K G.mg G.base N qual scope fa cdv A outer s H E) (WF G fr) := (takes_of rfl rfl rfl rfl).imp fun c d σ' H' w => hE c d σ' H' w
  have cx : CxS G { N := N, sc := scope, lvl := k, kd := 0, cd := cdv, qual := qual ++ ".<locals>." } fr (cxOf (L2.CX G.prog G.w) G.prog G.w G.K G.mg G.base N qual scope fa cdv A outer s H E) :=
    ⟨rfl, rfl, rfl, rfl, rfl, rfl, rfl, S.nd, rfl, hr, .of tk, fun _ _ => rfl, fun _ => ⟨rfl, rfl, tk⟩, fun _ => passes_of rfl, fun _ => ⟨rfl, rfl⟩, fun c z => by cases z⟩
  refine ⟨_, hbody fr _ cx, ?_⟩
  obtain ⟨ok, hv⟩ := entry_ok (N := N) e' hN hn
  refine ⟨entry fd ds, ok, ?_⟩
  rw [hcf ds e.len] at h
  have fin : ∀ {d : D} {ρ' : Env} {v : V} {σ' : L2.St} {H' : Hp}, Step G fr (entry fd ds) (L2.start N vs) H ρ' σ' H' → Rep G.B (vis fr ρ' σ' H') d v → (match endO fd.mu d ρ' with | .ok d o => ∀ v H', Exit G fr0 o H' d v → Q v H' | .exc k => ∀ H', KeepX G fr0 H' → E (G.xc k) none H' | .bad => False) → Q v H' := fun {d ρ' v σ' H'} s r q => by
    unfold endO outD at q
    have kx : KeepX G fr0 H' := ⟨s.ok.keep, s.ok.tab⟩
    have ev : ExtN (vis fr ρ' σ' H') (hideC fr0 H') := hide_le (fun a z => z.imp id fun ⟨i, y⟩ => by
      obtain ⟨⟨d, z⟩, z2⟩ := s.ok.mts i a y
      exact ⟨i, z.elim (fun w => ⟨_, w, rfl⟩) (fun w => ⟨_, w, rfl⟩), z2⟩) fun a o _ q _ => q
    rcases e.mt with ⟨hm, hz⟩ | ⟨i, a, hm, hz, _⟩
    · rw [hm] at q
      exact q v H' ⟨kx, r.mono ev, .inl ⟨rfl, hz⟩⟩
    · rw [hm] at q
      simp only at q
      obtain ⟨⟨d', z⟩, z2⟩ := s.ok.mts i a hz
      rcases z with z | z
      · rw [z] at q
        obtain ⟨a', y1, y2⟩ := (SlotOk.own rfl).mp (s.ok.slot i _ z)
        rw [z2] at y1
        cases y1
        exact q v H' ⟨kx, r.mono ev, .inr ⟨d', i, a, rfl, hz, y2.mono ev fun _ w => w⟩⟩
      · rw [z] at q
        exact q.elim
  cases hb : evalSL cf (lamsF cf fd) fd.body (entry fd ds) with
  | bad => rw [hb] at h; exact h
  | exc j =>
    show endF fd.mu (evalSL cf (lamsF cf fd) fd.body (entry fd ds)) = .exc j
    rw [hb]
    rfl
  | next ρ' => rw [hb] at h; exact fun σ' H' s => fin s rep_non h
  | ret d ρ' => rw [hb] at h; exact fun v σ' H' s r => fin s r h
  | brk ρ' => rw [hb] at h; exact h.elim
  | cont ρ' => rw [hb] at h; exact h.elim
/-- a def that is never done -/
theorem fn_bad {cf : FnI} {f : Nat} {fa : Addr} {fdat : FuncData} {ps : List Str} {k : Nat} (hps : ps.length = fd.np) (hcf : ∀ ds, cf f ds = .bad) : FnOk G.prog G.w G.K G.mg G.base (L2.CX G.prog G.w) k fa fdat ps (spF G cf f fd) :=
  ⟨fun vs H Q E ⟨ds, fr, e, _⟩ => e.vlen.trans hps.symm, fun A outer s H args us vs Q E _ _ _ _ ⟨ds, fr, e, h⟩ => by rw [hcf] at h; exact h.elim⟩
end
end MZ
end
section
set_option maxRecDepth 100000
set_option maxHeartbeats 2000000
namespace MZ
open PySem PySem.Spec PyProof.Rows L2 LamX MX RZ
section
variable {G : Gb} {fr : Fr} {ρ ρ1 ρ2 ρ' : Env} {σ σ1 σ2 : L2.St} {H H1 H2 H' H'' : Hp} {vs : List Nat}
theorem lockA_get {j : Nat} {w : SV} (h : (lockA ρ)[j]? = some w) : ∃ u, ρ[j]? = some u ∧ ((isOwn u = false ∧ w = u) ∨ ∃ d, svOwn u = some d ∧ w = .lk d) := by
  unfold lockA at h
  rw [List.getElem?_map] at h
  obtain ⟨u, e, rfl⟩ := Option.map_eq_some_iff.mp h
  refine ⟨u, e, ?_⟩
  cases u
  · exact .inl ⟨rfl, rfl⟩
  · exact .inl ⟨rfl, rfl⟩
  · exact .inr ⟨_, rfl, rfl⟩
  · exact .inr ⟨_, rfl, rfl⟩
  · exact .inr ⟨_, rfl, rfl⟩
theorem lockA_own {j : Nat} {u : SV} {d : D} (h : ρ[j]? = some u) (hu : svOwn u = some d) : (lockA ρ)[j]? = some (.lk d) := by
  unfold lockA
  rw [List.getElem?_map, h]
  cases u <;> simp [svOwn] at hu <;> subst hu <;> rfl
theorem lockA_len : (lockA ρ).length = ρ.length := List.length_map ..
theorem lockA_step (ok : OkF G fr ρ σ H) : OkF G fr (lockA ρ) σ H ∧ ExtN (vis fr ρ σ H) (vis fr (lockA ρ) σ H) ∧ ExtN (vis fr (lockA ρ) σ H) (vis fr ρ σ H) :=
  relabel ok lockA_len (fun j w h => by
    obtain ⟨u, e, z⟩ := lockA_get h
    refine ⟨u, e, ?_⟩
    rcases z with ⟨_, rfl⟩ | ⟨d, z, rfl⟩
    · exact .inl rfl
    · exact .inr ⟨d, z, rfl⟩) (fun i a ⟨⟨w, e1, e2⟩, e3⟩ => by
    obtain ⟨u, e, z⟩ := lockA_get e1
    rcases z with ⟨n, rfl⟩ | ⟨d, _, rfl⟩
    · rw [loose_own e2] at n; cases n
    · cases e2) fun i a e => by
    obtain ⟨⟨d, z⟩, _⟩ := ok.mts i a e
    exact ⟨d, .inr (z.elim (fun y => lockA_own y rfl) fun y => lockA_own y rfl)⟩
/-- a state within another frame's run, that looks on -/
structure GI (G : Gb) (fr : Fr) (ρ1 : Env) (σ : L2.St) (H1 : Hp) (vs : List Nat) (ρ' : Env) (H' : Hp) : Prop where
  ok : OkF G fr (wipeE vs ρ') (wipe σ vs) H'
  ext : ExtN (vis fr ρ1 σ H1) (vis fr (wipeE vs ρ') (wipe σ vs) H')
  own : ∀ (j : Nat) (u : SV) (d : D), ρ1[j]? = some u → svOwn u = some d → ρ'[j]? = some (.lk d)
theorem gi_stay (ok1 : OkF G fr ρ1 σ H1) (hno : noOwn vs ρ1 = true) (g : GI G fr ρ1 σ H1 vs ρ' H') : Step G fr ρ1 σ H1 ρ1 σ H' ∧ ExtN (vis fr (wipeE vs ρ') (wipe σ vs) H') (vis fr ρ1 σ H') := by
  have out : ∀ {j u d}, ρ1[j]? = some u → svOwn u = some d → j ∉ vs := fun {j u d} e z m => by
    have := noOwn_not hno j m u e
    rw [isOwn_sv.mpr ⟨d, z⟩] at this
    cases this
  have hat : ∀ {j a}, OwnAt ρ1 σ j a → OwnAt (wipeE vs ρ') (wipe σ vs) j a := fun {j a} ⟨⟨u, e1, e2⟩, e3⟩ => by
    obtain ⟨d, z⟩ := isOwn_sv.mp e2
    have m := out e1 z
    exact ⟨⟨.lk d, by rw [wipeE_out m]; exact g.own j u d e1 z, rfl⟩, by rw [wipe_out m]; exact e3⟩
  have hv : ExtN (vis fr (wipeE vs ρ') (wipe σ vs) H') (vis fr ρ1 σ H') := vis_le (fun a ⟨j, z⟩ => ⟨j, hat z⟩) (.refl _)
  refine ⟨⟨⟨ok1.len, fun j u e => ?_, fun j k a p q => ok1.dist j k a p q, ok1.nh, ok1.hdl, g.ok.keep, ok1.own0, g.ok.tab, ok1.mts⟩, g.ext.trans hv, fun j d e => ⟨e, rfl⟩⟩, hv⟩
  have own : ∀ {d}, svOwn u = some d → SlotOk G.B (vis fr ρ1 σ H') H' u σ[j]? := fun {d} z => by
    have m := out e z
    obtain ⟨a, y1, y2⟩ := (SlotOk.own (v := .lk d) rfl).mp (g.ok.slot j _ (by rw [wipeE_out m]; exact g.own j u d e z))
    rw [wipe_out m] at y1
    exact (SlotOk.own z).mpr ⟨a, y1, y2.mono hv fun _ w => w⟩
  cases u with
  | no => exact trivial
  | pu d =>
    obtain ⟨x, x1, x2⟩ := ok1.slot j _ e
    exact ⟨x, x1, x2.mono (g.ext.trans hv)⟩
  | ow d => exact own rfl
  | lk d => exact own rfl
  | mp d => exact own rfl
theorem gi_next (hno : noOwn vs ρ1 = true) (hm : ∀ i a, fr.mt = some (i, a) → i ∉ vs) (g : GI G fr ρ1 σ H1 vs ρ' H') (s : Step G fr (wipeE vs ρ') (wipe σ vs) H' ρ2 σ2 H'') (hw : wipe σ2 vs = wipe σ vs) : GI G fr ρ1 σ H1 vs ρ2 H'' ∧ ExtN (vis fr ρ2 σ2 H'') (vis fr (wipeE vs ρ2) (wipe σ vs) H'') := by
  obtain ⟨k2, k3⟩ := wipe_ok s.ok hm
  rw [hw] at k2 k3
  refine ⟨⟨k2, g.ext.trans (s.ext.trans k3), fun j u d e z => ?_⟩, k3⟩
  have m : j ∉ vs := fun m => by
    have := noOwn_not hno j m u e
    rw [isOwn_sv.mpr ⟨d, z⟩] at this
    cases this
  exact (s.lk j d (by rw [wipeE_out m]; exact g.own j u d e z)).1
theorem gi_later {bs : List Nat} (hno : noOwn vs ρ1 = true) (ok1 : OkF G fr ρ1 σ H1) (g : GI G fr ρ1 σ H1 vs ρ' H') : Later G fr (lockL bs ρ1) σ H1 fr (wipeE vs ρ') (wipe σ vs) H' := by
  have hv : ExtN (vis fr (lockL bs ρ1) σ H1) (vis fr ρ1 σ H1) := (relabel ok1 (lockL_len bs ρ1) (fun j w h => by
    obtain ⟨u, e, z⟩ := lock_get h
    refine ⟨u, e, ?_⟩
    rcases z with rfl | ⟨d, rfl, rfl⟩
    · exact .inl rfl
    · exact .inr ⟨d, rfl, rfl⟩) (lock_step ok1 bs).ok.own0 fun i a e => ((lock_step ok1 bs).ok.mts i a e).1).2.2
  refine ⟨g.ok, hv.trans g.ext, fun j d e => ?_⟩
  obtain ⟨u, e1, z⟩ := lock_get e
  have su : svOwn u = some d := by
    rcases z with rfl | ⟨d', rfl, z⟩
    · rfl
    · cases z; rfl
  have m : j ∉ vs := fun m => by
    have := noOwn_not hno j m u e1
    rw [isOwn_sv.mpr ⟨d, su⟩] at this
    cases this
  exact ⟨by rw [wipeE_out m]; exact g.own j u d e1 su, wipe_out m⟩
theorem tabbed_ok {P : Addr} (ok : OkF G fr ρ σ H1) (hP : ∀ p ∈ G.T, p.1 = P → p.2 = none) (hT : GxR.TabG H1 P) (t : GxR.Tabbed P H1 H2) : Step G fr ρ σ H1 ρ σ H2 := by
  obtain ⟨ps, hT, _⟩ := hT
  have same : ∀ {b o}, H1 b = some o → (∀ ps, o ≠ .tbl ps) → H2 b = some o := fun {b o} e n => by
    rw [t.2 b (fun z => by subst z; rw [hT] at e; cases e; exact n _ rfl)]
    exact e
  refine ok.grow (fun b o e n => same e n) fun p m => ?_
  have tp := ok.tab p m
  unfold TabOk at tp ⊢
  by_cases e : p.1 = P
  · rw [hP p m e]
    rw [e]
    exact t.1
  · split
    · rename_i y
      rw [y] at tp
      obtain ⟨qs, t1, t2⟩ := tp
      exact ⟨qs, by rw [t.2 _ e]; exact t1, t2⟩
    · rename_i q y
      rw [y] at tp
      obtain ⟨qs, t1, t2, t3⟩ := tp
      refine ⟨qs, by rw [t.2 _ e]; exact t1, t2, fun pos cv x => ?_⟩
      obtain ⟨c, c1, c2⟩ := t3 pos cv x
      exact ⟨c, c1, same c2 (fun ps z => nomatch z)⟩
theorem gi_start (ok1 : OkF G fr ρ1 σ H1) (hm : ∀ i a, fr.mt = some (i, a) → i ∉ vs) (s : Step G fr ρ1 σ H1 ρ1 σ H2) : GI G fr ρ1 σ H1 vs (lockA ρ1) H2 := by
  obtain ⟨k1, k2, _⟩ := lockA_step s.ok
  obtain ⟨w1, w2⟩ := wipe_ok k1 (own := vs) hm
  exact ⟨w1, s.ext.trans (k2.trans w2), fun j u d e z => lockA_own e z⟩
theorem no_mt (ok1 : OkF G fr ρ1 σ H1) (hno : noOwn vs ρ1 = true) : ∀ i a, fr.mt = some (i, a) → i ∉ vs := fun i a e m => by
  obtain ⟨⟨d, z⟩, _⟩ := ok1.mts i a e
  rcases z with z | z
  · have := noOwn_not hno i m _ z; cases this
  · have := noOwn_not hno i m _ z; cases this
end
section
variable {G : Gb} {cf : FnI} {lf : Nat → Env → Out D} {S : SC} {pos : Pos} {tg iter elt e : Expr} {ifs : List Expr} {as : AL} {fr : Fr}
theorem mono_p {p : Pt} {c1 c2 : C} : MonoP (tG G fr p) (tT G fr (evalE cf lf c1)) (tE G fr (evalE cf lf c2)) where
  g := fun x σ H Q Q' k ⟨ρ, d, ok, r, h⟩ => ⟨ρ, d, ok, r, by
    unfold RGok at h ⊢
    split <;> rename_i e <;> rw [e] at h
    · exact fun σ' s z => k _ _ (h σ' s z)
    · exact h⟩
  t := fun σ H Q Q' k ⟨ρ, ok, h⟩ => ⟨ρ, ok, by
    unfold RTok at h ⊢
    split <;> rename_i e <;> rw [e] at h
    · obtain ⟨b, hb, h⟩ := h
      exact ⟨b, hb, fun H' s => k _ _ (h H' s)⟩
    · exact h
    · exact h⟩
  e := fun σ H Q Q' k ⟨ρ, ok, h⟩ => ⟨ρ, ok, by
    unfold ROk at h ⊢
    split <;> rename_i e <;> rw [e] at h
    · exact fun v H' s r => k _ _ (h v H' s r)
    · exact h
    · exact h⟩
/-- what becomes of a generator expression's run -/
def postG (x : Cons) (ρ1 : Env) (o : Out (List D ⊕ D)) : Out D := (o.stay ρ1).bind fun r ρ3 => match r with
  | .inr d => .ok d ρ3
  | .inl st => lift (endG x st) ρ3
/-- the first part of a run, up to the iterator -/
theorem gx_open {x : Cons} {k : ItK} {p : Pt} {c1 c2 : C} {vs : List Nat} {σ : L2.St} {H : Hp} {Q : VK} {R : It → Hp → Prop} (h : tE G fr (evalE cf lf (.gen x p k as c1 c2 vs)) σ H Q)
    (q : ∀ ρ ρ1 items J H1, Step G fr ρ σ H ρ1 σ H1 → noOwn vs ρ1 = true → JOk G fr (lockL (bors as) ρ1) σ H1 items J → ROk G fr ρ σ H (postG x ρ1 (genF p vs (evalE cf lf c1) (evalE cf lf c2) (stepG x) items [] (lockA ρ1))) Q → R J H1) : tI G cf lf fr k as σ H R := by
  obtain ⟨ρ, ok, h⟩ := h
  rw [evalE] at h
  refine ⟨ρ, ok, ?_⟩
  cases hx : evalX cf lf as ρ with
  | bad => rw [hx] at h; exact h
  | exc k => rw [hx] at h; exact h
  | ok ds ρ1 =>
    rw [hx] at h
    simp only [Out.bind] at h
    cases hf : (MZ.fill as ds ρ1).bind (itR k) with
    | none => rw [hf] at h; exact h.elim
    | some items =>
      rw [hf] at h
      simp only [lift] at h
      simp only [RIok, hf]
      split at h
      · rename_i hno
        obtain ⟨hno, hbo⟩ := Bool.and_eq_true_iff.mp hno
        exact ⟨hbo, fun J H1 s1 j => q ρ ρ1 items J H1 s1 hno j h⟩
      · exact h.elim
theorem gtup_t {P : Addr} {k : ItK} {p : Pt} {c1 c2 : C} {vs : List Nat} {σ : L2.St} {H : Hp} {Q : VK} (hP : (P, none) ∈ G.T) (hP2 : ∀ p ∈ G.T, p.1 = P → p.2 = none) (hp : ∀ j ∈ pslots p, j ∈ vs) (h : tE G fr (evalE cf lf (.gen .tup p k as c1 c2 vs)) σ H Q) :
    tGxTup P (tI G cf lf fr k as) (tG G fr p) (tT G fr (evalE cf lf c1)) (tE G fr (evalE cf lf c2)) vs σ H Q := by
  refine gx_open h fun ρ ρ1 items J H1 s1 hno j h => ?_
  have tP : GxR.TabG H1 P := s1.ok.tab (P, none) hP
  refine ⟨tP, fun H4 t4 => ?_⟩
  have s4 := tabbed_ok s1.ok hP2 tP t4
  have hm := no_mt s1.ok hno
  have fexc : ∀ {k}, ROk G fr ρ σ H (postG .tup ρ1 (.exc k)) Q → fr.ek k := fun z => z
  let W : List V → Nat → Nat → Hp → Prop := fun ys i m H' => ∃ ρ' acc, GI G fr ρ1 σ H1 vs ρ' H' ∧ RepL G.B (vis fr (wipeE vs ρ') (wipe σ vs) H') acc ys ∧ m = items.length - i ∧ i ≤ items.length ∧
    ROk G fr ρ σ H (postG .tup ρ1 (genF p vs (evalE cf lf c1) (evalE cf lf c2) (stepG .tup) (items.drop i) acc ρ')) Q
  refine ⟨W, ⟨items.length, lockA ρ1, [], gi_start s1.ok hm s4, RepL.nil.mpr rfl, by omega, Nat.zero_le _, h⟩, fun ys i m H' w => ?_⟩
  obtain ⟨ρ', acc, gi, hacc, em, hi, h⟩ := w
  obtain ⟨jg, js⟩ := j _ _ _ _ (gi_later hno s1.ok gi)
  by_cases e : i = items.length
  · subst e
    rw [List.drop_length, genF] at h
    obtain ⟨st, ev⟩ := gi_stay s1.ok hno gi
    refine .inl ⟨js, fun q n => ?_⟩
    exact h _ _ (s1.trans (st.trans (st.ok.laid n))) (mk_tup st.ok n (hacc.mono ev))
  · have hlt : i < items.length := by omega
    have ge := List.getElem?_eq_getElem hlt
    refine .inr ⟨(jg i items[i] ge).1, fun y H'' hy => ?_⟩
    obtain ⟨sy, ry⟩ := (jg i items[i] ge).2 y H'' hy
    rw [List.drop_eq_getElem_cons hlt, genF] at h
    refine ⟨wipeE vs ρ', items[i], sy.ok, ry, ?_⟩
    cases hb : bindP p items[i] (wipeE vs ρ') with
    | none => rw [hb] at h; exact h.elim
    | some ρb =>
      rw [hb] at h
      simp only [liftE, Out.bind] at h
      intro σ2 sb kb
      have hw : wipe σ2 vs = wipe σ vs := wipe_eq (by
        have e1 := sb.ok.len
        have e2 := bind_len hb
        have e3 := gi.ok.len
        rw [wipe_length] at e3
        omega) kb hp
      refine ⟨hw, ρb, sb.ok, ?_⟩
      cases h1 : evalE cf lf c1 ρb with
      | bad => rw [h1] at h; exact h.elim
      | exc k => rw [h1] at h; exact fexc h
      | ok d ρ2 =>
        rw [h1] at h
        simp only at h
        cases hd : truD d with
        | none => rw [hd] at h; exact h.elim
        | some b =>
          rw [hd] at h
          refine ⟨b, hd, fun H3 s3 => ?_⟩
          have sAll := sy.trans (sb.trans s3)
          cases b with
          | false =>
            obtain ⟨g2, e2⟩ := gi_next hno hm gi sAll hw
            exact ⟨items.length - (i + 1), by omega, ρ2, acc, g2, (hacc.mono sAll.ext).mono e2, rfl, by omega, h⟩
          | true =>
            refine ⟨ρ2, s3.ok, ?_⟩
            simp only at h
            cases h2 : evalE cf lf c2 ρ2 with
            | bad => rw [h2] at h; exact h.elim
            | exc k => rw [h2] at h; exact fexc h
            | ok y ρ3 =>
              rw [h2] at h
              intro v H5 s5 r5
              have sB := sAll.trans s5
              obtain ⟨g2, e2⟩ := gi_next hno hm gi sB hw
              simp only [stepG] at h
              by_cases hz : acc.length < line
              · rw [if_pos hz] at h
                exact ⟨by rw [line_is, hacc.length]; exact hz, items.length - (i + 1), by omega, ρ3, acc ++ [y], g2, ((hacc.mono sB.ext).mono e2).append (RepL.cons (r5.mono e2) (RepL.nil.mpr rfl)), rfl, by omega, h⟩
              · rw [if_neg hz] at h
                exact h.elim
end
end MZ
end
section
set_option maxRecDepth 100000
set_option maxHeartbeats 2000000
namespace MZ
open PySem PySem.Spec PyProof.Rows L2 LamX MX RZ
section
variable {G : Gb} {cf : FnI} {lf : Nat → Env → Out D} {S : SC} {pos : Pos} {tg iter elt e : Expr} {ifs : List Expr} {as : AL} {fr : Fr}
theorem gany_t {P : Addr} {k : ItK} {p : Pt} {c1 c2 : C} {vs : List Nat} {σ : L2.St} {H : Hp} {Q : VK} (hP : (P, none) ∈ G.T) (hP2 : ∀ p ∈ G.T, p.1 = P → p.2 = none) (hp : ∀ j ∈ pslots p, j ∈ vs) (h : tE G fr (evalE cf lf (.gen .any p k as c1 c2 vs)) σ H Q) :
    tGxAny P (tI G cf lf fr k as) (tG G fr p) (tT G fr (evalE cf lf c1)) (tE G fr (evalE cf lf c2)) vs σ H Q := by
  refine gx_open h fun ρ ρ1 items J H1 s1 hno j h => ?_
  have tP : GxR.TabG H1 P := s1.ok.tab (P, none) hP
  refine ⟨tP, fun H4 t4 => ?_⟩
  have s4 := tabbed_ok s1.ok hP2 tP t4
  have hm := no_mt s1.ok hno
  have fexc : ∀ {k}, ROk G fr ρ σ H (postG .any ρ1 (.exc k)) Q → fr.ek k := fun z => z
  let W : Nat → Nat → Nat → Hp → Prop := fun n i m H' => ∃ ρ' acc, GI G fr ρ1 σ H1 vs ρ' H' ∧ acc.length = n ∧ m = items.length - i ∧ i ≤ items.length ∧
    ROk G fr ρ σ H (postG .any ρ1 (genF p vs (evalE cf lf c1) (evalE cf lf c2) (stepG .any) (items.drop i) acc ρ')) Q
  refine ⟨W, ⟨items.length, lockA ρ1, [], gi_start s1.ok hm s4, rfl, by omega, Nat.zero_le _, h⟩, fun _ n i m H' w => ?_⟩
  obtain ⟨ρ', acc, gi, hacc, em, hi, h⟩ := w
  obtain ⟨jg, js⟩ := j _ _ _ _ (gi_later hno s1.ok gi)
  by_cases e : i = items.length
  · subst e
    rw [List.drop_length, genF] at h
    obtain ⟨st, ev⟩ := gi_stay s1.ok hno gi
    exact .inl ⟨js, h _ _ (s1.trans st) rep_bl⟩
  · have hlt : i < items.length := by omega
    have ge := List.getElem?_eq_getElem hlt
    refine .inr ⟨(jg i items[i] ge).1, fun y H'' hy => ?_⟩
    obtain ⟨sy, ry⟩ := (jg i items[i] ge).2 y H'' hy
    rw [List.drop_eq_getElem_cons hlt, genF] at h
    refine ⟨wipeE vs ρ', items[i], sy.ok, ry, ?_⟩
    cases hb : bindP p items[i] (wipeE vs ρ') with
    | none => rw [hb] at h; exact h.elim
    | some ρb =>
      rw [hb] at h
      simp only [liftE, Out.bind] at h
      intro σ2 sb kb
      have hw : wipe σ2 vs = wipe σ vs := wipe_eq (by
        have e1 := sb.ok.len
        have e2 := bind_len hb
        have e3 := gi.ok.len
        rw [wipe_length] at e3
        omega) kb hp
      refine ⟨hw, ρb, sb.ok, ?_⟩
      cases h1 : evalE cf lf c1 ρb with
      | bad => rw [h1] at h; exact h.elim
      | exc k => rw [h1] at h; exact fexc h
      | ok d ρ2 =>
        rw [h1] at h
        simp only at h
        cases hd : truD d with
        | none => rw [hd] at h; exact h.elim
        | some b =>
          rw [hd] at h
          refine ⟨b, hd, fun H3 s3 => ?_⟩
          have sAll := sy.trans (sb.trans s3)
          cases b with
          | false =>
            obtain ⟨g2, e2⟩ := gi_next hno hm gi sAll hw
            exact ⟨items.length - (i + 1), by omega, ρ2, acc, g2, hacc, rfl, by omega, h⟩
          | true =>
            refine ⟨ρ2, s3.ok, ?_⟩
            simp only at h
            cases h2 : evalE cf lf c2 ρ2 with
            | bad => rw [h2] at h; exact h.elim
            | exc k => rw [h2] at h; exact fexc h
            | ok y ρ3 =>
              rw [h2] at h
              intro v H5 s5 r5
              have sB := sAll.trans s5
              obtain ⟨g2, e2⟩ := gi_next hno hm gi sB hw
              simp only at h
              cases y <;> try exact h.elim
              rename_i b
              simp only [Rep] at r5
              subst r5
              simp only [stepG] at h
              by_cases hz : acc.length < line
              · rw [if_pos hz] at h
                refine ⟨by rw [line_is, ← hacc]; exact Nat.succ_lt_succ hz, items.length - (i + 1), by omega, b, rfl, ?_⟩
                cases b with
                | true =>
                  obtain ⟨st, ev⟩ := gi_stay s1.ok hno g2
                  exact h _ _ (s1.trans st) rep_bl
                | false => exact ⟨ρ3, _, g2, by rw [List.length_append, hacc]; rfl, rfl, by omega, h⟩
              · rw [if_neg hz] at h
                exact h.elim
theorem gall_t {P : Addr} {k : ItK} {p : Pt} {c1 c2 : C} {vs : List Nat} {σ : L2.St} {H : Hp} {Q : VK} (hP : (P, none) ∈ G.T) (hP2 : ∀ p ∈ G.T, p.1 = P → p.2 = none) (hp : ∀ j ∈ pslots p, j ∈ vs) (h : tE G fr (evalE cf lf (.gen .all p k as c1 c2 vs)) σ H Q) :
    tGxAll P (tI G cf lf fr k as) (tG G fr p) (tT G fr (evalE cf lf c1)) (tE G fr (evalE cf lf c2)) vs σ H Q := by
  refine gx_open h fun ρ ρ1 items J H1 s1 hno j h => ?_
  have tP : GxR.TabG H1 P := s1.ok.tab (P, none) hP
  refine ⟨tP, fun H4 t4 => ?_⟩
  have s4 := tabbed_ok s1.ok hP2 tP t4
  have hm := no_mt s1.ok hno
  have fexc : ∀ {k}, ROk G fr ρ σ H (postG .all ρ1 (.exc k)) Q → fr.ek k := fun z => z
  let W : Nat → Nat → Nat → Hp → Prop := fun n i m H' => ∃ ρ' acc, GI G fr ρ1 σ H1 vs ρ' H' ∧ acc.length = n ∧ m = items.length - i ∧ i ≤ items.length ∧
    ROk G fr ρ σ H (postG .all ρ1 (genF p vs (evalE cf lf c1) (evalE cf lf c2) (stepG .all) (items.drop i) acc ρ')) Q
  refine ⟨W, ⟨items.length, lockA ρ1, [], gi_start s1.ok hm s4, rfl, by omega, Nat.zero_le _, h⟩, fun _ n i m H' w => ?_⟩
  obtain ⟨ρ', acc, gi, hacc, em, hi, h⟩ := w
  obtain ⟨jg, js⟩ := j _ _ _ _ (gi_later hno s1.ok gi)
  by_cases e : i = items.length
  · subst e
    rw [List.drop_length, genF] at h
    obtain ⟨st, ev⟩ := gi_stay s1.ok hno gi
    exact .inl ⟨js, h _ _ (s1.trans st) rep_bl⟩
  · have hlt : i < items.length := by omega
    have ge := List.getElem?_eq_getElem hlt
    refine .inr ⟨(jg i items[i] ge).1, fun y H'' hy => ?_⟩
    obtain ⟨sy, ry⟩ := (jg i items[i] ge).2 y H'' hy
    rw [List.drop_eq_getElem_cons hlt, genF] at h
    refine ⟨wipeE vs ρ', items[i], sy.ok, ry, ?_⟩
    cases hb : bindP p items[i] (wipeE vs ρ') with
    | none => rw [hb] at h; exact h.elim
    | some ρb =>
      rw [hb] at h
      simp only [liftE, Out.bind] at h
      intro σ2 sb kb
      have hw : wipe σ2 vs = wipe σ vs := wipe_eq (by
        have e1 := sb.ok.len
        have e2 := bind_len hb
        have e3 := gi.ok.len
        rw [wipe_length] at e3
        omega) kb hp
      refine ⟨hw, ρb, sb.ok, ?_⟩
      cases h1 : evalE cf lf c1 ρb with
      | bad => rw [h1] at h; exact h.elim
      | exc k => rw [h1] at h; exact fexc h
      | ok d ρ2 =>
        rw [h1] at h
        simp only at h
        cases hd : truD d with
        | none => rw [hd] at h; exact h.elim
        | some b =>
          rw [hd] at h
          refine ⟨b, hd, fun H3 s3 => ?_⟩
          have sAll := sy.trans (sb.trans s3)
          cases b with
          | false =>
            obtain ⟨g2, e2⟩ := gi_next hno hm gi sAll hw
            exact ⟨items.length - (i + 1), by omega, ρ2, acc, g2, hacc, rfl, by omega, h⟩
          | true =>
            refine ⟨ρ2, s3.ok, ?_⟩
            simp only at h
            cases h2 : evalE cf lf c2 ρ2 with
            | bad => rw [h2] at h; exact h.elim
            | exc k => rw [h2] at h; exact fexc h
            | ok y ρ3 =>
              rw [h2] at h
              intro v H5 s5 r5
              have sB := sAll.trans s5
              obtain ⟨g2, e2⟩ := gi_next hno hm gi sB hw
              simp only at h
              cases y <;> try exact h.elim
              rename_i b
              simp only [Rep] at r5
              subst r5
              simp only [stepG] at h
              by_cases hz : acc.length < line
              · rw [if_pos hz] at h
                refine ⟨by rw [line_is, ← hacc]; exact Nat.succ_lt_succ hz, items.length - (i + 1), by omega, b, rfl, ?_⟩
                cases b with
                | false =>
                  obtain ⟨st, ev⟩ := gi_stay s1.ok hno g2
                  exact h _ _ (s1.trans st) rep_bl
                | true => exact ⟨ρ3, _, g2, by rw [List.length_append, hacc]; rfl, rfl, by omega, h⟩
              · rw [if_neg hz] at h
                exact h.elim
def genS (S : SC) (scope : Scope) (k : Nat) : SC := { N := S.N, sc := scope, lvl := k, kd := 2 }
theorem gen_cx {X : Cx} {k : Nat} {scope : Scope} (c : CxS G S fr X) {Aw : Around} {s4 : Shared} {H4 : Hp} {code : Value} {fp : List Addr} {pn : List (Addr × Obj)} {xe : Value → Shared → Prop}
    (hr : Room k (Aw.deeper (gEnv X scope s4.heap.objs.size code))) (tk : Takes (gcx X Aw s4 H4 (gEnv X scope s4.heap.objs.size code) fp pn xe) (WF G fr)) : CxS G (genS S scope k) fr (gcx X Aw s4 H4 (gEnv X scope s4.heap.objs.size code) fp pn xe) where
  prog := c.prog
  w := c.w
  K := c.K
  mg := c.mg
  base := c.base
  N := c.N
  sc := rfl
  nd := c.nd
  calm := rfl
  room := hr
  tk := .of tk
  fn := fun z => by cases z
  fl := fun _ => ⟨rfl, rfl, tk⟩
  po := fun z => by cases z
  code := fun z => by cases z
  cells := fun c z => by cases z
theorem g_parts {X : Cx} {k : Nat} {scope : Scope} {p : Pt} {c1 c2 : C} (c : CxS G S fr X) (hg : EG G (genS S scope k) tg p) (hc : ETs G cf lf (genS S scope k) ifs c1) (he : EE G cf lf (genS S scope k) elt c2) :
    GParts X tg ifs elt scope k (WF G fr) (tG G fr p) (tT G fr (evalE cf lf c1)) (tE G fr (evalE cf lf c2)) := fun Aw s4 H4 code fp pn xe hr tk => by
  have cx := gen_cx (scope := scope) (fp := fp) (pn := pn) (xe := xe) c hr (tk (WF G fr) fun cls d σ' H w σ => w)
  exact ⟨hg _ _ cx, hc _ _ cx, he _ _ cx⟩
/-- no exception of the frame's is the end of an iteration -/
def NoStop (G : Gb) : Prop := ∀ k, PySem.W.subIn G.K (G.xc k) (.type "StopIteration") = some false
theorem no_stop {X : Cx} (c : CxS G S fr X) (h : NoStop G) : NoStopW X.K (WF G fr) := fun cls d σ H ⟨k, e, _⟩ => by rw [e, c.K]; exact h k
theorem gscp {X : Cx} {scope : Scope} {own : List (Str × Nat)} (c : CxS G S fr X) (h : GScp S.N S.sc scope own) : GScp X.N X.env.scope scope own := by rw [c.N, c.sc]; exact h
theorem ee_gtup {x P : Addr} {k : Nat} {ik : ItK} {scope : Scope} {own : List (Str × Nat)} {p : Pt} {c1 c2 : C} {p1 gpos : Pos} (hkd : S.kd = 0) (hl : S.lvl = k + 1) (hcd : S.cd = .ref x) (TB : GxR.TabB G.base G.mg x P) (hP : (P, none) ∈ G.T) (hP2 : ∀ p ∈ G.T, p.1 = P → p.2 = none) (hns : NoStop G)
    (hgl : S.sc.names.lookup ("tuple" : Str) = some .globalImplicit) (hmg : G.mg "tuple" = none) (sc : GScp S.N S.sc scope own) (hi : EI G cf lf S tg iter ik as) (hg : EG G (genS S scope k) tg p) (hc : ETs G cf lf (genS S scope k) ifs c1) (he : EE G cf lf (genS S scope k) elt c2) (hp : ∀ j ∈ pslots p, j ∈ own.map (·.2))
    (hs : ∀ (env : PySem.Env) v, genFold iter env v = pure v) (hst : ∀ env : PySem.Env, starEach [.GeneratorExp elt [⟨tg, iter, ifs, 0⟩] scope gpos] env = (false, eval (.GeneratorExp elt [⟨tg, iter, ifs, 0⟩] scope gpos) env) :: starEach [] env) :
    EE G cf lf S (.Call (.Name "tuple" p1) [.GeneratorExp elt [⟨tg, iter, ifs, 0⟩] scope gpos] [] pos) (.gen .tup p ik as c1 c2 (own.map (·.2))) := fun fr X c =>
  pe_imp (pe_tupG (W := WF G fr) (by rw [← hl]; exact c.room) (by rw [c.N]; exact c.nd) c.calm (c.gl hgl) (c.hm hmg) (by decide +kernel) (by rw [c.base, c.mg]; exact TB) ((c.code hkd).1.trans hcd) (gscp c sc) (hi fr X c) c.tk (no_stop c hns) (g_parts c hg hc he) mono_p (hs _) (hst _)) fun σ H Q h => gtup_t hP hP2 hp h
theorem ee_gany {x P : Addr} {k : Nat} {ik : ItK} {scope : Scope} {own : List (Str × Nat)} {p : Pt} {c1 c2 : C} {p1 gpos : Pos} (hkd : S.kd = 0) (hl : S.lvl = k + 1) (hcd : S.cd = .ref x) (TB : GxR.TabB G.base G.mg x P) (hP : (P, none) ∈ G.T) (hP2 : ∀ p ∈ G.T, p.1 = P → p.2 = none) (hns : NoStop G)
    (hgl : S.sc.names.lookup ("any" : Str) = some .globalImplicit) (hmg : G.mg "any" = none) (sc : GScp S.N S.sc scope own) (hi : EI G cf lf S tg iter ik as) (hg : EG G (genS S scope k) tg p) (hc : ETs G cf lf (genS S scope k) ifs c1) (he : EE G cf lf (genS S scope k) elt c2) (hp : ∀ j ∈ pslots p, j ∈ own.map (·.2))
    (hs : ∀ (env : PySem.Env) v, genFold iter env v = pure v) (hst : ∀ env : PySem.Env, starEach [.GeneratorExp elt [⟨tg, iter, ifs, 0⟩] scope gpos] env = (false, eval (.GeneratorExp elt [⟨tg, iter, ifs, 0⟩] scope gpos) env) :: starEach [] env) :
    EE G cf lf S (.Call (.Name "any" p1) [.GeneratorExp elt [⟨tg, iter, ifs, 0⟩] scope gpos] [] pos) (.gen .any p ik as c1 c2 (own.map (·.2))) := fun fr X c =>
  pe_imp (pe_anyG (W := WF G fr) (by rw [← hl]; exact c.room) (by rw [c.N]; exact c.nd) c.calm (c.gl hgl) (c.hm hmg) (by rw [c.base, c.mg]; exact TB) ((c.code hkd).1.trans hcd) (gscp c sc) (hi fr X c) c.tk (no_stop c hns) (g_parts c hg hc he) (hs _) (hst _)) fun σ H Q h => gany_t hP hP2 hp h
theorem ee_gall {x P : Addr} {k : Nat} {ik : ItK} {scope : Scope} {own : List (Str × Nat)} {p : Pt} {c1 c2 : C} {p1 gpos : Pos} (hkd : S.kd = 0) (hl : S.lvl = k + 1) (hcd : S.cd = .ref x) (TB : GxR.TabB G.base G.mg x P) (hP : (P, none) ∈ G.T) (hP2 : ∀ p ∈ G.T, p.1 = P → p.2 = none) (hns : NoStop G)
    (hgl : S.sc.names.lookup ("all" : Str) = some .globalImplicit) (hmg : G.mg "all" = none) (sc : GScp S.N S.sc scope own) (hi : EI G cf lf S tg iter ik as) (hg : EG G (genS S scope k) tg p) (hc : ETs G cf lf (genS S scope k) ifs c1) (he : EE G cf lf (genS S scope k) elt c2) (hp : ∀ j ∈ pslots p, j ∈ own.map (·.2))
    (hs : ∀ (env : PySem.Env) v, genFold iter env v = pure v) (hst : ∀ env : PySem.Env, starEach [.GeneratorExp elt [⟨tg, iter, ifs, 0⟩] scope gpos] env = (false, eval (.GeneratorExp elt [⟨tg, iter, ifs, 0⟩] scope gpos) env) :: starEach [] env) :
    EE G cf lf S (.Call (.Name "all" p1) [.GeneratorExp elt [⟨tg, iter, ifs, 0⟩] scope gpos] [] pos) (.gen .all p ik as c1 c2 (own.map (·.2))) := fun fr X c =>
  pe_imp (pe_allG (W := WF G fr) (by rw [← hl]; exact c.room) (by rw [c.N]; exact c.nd) c.calm (c.gl hgl) (c.hm hmg) (by rw [c.base, c.mg]; exact TB) ((c.code hkd).1.trans hcd) (gscp c sc) (hi fr X c) c.tk (no_stop c hns) (g_parts c hg hc he) (hs _) (hst _)) fun σ H Q h => gall_t hP hP2 hp h
end
end MZ
end
section
set_option maxRecDepth 100000
set_option maxHeartbeats 2000000
namespace MZ
open PySem PySem.Spec PyProof.Rows L2 LamX MX RZ
/-- the closures of a frame whose cells are c0 -/
def clR (LB : List LamLit) (c0 : List (Str × Addr)) (qual : Str) (k : Nat) (v : V) (H : Hp) : Prop := ∃ (f c' : Addr) (l : LamLit), v = .ref f ∧ LB[k]? = some l ∧ H f = some (CloH f c' qual l.params l.body l.scope (cloFrom c0 l.scope.names [])) ∧ H c' = some (CodeO c' qual)
def rbL (K : PySem.W.Frag) (LB : List LamLit) (c0 : List (Str × Addr)) (qual : Str) : RB where
  K := K
  cl := clR LB c0 qual
  mono := fun k v H H' e ⟨f, c', l, h1, h2, h3, h4⟩ => ⟨f, c', l, h1, h2, e _ _ h3 (fun ps z => nomatch z), e _ _ h4 (fun ps z => nomatch z)⟩
  cref := fun k v H ⟨f, _, _, h, _⟩ => ⟨f, h⟩
def rb0 (K : PySem.W.Frag) : RB where
  K := K
  cl := fun _ _ _ => False
  mono := fun _ _ _ _ _ h => h
  cref := fun _ _ _ h => h.elim
section
variable {G : Gb} {cf : FnI} {lams : List C} {S : SC} {pos : Pos} {e : Expr} {LB : List LamLit} {c0 : List (Str × Addr)} {qual : Str}
/-- the cells of the closures' frame are as the slots tell -/
def Clo (X : Cx) (Lk : L2.St → Prop) (LB : List LamLit) (c0 : List (Str × Addr)) : Prop := ∀ (pins : List (Addr × Obj)) (σ : L2.St) (H : Hp) (s : Shared), Inv X pins σ H s → Lk σ → ∀ (k : Nat) (l : LamLit), LB[k]? = some l → CloF X.N l.scope (cloFrom c0 l.scope.names []) σ H s.heap
/-- the lambdas' function for one def -/
def lfOf (cf : FnI) (lams : List C) : Nat → Env → Out D := fun k ρ => match lams[k]? with
  | some c => evalE cf (fun _ _ => .bad) c ρ
  | none => .bad
def lamS (S : SC) (scope : Scope) (k : Nat) : SC := { N := S.N, sc := scope, lvl := k, kd := 2 }
theorem lam_cx {X : Cx} {fr fr' : Fr} {k : Nat} {scope : Scope} (c : CxS G S fr X) {A : Around} {outer : List PySem.Env} {s : Shared} {H : Hp} {E : XK} {cl : List (Str × Addr)} {f c' : Addr} (hr : Room k (A.deeper (lEnv qual scope cl s.heap.objs.size f c')))
    (hE : ∀ cls d σ H', WF G fr' cls d σ H' → E cls d H') : CxS G (lamS S scope k) fr' (lcx X A outer s H E qual scope cl f c') := by
  have tk : Takes (lcx X A outer s H E qual scope cl f c') (WF G fr') := (takes_of rfl rfl rfl rfl).imp fun c d σ' H' w => hE c d σ' H' w
  exact ⟨c.prog, c.w, c.K, c.mg, c.base, c.N, rfl, c.nd, rfl, hr, .of tk, fun z => (by cases z), fun _ => ⟨rfl, rfl, tk⟩, fun z => (by cases z), fun z => (by cases z), fun c z => (by cases z)⟩
/-- the frame of a closure's run -/
def frL (fr : Fr) (H : Hp) (ek : Nat → Prop) : Fr := { hd := fr.hd, H0 := H, mt := none, ek := ek }
theorem okf_L {fr : Fr} {ρ : Env} {σ : L2.St} {H : Hp} {ek : Nat → Prop} (ok : OkF G fr ρ σ H) : OkF G (frL fr H ek) (lockA ρ) σ H := by
  obtain ⟨k, _, _⟩ := lockA_step ok
  exact ⟨k.len, k.slot, k.dist, k.nh, fun a z => ⟨fun ⟨i, y⟩ => (by cases y), ok.hid z⟩, fun a o e _ _ => e, fun i a ⟨⟨w, e1, e2⟩, e3⟩ => (by
    obtain ⟨u, e, z⟩ := lockA_get e1
    rcases z with ⟨n, rfl⟩ | ⟨d, _, rfl⟩
    · rw [loose_own e2] at n; cases n
    · cases e2), k.tab, fun i a z => (by cases z)⟩
/-- told(a) -/
theorem told_pe {X : Cx} {fr : Fr} {Lk : L2.St → Prop} {x a en ret : Str} {g CS : Addr} {k j : Nat} {pg : Arguments} {sg : Scope} {dV kV doc pm cdv ct oc : Value} {an od : Option Addr} {osl : Array (Option Value)} {Ng : List Str} {arg : Expr} {ca : C} {ks : List Nat} {p p1 p2 p3 p4 p5 p6 p7 p8 : Pos}
    (c : CxS G S fr X) (hB : G.B.cl = clR LB c0 qual) (hclo : Clo X Lk LB c0)
    (hg : S.sc.names.lookup x = some .globalImplicit) (hm : G.mg x = some (.ref g)) (hk : PySem.W.keepIn G.K (.ref g) = true)
    (lk : G.K.lookup g = some ⟨oc, od, .func (PySem.W.fnOf x x pg [.Try [.Return (some (.Call (.Name a p1) [] [] p2)) p3] [.ExceptHandler (some (.Name en p4)) none [.Return (some (.Constant (.str ret) j p5)) p6] p7] [] [] p8] sg dV kV doc pm an cdv ct), osl⟩)
    (hcg : PySem.W.codeIn G.K cdv x = true) (hb : L2.Binds G.K (PySem.W.fnOf x x pg [.Try [.Return (some (.Call (.Name a p1) [] [] p2)) p3] [.ExceptHandler (some (.Name en p4)) none [.Return (some (.Constant (.str ret) j p5)) p6] p7] [] [] p8] sg dV kV doc pm an cdv ct) [a] []) (Sg : FnScope Ng [a] sg) (hNg : Ng[0]? = some a) (hva : Vis sg a)
    (hge : sg.names.lookup en = some .globalImplicit) (hme : G.mg en = some (.ref CS)) (hde : (en == ("__debug__" : Str)) = false)
    (hl : k + 2 ≤ S.lvl) (hLB : ∀ (k : Nat) (l : LamLit), LB[k]? = some l → LitOk l) (hks : ∀ i ∈ ks, PySem.W.exmOne G.K (G.xc i) (.ref CS) = some true)
    (ha : PE X arg (tE G fr (evalE cf (lfOf cf lams) ca)))
    (hbody : ∀ (i : Nat) (l : LamLit), LB[i]? = some l → ∃ ci, lams[i]? = some ci ∧ EE G cf (fun _ _ => .bad) (lamS S l.scope k) l.body ci)
    (hdb : (x == ("__debug__" : Str)) = false := by decide) (hd : (a == ("__debug__" : Str)) = false := by decide) (hcd : (a == ("__classdict__" : Str)) = false := by decide)
    (he : starEach [arg] X.env = (false, eval arg X.env) :: starEach [] X.env := by rfl) :
    PE X (.Call (.Name x p) [arg] [] pos) (fun σ H Q => Lk σ ∧ tE G fr (evalE cf (lfOf cf lams) (.told ca ks ret)) σ H Q) := by
  let tb : Nat → XK → TE := fun i E σ H Q => ∃ (fr' : { fr' : Fr // ∀ cls d σ H', WF G fr' cls d σ H' → E cls d H' }), tE G fr'.1 (lfOf cf lams i) σ H Q
  refine pe_imp (pe_told (LB := LB) (Lk := Lk) (tb := tb) (cells0 := c0) (qual := qual) (k := k) (CS := CS) (ta := tE G fr (evalE cf (lfOf cf lams) ca)) (c.gl hg) (c.hm hm) (by rw [c.K]; exact hk) (by rw [c.K]; exact lk) (by rw [c.K]; exact hcg) (by rw [c.K]; exact hb) Sg hNg hva hge (c.hm hme) hde ha (c.room.mono hl) hLB hclo
    (fun i l el A outer s H E f c' hr => pe_ex fun fr' => ?_) hdb hd hcd he) fun σ H Q ⟨hLk, ρ, ok, h⟩ => ?_
  · obtain ⟨ci, e1, e2⟩ := hbody i l el
    have q := e2 fr'.1 _ (lam_cx (outer := outer) (H := H) c hr fr'.2)
    unfold lfOf
    rw [e1]
    exact q
  · rw [evalE] at h
    refine ⟨ρ, ok, ?_⟩
    cases ho : evalE cf (lfOf cf lams) ca ρ with
    | bad => rw [ho] at h; exact h
    | exc k => rw [ho] at h; exact h
    | ok d ρ1 =>
      rw [ho] at h
      simp only [Out.bind] at h
      intro v H1 s1 r1
      cases d <;> try exact h.elim
      rename_i i
      dsimp only at h
      simp only [Rep] at r1
      rw [hB] at r1
      obtain ⟨f, c', l, rfl, hl, hf, hc⟩ := r1
      refine ⟨hLk, f, c', i, l, rfl, hl, (vis_some.mp hf).2, (vis_some.mp hc).2, ?_⟩
      have grow : ∀ {H'}, KeepX G (frL fr H1 fun k => lfOf cf lams i (lockA ρ1) = .exc k) H' → Step G fr ρ σ H ρ1 σ H' := fun {H'} q => s1.trans (s1.ok.grow (fun b o e n => q.keep b o e (fun ⟨i, y⟩ => by cases y) n) q.tab)
      show tb i _ σ H1 Q
      refine ⟨⟨frL fr H1 fun k => lfOf cf lams i (lockA ρ1) = .exc k, fun cls d σ' H' ⟨k, e1, _, kx, ek⟩ => ?_⟩, lockA ρ1, okf_L s1.ok, ?_⟩
      · have ek : lfOf cf lams i (lockA ρ1) = .exc k := ek
        rw [ek] at h
        simp only at h
        by_cases hc : ks.contains k = true
        · rw [if_pos hc] at h
          refine ⟨true, by rw [e1, c.K]; exact hks k (by simpa using hc), fun _ => h (.str ret) H' (grow kx) rep_str, fun z => by cases z⟩
        · rw [if_neg hc] at h
          exact h.elim
      · suffices key : ∀ o, lfOf cf lams i (lockA ρ1) = o → ROk G (frL fr H1 fun k => lfOf cf lams i (lockA ρ1) = .exc k) (lockA ρ1) σ H1 o Q from key _ rfl
        intro o hr
        cases o with
        | bad => rw [hr] at h; exact h
        | exc k => exact hr
        | ok d ρ2 =>
          rw [hr] at h
          intro v2 H2 s2 r2
          refine h v2 H2 (grow ⟨s2.ok.keep, s2.ok.tab⟩) (r2.mono ?_)
          refine hide_le (fun a z => z.imp id fun ⟨j, ⟨w, e1, e2⟩, e3⟩ => ?_) fun a o _ q _ => q
          obtain ⟨d', z⟩ := isOwn_sv.mp e2
          obtain ⟨q1, q2⟩ := s2.lk j d' (lockA_own e1 z)
          exact ⟨j, ⟨_, q1, rfl⟩, e3⟩
/-- lambda: .. -/
theorem ee_lam {k : Nat} {l : LamLit} {x P : Addr} {lf : Nat → Env → Out D} (hkd : S.kd = 0) (hB : G.B.cl = clR LB c0 qual) (hl : LB[k]? = some l) (hq : S.qual ++ "<lambda>" = qual) (hc0 : S.cells = some c0) (hcd : S.cd = .ref x) (TB : LamX.TabB G.base G.mg x P) (hP : (P, some qual) ∈ G.T) (hP2 : ∀ p ∈ G.T, p.1 = P → p.2 = some qual)
    (hdef : ∀ env : PySem.Env, defaultsOf l.params env = ([], [])) (hfree : ∀ y ∈ l.scope.names, y.2 = .free → S.sc.names.lookup y.1 = some .cell ∨ S.sc.names.lookup y.1 = some .free) : EE G cf lf S (.Lambda l.params l.body l.scope pos) (.lam k) := fun fr X c => ⟨fun pins s σ H Q I ⟨ρ, ok, h⟩ => by
  rw [evalE] at h
  have hqx : X.env.qual ++ "<lambda>" = qual := by rw [(c.code hkd).2]; exact hq
  refine lam_mk (T := [(P, qual)]) (c := x) (P := P) I (by rw [c.base, c.mg]; exact TB) ((c.code hkd).1.trans hcd) (by rw [hqx]; exact List.mem_singleton.mpr rfl) (fun p m _ => by rw [hqx, List.mem_singleton.mp m]) (fun p m => ?_) (hdef _) (fun y hy e => I.ok.has _ ?_) fun f c' H1 s' I1 e1 t1 kp n0 n1 n2 => ?_
  · rw [List.mem_singleton.mp m]
    exact ok.tab (P, some qual) hP
  · have := hfree y hy e
    unfold Env.kindOf
    rw [c.sc]
    exact this
  · have tt : ∀ p ∈ G.T, TabOk H1 p := fun p m => by
      by_cases z : p.1 = P
      · unfold TabOk
        rw [hP2 p m z, z]
        exact t1 (P, qual) (List.mem_singleton.mpr rfl)
      · have tp := ok.tab p m
        unfold TabOk at tp ⊢
        split
        · rename_i y
          rw [y] at tp
          obtain ⟨ps, t1, t2⟩ := tp
          exact ⟨ps, kp _ _ z t1, t2⟩
        · rename_i q y
          rw [y] at tp
          obtain ⟨ps, t1, t2, t3⟩ := tp
          refine ⟨ps, kp _ _ z t1, t2, fun pos cv x => ?_⟩
          obtain ⟨c, c1, c2⟩ := t3 pos cv x
          exact ⟨c, c1, e1 _ _ c2 (fun ps z => nomatch z)⟩
    have s1 := ok.grow e1 tt
    have vs : ∀ {b o}, H1 b = some o → (∀ xs, o ≠ .lst xs) → vis fr ρ σ H1 b = some o := fun {b o} e n => vis_some.mpr ⟨⟨fun z => by
      obtain ⟨xs, y⟩ := s1.ok.hid z
      rw [e] at y
      exact n xs (Option.some.inj y), fun z => by
      obtain ⟨xs, y⟩ := s1.ok.there z
      rw [e] at y
      exact n xs (Option.some.inj y)⟩, e⟩
    refine ⟨.ref f, H1, I1, rfl, h (.ref f) H1 s1 ?_⟩
    simp only [Rep]
    rw [hB]
    rw [c.cells _ hc0] at n1
    rw [hqx] at n1 n2
    exact ⟨f, c', l, rfl, hl, vs n1 (fun xs z => nomatch z), vs n2 (fun xs z => nomatch z)⟩⟩
end
end MZ
end
section
set_option maxRecDepth 100000
set_option maxHeartbeats 2000000
namespace MZ
open PySem PySem.Spec PyProof.Rows L2 LamX MX RZ
section
variable {G : Gb} {cf : FnI} {lams : List C} {S : SC} {pos : Pos} {e : Expr} {LB : List LamLit} {c0 : List (Str × Addr)} {qual : Str}
theorem clo_here {X : Cx} {fr : Fr} (c : CxS G S fr X) (hc : S.cells = some c0) (hL : ∀ (k : Nat) (l : LamLit), LB[k]? = some l → LamS S.sc l.scope) : Clo X (fun _ => True) LB c0 := fun pins σ H s I _ k l e => by
  rw [← c.cells _ hc]
  exact cloF_here I (by rw [c.sc]; exact hL k l e)
theorem clo_blk {X : Cx} {fr : Fr} {s : Shared} {H : Hp} {sB : Scope} {ce : PySem.Env} {fp : List Addr} {xe : Value → Shared → Prop} {pins : List (Addr × Obj)} {σ : L2.St} {vs : List Nat} (c : CxS G S fr X) (I : Inv X pins σ H s) (hf : ∀ b ∈ fp, FpOk X pins H b) (hc : S.cells = some c0) (hL : ∀ (k : Nat) (l : LamLit), LB[k]? = some l → LamS S.sc l.scope)
    (hv : ∀ (k : Nat) (l : LamLit), LB[k]? = some l → ∀ (i : Nat) (y : Str), S.N[i]? = some y → l.scope.names.lookup y = some .free → i ∉ vs) : Clo (bcx X s H sB ce fp xe) (fun σ' => wipe σ' vs = wipe σ vs) LB c0 := fun pb σb H' s' J hw k l e => by
  rw [← c.cells _ hc]
  refine cloF_blk I (by rw [c.sc]; exact hL k l e) J (fun x a q m => (hf a m).2.2.2.2.1 x a q rfl) fun i y v e1 e2 e3 => ?_
  have m := hv k l e i y (by rw [← c.N]; exact e1) e2
  rw [← wipe_out m, ← hw, wipe_out m]
  exact e3
/-- what is given of told: the def, the class that it takes, the closures' bodies -/
structure ToldOk (G : Gb) (cf : FnI) (lams : List C) (N : List Str) (LB : List LamLit) (ks : List Nat) (ret x : Str) (k : Nat) : Prop where
  ex : ∃ (a en : Str) (g CS : Addr) (j : Nat) (pg : Arguments) (sg : Scope) (dV kV doc pm cdv ct oc : Value) (an od : Option Addr) (osl : Array (Option Value)) (Ng : List Str) (p1 p2 p3 p4 p5 p6 p7 p8 : Pos),
    G.mg x = some (.ref g) ∧ PySem.W.keepIn G.K (.ref g) = true ∧
    G.K.lookup g = some ⟨oc, od, .func (PySem.W.fnOf x x pg [.Try [.Return (some (.Call (.Name a p1) [] [] p2)) p3] [.ExceptHandler (some (.Name en p4)) none [.Return (some (.Constant (.str ret) j p5)) p6] p7] [] [] p8] sg dV kV doc pm an cdv ct), osl⟩ ∧
    PySem.W.codeIn G.K cdv x = true ∧ L2.Binds G.K (PySem.W.fnOf x x pg [.Try [.Return (some (.Call (.Name a p1) [] [] p2)) p3] [.ExceptHandler (some (.Name en p4)) none [.Return (some (.Constant (.str ret) j p5)) p6] p7] [] [] p8] sg dV kV doc pm an cdv ct) [a] [] ∧ FnScope Ng [a] sg ∧ Ng[0]? = some a ∧ Vis sg a ∧
    sg.names.lookup en = some .globalImplicit ∧ G.mg en = some (.ref CS) ∧ (en == ("__debug__" : Str)) = false ∧ (∀ i ∈ ks, PySem.W.exmOne G.K (G.xc i) (.ref CS) = some true) ∧ (x == ("__debug__" : Str)) = false ∧ (a == ("__debug__" : Str)) = false ∧ (a == ("__classdict__" : Str)) = false
  lit : ∀ (k : Nat) (l : LamLit), LB[k]? = some l → LitOk l
  body : ∀ (i : Nat) (l : LamLit), LB[i]? = some l → ∃ ci, lams[i]? = some ci ∧ ∀ S : SC, S.N = N → EE G cf (fun _ _ => .bad) (lamS S l.scope k) l.body ci
theorem told_at {X : Cx} {fr : Fr} {Lk : L2.St → Prop} {ret x : Str} {k : Nat} {arg : Expr} {ca : C} {ks : List Nat} {p : Pos} (T : ToldOk G cf lams S.N LB ks ret x k) (c : CxS G S fr X) (hB : G.B.cl = clR LB c0 qual) (hclo : Clo X Lk LB c0) (hg : S.sc.names.lookup x = some .globalImplicit) (hl : k + 2 ≤ S.lvl)
    (ha : PE X arg (tE G fr (evalE cf (lfOf cf lams) ca))) (he : ∀ env : PySem.Env, starEach [arg] env = (false, eval arg env) :: starEach [] env) : PE X (.Call (.Name x p) [arg] [] pos) (fun σ H Q => Lk σ ∧ tE G fr (evalE cf (lfOf cf lams) (.told ca ks ret)) σ H Q) := by
  obtain ⟨a, en, g, CS, j, pg, sg, dV, kV, doc, pm, cdv, ct, oc, an, od, osl, Ng, p1, p2, p3, p4, p5, p6, p7, p8, h1, h2, h3, h4, h5, h6, h7, h8, h9, h10, h11, h12, h13, h14, h15⟩ := T.ex
  exact told_pe c hB hclo hg h1 h2 h3 h4 h5 h6 h7 h8 h9 h10 h11 hl T.lit h12 ha (fun i l e => (T.body i l e).elim fun ci z => ⟨ci, z.1, z.2 S rfl⟩) h13 h14 h15 (he _)
/-- told(a) in the def that makes the closures -/
theorem ee_told {ret x : Str} {k : Nat} {arg : Expr} {ca : C} {ks : List Nat} {p : Pos} (T : ToldOk G cf lams S.N LB ks ret x k) (hB : G.B.cl = clR LB c0 qual) (hc : S.cells = some c0) (hL : ∀ (k : Nat) (l : LamLit), LB[k]? = some l → LamS S.sc l.scope) (hg : S.sc.names.lookup x = some .globalImplicit) (hl : k + 2 ≤ S.lvl)
    (ha : EE G cf (lfOf cf lams) S arg ca) (he : ∀ env : PySem.Env, starEach [arg] env = (false, eval arg env) :: starEach [] env) : EE G cf (lfOf cf lams) S (.Call (.Name x p) [arg] [] pos) (.told ca ks ret) := fun fr X c =>
  pe_imp (told_at T c hB (clo_here c hc hL) hg hl (ha fr X c) he) fun σ H Q h => ⟨trivial, h⟩
/-- .. if told(a) != '..' in a comprehension there -/
theorem bts_told {ret x z : Str} {k : Nat} {arg : Expr} {ca : C} {ks : List Nat} {p p2 p3 : Pos} {j : Nat} {scope : Scope} {vs : List Nat} (T : ToldOk G cf lams S.N LB ks ret x k) (hB : G.B.cl = clR LB c0 qual) (hc : S.cells = some c0) (hL : ∀ (k : Nat) (l : LamLit), LB[k]? = some l → LamS S.sc l.scope)
    (hv : ∀ (k : Nat) (l : LamLit), LB[k]? = some l → ∀ (i : Nat) (y : Str), S.N[i]? = some y → l.scope.names.lookup y = some .free → i ∉ vs) (hg : (relS scope S.sc).names.lookup x = some .globalImplicit) (hl : k + 2 ≤ S.lvl)
    (ha : EE G cf (lfOf cf lams) (blkS S scope) arg ca) (he : ∀ env : PySem.Env, starEach [arg] env = (false, eval arg env) :: starEach [] env) : BTs G cf (lfOf cf lams) S scope [.Compare (.Call (.Name x p) [arg] [] p2) [.NotEq] [.Constant (.str z) j p3] pos] (.prim .ne (.ex (.told ca ks ret) (.ex (.cst (.str z)) .nil))) vs :=
  fun fr fr' X s H C cl fp xe pins σ c I hf cc => by
    refine pts_one (pt_imp (t := fun σ' H Q => ∃ (i : (D : Addr) ×' (xs : List V) ×' FreshD fr' D), wipe σ' vs = wipe σ vs ∧ tT G (frD fr' i.1 i.2.1) (evalE cf (lfOf cf lams) (.prim .ne (.ex (.told ca ks ret) (.ex (.cst (.str z)) .nil)))) σ' H Q) ⟨fun pins' s' σ' H' Q' I' ⟨i, q⟩ => ?_⟩ fun σ' H Q ⟨h1, i, h2⟩ => ⟨i, h1, h2⟩)
    have T' : ToldOk G cf lams (blkS S scope).N LB ks ret x k := T
    have tp := told_at (pos := p2) (p := p) T' (cc i) hB (clo_blk (vs := vs) c I hf hc hL hv) hg hl (ha _ _ (cc i)) he
    refine (pt_cmpR (pos := pos) (or_ne (cc i)) tp (pe_str (j := j) (pos := p3) (x := z)) (nomark _)).run pins' s' σ' H' Q' I' ?_
    obtain ⟨hw, ρ, ok, h⟩ := q
    refine ⟨hw, ?_⟩
    have q2 : tE G (frD fr' i.1 i.2.1) (evalE cf (lfOf cf lams) (.prim .ne (.ex (.told ca ks ret) (.ex (.cst (.str z)) .nil)))) σ' H' fun x H' => ∃ k, x = .bl k ∧ Q' k H' := by
      refine ⟨ρ, ok, ?_⟩
      cases ho : evalE cf (lfOf cf lams) (.prim .ne (.ex (.told ca ks ret) (.ex (.cst (.str z)) .nil))) ρ with
      | bad => rw [ho] at h; exact h
      | exc k => rw [ho] at h; exact h
      | ok d ρ1 =>
        obtain ⟨b, rfl⟩ := yn_prim yn_ne ρ d ρ1 ho
        rw [ho] at h
        obtain ⟨k, hk, h⟩ := h
        cases hk
        intro v H1 s r
        simp only [Rep] at r
        exact ⟨b, r, h H1 s⟩
    have q3 := prim2 pk_ne rfl q2
    refine tO_mono (as := .ex (.told ca ks ret) .nil) (fun x H1 q => ?_) q3
    exact tE_const (fun _ => rep_str) (fun _ => by rw [evalE]) σ' H1 _ q
end
end MZ
end
section
set_option maxRecDepth 100000
set_option maxHeartbeats 2000000
namespace MZ
open PySem PySem.Spec PyProof.Rows L2 LamX MX RZ
section
variable {G : Gb} {cf : FnI} {lf : Nat → Env → Out D} {S : SC} {pos : Pos} {a e : Expr}
/-- a, b = a new list, [] by way of a tuple -/
theorem es_parT {i j : Nat} {x y : Str} {px py pt p0 : Pos} {kt k2 pt2} {c1 : C} (hi : S.N[i]? = some x) (hj : S.N[j]? = some y) (hx : Sets S x) (hy : Sets S y) (hij : i ≠ j)
    (ha : EF G cf lf S a c1) (hpa : ∀ env : PySem.Env, starEach [a, .List [] p0] env = (false, eval a env) :: starEach [.List [] p0] env)
    (hs : ∀ env : PySem.Env, env.scope = S.sc → swapsWithSole [.Tuple [.Name x px, .Name y py] kt pt] (.Tuple [a, .List [] p0] k2 pt2) pos.line env = pure false)
    (hw : ∀ env : PySem.Env, env.scope = S.sc → swappedStores [.Tuple [.Name x px, .Name y py] kt pt] (.Tuple [a, .List [] p0] k2 pt2) env = pure none) :
    ES G cf lf S (.Assign [.Tuple [.Name x px, .Name y py] kt pt] (.Tuple [a, .List [] p0] k2 pt2) pos) (.par true true i j c1 (.lst .nil)) := fun fr X c => by
  have nd : X.N.Nodup := by rw [c.N]; exact c.nd
  refine ps_imp (ps_asg (pe_tup (pa_cons (ha fr X c) (pa_cons (pe_lst pa_nil) pa_nil rfl) (hpa _))) (pg_tup (n := 2) c.calm (pgs_cons (pg_name nd (c.nN hi) (c.set hx).1 (c.set hx).2) (pgs_cons (pg_name nd (c.nN hj) (c.set hy).1 (c.set hy).2) pgs_nil rfl) rfl) rfl rfl) (hs _ c.sc) (hw _ c.sc) rfl) fun D σ H ⟨ρ, ok, h⟩ => ?_
  rw [evalS] at h
  refine ⟨ρ, ok, ?_⟩
  cases ho : evalE cf lf c1 ρ with
  | bad => rw [ho] at h; exact h
  | exc k => rw [ho] at h; exact h
  | ok d ρ1 =>
    rw [ho] at h
    simp only [Out.rs, evalE, evalX, Out.bind, List.length_nil, Nat.zero_le, if_true] at h
    split at h
    · rename_i hf
      cases d <;> simp [fresh] at hf
      rename_i l
      intro p xs H2 s2 n r2
      change RSok G fr ρ σ H (ofE ((setS ρ1 i (.ow (.lst l))).bind fun ρ3 => setS ρ3 j (.ow (.lst [])))) D at h
      cases h3 : setS ρ1 i (.ow (.lst l)) with
      | none => rw [h3] at h; exact h.elim
      | some ρ3 =>
        have t3 := set_ow s2.ok n r2 h3
        rw [h3] at h
        change RSok G fr ρ σ H (ofE (setS ρ3 j (.ow (.lst [])))) D at h
        cases h4 : setS ρ3 j (.ow (.lst [])) with
        | none => rw [h4] at h; exact h.elim
        | some ρ4 =>
          rw [h4] at h
          refine ⟨Nat.zero_le _, fun q m => ⟨by show 2 ≤ sizeLine; rw [sizeLine_eq]; decide, fun t u => ⟨t, _, rfl, .of upd_same, rfl, .ref p, _, rfl, .ref q, _, rfl, rfl, ?_⟩⟩⟩
          have t4 := s2.trans (t3.trans (set_ow t3.ok m (RepL.nil.mpr rfl) h4))
          exact h _ _ (t4.trans (t4.ok.laid u))
    · exact h.elim
/-- a, b = x, a new list by way of a tuple -/
theorem es_parTO {b : Expr} {i j : Nat} {x y : Str} {px py pt : Pos} {kt k2 pt2} {c1 c2 : C} (hi : S.N[i]? = some x) (hj : S.N[j]? = some y) (hx : Sets S x) (hy : Sets S y) (hij : i ≠ j)
    (ha : EE G cf lf S a c1) (hb : EF G cf lf S b c2) (hpa : ∀ env : PySem.Env, starEach [a, b] env = (false, eval a env) :: starEach [b] env) (hpb : ∀ env : PySem.Env, starEach [b] env = (false, eval b env) :: starEach [] env)
    (hs : ∀ env : PySem.Env, env.scope = S.sc → swapsWithSole [.Tuple [.Name x px, .Name y py] kt pt] (.Tuple [a, b] k2 pt2) pos.line env = pure false)
    (hw : ∀ env : PySem.Env, env.scope = S.sc → swappedStores [.Tuple [.Name x px, .Name y py] kt pt] (.Tuple [a, b] k2 pt2) env = pure none) :
    ES G cf lf S (.Assign [.Tuple [.Name x px, .Name y py] kt pt] (.Tuple [a, b] k2 pt2) pos) (.par false true i j c1 c2) := fun fr X c => by
  have nd : X.N.Nodup := by rw [c.N]; exact c.nd
  refine ps_imp (ps_asg (pe_tup (pa_cons (ha fr X c) (pa_cons (hb fr X c) pa_nil (hpb _)) (hpa _))) (pg_tup (n := 2) c.calm (pgs_cons (pg_name nd (c.nN hi) (c.set hx).1 (c.set hx).2) (pgs_cons (pg_name nd (c.nN hj) (c.set hy).1 (c.set hy).2) pgs_nil rfl) rfl) rfl rfl) (hs _ c.sc) (hw _ c.sc) rfl) fun D σ H ⟨ρ, ok, h⟩ => ?_
  rw [evalS] at h
  refine ⟨ρ, ok, ?_⟩
  cases ho : evalE cf lf c1 ρ with
  | bad => rw [ho] at h; exact h
  | exc k => rw [ho] at h; exact h
  | ok d ρ1 =>
    rw [ho] at h
    simp only [Out.rs] at h
    refine fun v H1 s1 r1 => ⟨ρ1, s1.ok, ?_⟩
    cases h2 : evalE cf lf c2 ρ1 with
    | bad => rw [h2] at h; exact h
    | exc k => rw [h2] at h; exact h
    | ok y ρ2 =>
      rw [h2] at h
      simp only at h
      split at h
      · rename_i hf
        cases y <;> simp [fresh] at hf
        rename_i l
        intro p xs H2 s2 n r2
        change RSok G fr ρ σ H (ofE ((setS ρ2 i (.pu d)).bind fun ρ3 => setS ρ3 j (.ow (.lst l)))) D at h
        cases h3 : setS ρ2 i (.pu d) with
        | none => rw [h3] at h; exact h.elim
        | some ρ3 =>
          have t3 := set_pu s2.ok (r1.mono s2.ext) h3
          rw [h3] at h
          change RSok G fr ρ σ H (ofE (setS ρ3 j (.ow (.lst l)))) D at h
          cases h4 : setS ρ3 j (.ow (.lst l)) with
          | none => rw [h4] at h; exact h.elim
          | some ρ4 =>
            rw [h4] at h
            refine ⟨by show 2 ≤ sizeLine; rw [sizeLine_eq]; decide, fun t u => ⟨t, _, rfl, .of upd_same, rfl, v, _, rfl, .ref p, _, rfl, rfl, ?_⟩⟩
            have t4 := s1.trans (s2.trans (t3.trans (set_ow t3.ok n (r2.mono t3.ext) h4)))
            exact h _ _ (t4.trans (t4.ok.laid u))
      · exact h.elim
end
/-! ### what is known of a def that is called, of an own exception -/
/-- the def x of the core's number f may be called from a context of level k on -/
structure CallOk (G : Gb) (cf : FnI) (k f : Nat) (fd : Fd) (x : Str) : Prop where
  ex : ∃ (fa : Addr) (fdat : FuncData) (ps : List Str), FnOk G.prog G.w G.K G.mg G.base (L2.CX G.prog G.w) k fa fdat ps (spF G cf f fd) ∧ G.mg x = some (.ref fa) ∧ PySem.W.keepIn G.K (.ref fa) = true ∧ Binds G.K fdat ps []
section
variable {G : Gb} {cf : FnI} {lf : Nat → Env → Out D} {S : SC} {pos : Pos} {a e : Expr} {es : List Expr} {as : AL}
theorem ee_callK {x : Str} {p1 : Pos} {f k : Nat} {fd : Fd} (F : CallOk G cf k f fd x) (hk : k ≤ S.lvl) (hg : S.sc.names.lookup x = some .globalImplicit) (ha : EA G cf lf S (e :: es) as) (hw : wfA as = true) (hn : as.len = fd.np) (hmu : fd.mu = muPos as)
    (he : ∀ env : PySem.Env, starEach (e :: es) env = (false, eval e env) :: starEach es env) (hpl : ∀ env : PySem.Env, (backTo pos (starEach es env)).any (·.1) = false) (hdb : (x == ("__debug__" : Str)) = false := by decide) : EE G cf lf S (.Call (.Name x p1) (e :: es) [] pos) (.call f as) := by
  obtain ⟨fa, fdat, ps, h1, h2, h3, h4⟩ := F.ex
  exact ee_call h1 hk hg h2 h3 h4 ha hw hn hmu he hpl hdb
structure ExcOk (G : Gb) (k : Nat) (x : Str) : Prop where
  ex : ∃ (C : Addr) (bmB : List Value) (B newId initId : String), ExcBaseFacts B newId initId bmB ∧ PySem.W.excIn G.K C bmB newId = true ∧ G.mg x = some (.ref C) ∧ PySem.W.keepIn G.K (.ref C) = true ∧ PySem.W.subIn G.K (.ref C) (.type "BaseException") = some true ∧ PySem.W.typeIn G.K (.ref C) = some (.type "type") ∧ G.xc k = .ref C
  db : (x == ("__debug__" : Str)) = false
theorem es_raiseK {k : Nat} {x m : Str} {j : Nat} {p p2 p3 : Pos} (F : ExcOk G k x) (hkd : S.kd ≠ 1) (hg : S.sc.names.lookup x = some .globalImplicit) : ES G cf lf S (.Raise (some (.Call (.Name x p) [.Constant (.str m) j p2] [] p3)) none pos) (.raise k) := by
  obtain ⟨C, bmB, B, newId, initId, h1, h2, h3, h4, h5, h6, h7⟩ := F.ex
  refine es_raise hkd fun fr X c => ?_
  have := pmk_own (X := X) (x := x) (m := m) (j := j) (p := p) (p2 := p2) (pos := p3) h1 (by rw [c.K]; exact h2) (c.hm h3) (by rw [c.K]; exact h4) (raises_own (by rw [c.K]; exact h5) (by rw [c.K]; exact h6)) (c.gl hg) F.db
  rw [h7]
  exact this
/-- a module's constant -/
structure ConOk (G : Gb) (x : Str) (d : D) : Prop where
  ex : ∃ (v : V) (u : Value), G.mg x = some u ∧ RelV v u ∧ ∀ H, Rep G.B H d v
  db : (x == ("__debug__" : Str)) = false
theorem ee_con {x : Str} {d : D} (F : ConOk G x d) (hg : S.sc.names.lookup x = some .globalImplicit) : EE G cf lf S (.Name x pos) (.glob d) := by
  obtain ⟨v, u, h1, h2, h3⟩ := F.ex
  exact ee_glob hg h1 h2 h3 F.db
end
/-! ### x += e, x -= e -/
def rIadd : R2 := fun x y H Q => rI0 (fun i j => .int (i + j)) x y H Q ∨ ∃ i j, x = .str i ∧ y = .str j ∧ i.length + j.length ≤ sizeLine ∧ Q (.str (i ++ j)) H
theorem pk_iadd {G : Gb} : PrimOk G .iadd (Two rIadd) := fun fr ρ σ H ds vs d Q ok rs hp q => by
  change iaddR ds = some d at hp
  unfold iaddR at hp
  split at hp
  · obtain ⟨v, w, rfl, h1, h2⟩ := rs.two
    cases hp
    exact ⟨v, w, rfl, .inl ⟨_, _, trep_int h1, trep_int h2, q _ H (.refl ok) rep_int⟩⟩
  · obtain ⟨v, w, rfl, h1, h2⟩ := rs.two
    split at hp <;> cases hp
    rename_i hl
    exact ⟨v, w, rfl, .inr ⟨_, _, trep_str h1, trep_str h2, by rw [line_is]; exact hl, q _ H (.refl ok) rep_str⟩⟩
  · cases hp
section
variable {G : Gb} {cf : FnI} {lf : Nat → Env → Out D} {S : SC} {pos p1 : Pos} {e : Expr} {i : Nat} {x : Str} {c1 : C}
theorem es_augAdd (hN : S.N[i]? = some x) (hx : Sets S x) (he : EE G cf lf S e c1) : ES G cf lf S (.AugAssign (.Name x p1) .Add e pos) (.aug .iadd i c1) := es_aug (fun _ _ _ => iop_add.or iop_add_str) pk_iadd hN hx he
theorem es_augSub (hN : S.N[i]? = some x) (hx : Sets S x) (he : EE G cf lf S e c1) : ES G cf lf S (.AugAssign (.Name x p1) .Sub e pos) (.aug .sub i c1) := es_aug (fun _ _ _ => iop_sub) pk_sub hN hx he
end
/-! ### scopes by a check -/
def gscC (N : List Str) (sc scope : Scope) (own : List (Str × Nat)) : Bool :=
  decide (scope.kind = .function) && !scope.isCoroutine && own.all (fun p => decide (N[p.2]? = some p.1)) && scope.names.all (fun y => !decide (y.2 = .cell) && (!decide (y.2 = .free) || decide (sc.names.lookup y.1 = some .cell) || decide (sc.names.lookup y.1 = some .free)) && (!decide (y.2 = .local) || decide (y.1 ∈ own.map (·.1)) || decide (y.1 ∉ N))) && decide (scope.names.lookup (".0" : Str) = some NameKind.local)
theorem gsc_by {N : List Str} {sc scope : Scope} {own : List (Str × Nat)} (h : gscC N sc scope own = true) : GScp N sc scope own := by
  unfold gscC at h
  simp only [Bool.and_eq_true, List.all_eq_true, decide_eq_true_eq, Bool.not_eq_true', Bool.or_eq_true, decide_eq_false_iff_not] at h
  obtain ⟨⟨⟨⟨h1, h2⟩, h3⟩, h4⟩, h5⟩ := h
  exact ⟨h1, h2, h3, fun y m => (h4 y m).1.1, fun y m e => by
    rcases (h4 y m).1.2 with (z | z) | z
    · exact (z e).elim
    · exact .inl z
    · exact .inr z, fun y m e => by
    rcases (h4 y m).2 with (z | z) | z
    · exact (z e).elim
    · exact .inl z
    · exact .inr z, h5⟩
/-! ### places in a text -/
def sKids (s : Stmt) : List Stmt := match s with
  | .For _ _ b _ _ => b
  | .If _ a b _ => a ++ b
  | .While _ b _ _ => b
  | _ => []
def sEx (s : Stmt) : Expr := match s with
  | .Assign _ v _ => v
  | .Expr v _ => v
  | .Return (some v) _ => v
  | .If t _ _ _ => t
  | .While t _ _ _ => t
  | .For _ it _ _ _ => it
  | .AugAssign _ _ v _ => v
  | _ => .Constant .none 0 default
def eKids (e : Expr) : List Expr := match e with
  | .Call f as _ _ => f :: as
  | .List es _ => es
  | .Tuple es _ _ => es
  | .BinOp a _ b _ => [a, b]
  | .Compare a _ bs _ => a :: bs
  | .BoolOp _ vs _ => vs
  | .IfExp a b c _ => [a, b, c]
  | .Subscript a b _ => [a, b]
  | .UnaryOp _ a _ => [a]
  | .ListComp e (g :: _) _ _ => e :: g.iter :: g.ifs
  | _ => []
def nS (l : List Stmt) (i : Nat) : Stmt := l.getD i (.Pass default)
def nE (l : List Expr) (i : Nat) : Expr := l.getD i (.Constant .none 0 default)
def litOf (e : Expr) : LamLit := match e with
  | .Lambda p b s _ => ⟨p, b, s⟩
  | _ => ⟨{ posonlyargs := [], args := [], vararg := none, kwonlyargs := [], kw_defaults := [], kwarg := none, defaults := [] }, .Constant .none 0 default, { kind := .function, names := [], isGenerator := false, isCoroutine := false }⟩
theorem hL_by {LB : List LamLit} {sc : Scope} (h : (LB.all fun l => lamSB sc l.scope) = true) : ∀ (k : Nat) (l : LamLit), LB[k]? = some l → LamS sc l.scope := fun k l e => lamS_by (List.all_eq_true.mp h l (List.mem_of_getElem? e))
theorem hv_by {LB : List LamLit} {N : List Str} {vs : List Nat} (h : (LB.all fun l => vs.all fun i => match N[i]? with | some y => !decide (l.scope.names.lookup y = some .free) | none => true) = true) :
    ∀ (k : Nat) (l : LamLit), LB[k]? = some l → ∀ (i : Nat) (y : Str), N[i]? = some y → l.scope.names.lookup y = some .free → i ∉ vs := fun k l e i y e1 e2 m => by
  have := List.all_eq_true.mp (List.all_eq_true.mp h l (List.mem_of_getElem? e)) i m
  rw [e1] at this
  simp [e2] at this
/-! ### the order of stores -/
theorem sw_t {elt : Expr} {gens : List Comprehension} {scope sc : Scope} {pos p : Pos} {t : Str} {line : Nat} {env : PySem.Env} (h : env.scope = sc) (hk : sc.kind = .function) (hl : sc.names.lookup t = some .local) (h1 : (p.line == pos.line) = true) (h2 : (scope.names.any fun (n, k) => n == t && (k == .local || k == .cell)) = false) :
    swapsWith (.ListComp elt gens scope pos) (some (.Name t p)) line env = pure true := by
  subst h
  have e1 : (env.blockKind == ScopeKind.function) = true := by unfold Env.blockKind; rw [hk]; rfl
  have e2 : (env.kindOf t == some NameKind.local) = true := by unfold Env.kindOf; rw [hl]; rfl
  show (pure (env.blockKind == .function && env.kindOf t == some .local && p.line == pos.line && !(scope.names.any fun (n, k) => n == t && (k == .local || k == .cell))) : Sem Bool) = pure true
  rw [e1, e2, h1, h2]
  rfl
theorem sw_f {elt : Expr} {gens : List Comprehension} {scope sc : Scope} {pos p : Pos} {t : Str} {line : Nat} {env : PySem.Env} (h : env.scope = sc) (hl : sc.names.lookup t = some .cell) :
    swapsWith (.ListComp elt gens scope pos) (some (.Name t p)) line env = pure false := by
  subst h
  have e2 : (env.kindOf t == some NameKind.local) = false := by unfold Env.kindOf; rw [hl]; rfl
  show (pure (env.blockKind == .function && env.kindOf t == some .local && p.line == pos.line && !(scope.names.any fun (n, k) => n == t && (k == .local || k == .cell))) : Sem Bool) = pure false
  rw [e2, Bool.and_false, Bool.false_and, Bool.false_and]
end MZ
end
section
set_option maxRecDepth 100000
set_option maxHeartbeats 2000000
namespace MZ
open PySem PySem.Spec PyProof.Rows L2 LamX MX RZ
/-! ### a def that returns a list that nothing else knows -/
section
variable (G : Gb) (fr : Fr)
def RSFok (ρ : Env) (σ : L2.St) (H : Hp) (r : Rs) (D : Ends) : Prop := match r with
  | .next ρ' => ∀ σ' H', Step G fr ρ σ H ρ' σ' H' → D.nx σ' H'
  | .ret (.lst l) ρ' => ∀ a xs σ' H', Step G fr ρ σ H ρ' σ' H' → H' a = none → RepL G.B (vis fr ρ' σ' H') l xs → D.rt (.ref a) (upd H' a (.lst xs))
  | .exc k => fr.ek k
  | _ => False
def tSF (f : Env → Rs) : TS := fun D σ H => ∃ ρ, OkF G fr ρ σ H ∧ RSFok G fr ρ σ H (f ρ) D
end
section
variable {G : Gb} {cf : FnI} {lf : Nat → Env → Out D} {S : SC} {pos : Pos} {e t : Expr} {fr : Fr} {ρ ρ1 : Env} {σ σ1 : L2.St} {H H1 : Hp}
def ESF (G : Gb) (cf : FnI) (lf : Nat → Env → Out D) (S : SC) (st : Stmt) (s : MZ.S) : Prop := ∀ fr X, CxS G S fr X → PS X st (tSF G fr (evalS cf lf s))
def ESFs (G : Gb) (cf : FnI) (lf : Nat → Env → Out D) (S : SC) (st : List Stmt) (s : SL) : Prop := ∀ fr X, CxS G S fr X → PSs X st (tSF G fr (evalSL cf lf s))
theorem RSFok.after {r : Rs} {D : Ends} (s : Step G fr ρ σ H ρ1 σ1 H1) (h : RSFok G fr ρ σ H r D) : RSFok G fr ρ1 σ1 H1 r D := by
  cases r with
  | next ρ' => exact fun σ' H' s' => h σ' H' (s.trans s')
  | ret d ρ' => cases d <;> first | exact h.elim | exact fun a xs σ' H' s' n r => h a xs σ' H' (s.trans s') n r
  | brk ρ' => exact h
  | cont ρ' => exact h
  | exc k => exact h
  | bad => exact h
theorem essF_nil : ESFs G cf lf S [] .nil := fun fr X c => pss_imp pss_nil fun D σ H ⟨ρ, ok, h⟩ => by
  rw [evalSL] at h
  exact h σ H (.refl ok)
theorem essF_cons {st : Stmt} {rest : List Stmt} {s : MZ.S} {r : SL} (h1 : ESF G cf lf S st s) (h2 : ESFs G cf lf S rest r) : ESFs G cf lf S (st :: rest) (.cons s r) := fun fr X c => pss_imp (pss_cons (h1 fr X c) (h2 fr X c)) fun D σ H ⟨ρ, ok, h⟩ => by
  rw [evalSL] at h
  refine ⟨ρ, ok, ?_⟩
  cases ho : evalS cf lf s ρ with
  | bad => rw [ho] at h; exact h
  | exc k => rw [ho] at h; exact h
  | next ρ1 => rw [ho] at h; exact fun σ1 H1 s1 => ⟨ρ1, s1.ok, h.after s1⟩
  | ret d ρ1 => rw [ho] at h; cases d <;> exact h
  | brk ρ1 => rw [ho] at h; exact h
  | cont ρ1 => rw [ho] at h; exact h
theorem esF_if {c1 : C} {A B : List Stmt} {sa sb : SL} (ht : ET G cf lf S t c1) (ha : ESFs G cf lf S A sa) (hb : ESFs G cf lf S B sb) : ESF G cf lf S (.If t A B pos) (.ife c1 sa sb) := fun fr X c => ps_imp (ps_if (ht fr X c) (ha fr X c) (hb fr X c)) fun D σ H ⟨ρ, ok, h⟩ => by
  rw [evalS] at h
  refine ⟨ρ, ok, ?_⟩
  cases ho : evalE cf lf c1 ρ with
  | bad => rw [ho] at h; exact h
  | exc k => rw [ho] at h; exact h
  | ok d ρ1 =>
    rw [ho] at h
    simp only [Out.rs] at h
    split at h
    · rename_i ht
      exact ⟨true, ht, fun H1 s1 => show tSF G fr (evalSL cf lf sa) D σ H1 from ⟨ρ1, s1.ok, h.after s1⟩⟩
    · rename_i ht
      exact ⟨false, ht, fun H1 s1 => show tSF G fr (evalSL cf lf sb) D σ H1 from ⟨ρ1, s1.ok, h.after s1⟩⟩
    · exact h.elim
theorem esF_ret {c1 : C} (he : EF G cf lf S e c1) : ESF G cf lf S (.Return (some e) pos) (.ret c1) := fun fr X c => ps_imp (ps_ret (he fr X c)) fun D σ H ⟨ρ, ok, h⟩ => by
  rw [evalS] at h
  refine ⟨ρ, ok, ?_⟩
  cases ho : evalE cf lf c1 ρ with
  | bad => rw [ho] at h; exact h
  | exc k => rw [ho] at h; exact h
  | ok d ρ1 =>
    rw [ho] at h
    cases d <;> first | exact h.elim | exact fun a xs H1 s1 n r => h a xs σ H1 s1 n r
end
/-- the promise: a new list of plain data -/
def spN (fd : Fd) (g : List D → Option (List D)) (G : Gb) : Sp := fun vs H Q E => ∃ ds l fr, Entry G fd fr ds vs H ∧ fr.mt = none ∧ g ds = some l ∧ ∀ a xs H', KeepX G fr H' → H' a = none → RepL G.B (hideC fr H') l xs → Q (.ref a) (upd H' a (.lst xs))
theorem fn_new {G : Gb} {fd : Fd} {N : List Str} {cf : FnI} {g : List D → Option (List D)} {name qual : Str} {params : Arguments} {body : List Stmt} {scope : Scope} {dV kV doc pm cdv ct oc : Value} {an od : Option Addr} {osl : Array (Option Value)} {fa : Addr} {ps : List Str} {k : Nat}
    (lk : G.K.lookup fa = some ⟨oc, od, .func (PySem.W.fnOf name qual params body scope dV kV doc pm an cdv ct), osl⟩) (hcd : PySem.W.codeIn G.K cdv qual = true) (S : FnScope N ps scope) (hps : ps.length = fd.np) (hN : fd.n = N.length) (hn : fd.np ≤ fd.n)
    (hg : ∀ ds l, ds.length = fd.np → g ds = some l → ∃ ρ, evalSL cf (lamsF cf fd) fd.body (entry fd ds) = .ret (.lst l) ρ)
    (hbody : ESFs G cf (lamsF cf fd) { N := N, sc := scope, lvl := k, kd := 0, cd := cdv, qual := qual ++ ".<locals>." } body fd.body) :
    FnOk G.prog G.w G.K G.mg G.base (L2.CX G.prog G.w) (k + 1) fa (PySem.W.fnOf name qual params body scope dV kV doc pm an cdv ct) ps (spN fd g G) := by
  refine fn_of lk hcd S (fun vs H Q E ⟨ds, l, fr, e, _⟩ => e.vlen.trans hps.symm) fun A outer s H vs Q E hr hsp => ?_
  obtain ⟨ds, l, fr0, e, hmt, hl, h⟩ := hsp
  let fr : Fr := { fr0 with ek := fun k => False }
  have e' : Entry G fd fr ds vs H := ⟨e.h0, e.hdl, e.tab, e.mt, e.arg, e.len, e.vlen⟩
  have tk : Takes (cxOf (L2.CX G.prog G.w) G.prog G.w G.K G.mg G.base N qual scope fa cdv A outer s H E) (WF G fr) := (takes_of rfl rfl rfl rfl).imp fun c d σ' H' w => w.elim fun _ z => z.2.2.2.elim
  have cx : CxS G { N := N, sc := scope, lvl := k, kd := 0, cd := cdv, qual := qual ++ ".<locals>." } fr (cxOf (L2.CX G.prog G.w) G.prog G.w G.K G.mg G.base N qual scope fa cdv A outer s H E) :=
    ⟨rfl, rfl, rfl, rfl, rfl, rfl, rfl, S.nd, rfl, hr, .of tk, fun _ _ => rfl, fun _ => ⟨rfl, rfl, tk⟩, fun _ => passes_of rfl, fun _ => ⟨rfl, rfl⟩, fun c z => (by cases z)⟩
  refine ⟨_, hbody fr _ cx, ?_⟩
  obtain ⟨ok, hv⟩ := entry_ok (N := N) e' hN hn
  refine ⟨entry fd ds, ok, ?_⟩
  obtain ⟨ρ', er⟩ := hg ds l e.len hl
  rw [er]
  intro a xs σ' H' s n r
  refine h a xs H' ⟨s.ok.keep, s.ok.tab⟩ n (r.mono ?_)
  exact hide_le (fun b z => z.imp id fun ⟨i, y⟩ => (by rw [hmt] at y; cases y)) fun b o _ q _ => q
end MZ
end
section
set_option maxRecDepth 100000
set_option maxHeartbeats 2000000
namespace MZ
open PySem PySem.Spec PyProof.Rows L2 LamX MX RZ
theorem TabOk.setL {H : Hp} {p : Addr × Option Str} {a : Addr} {xs ys : List V} (h : TabOk H p) (e : H a = some (.lst xs)) : TabOk (L2.upd H a (.lst ys)) p := by
  unfold TabOk at h ⊢
  split
  · rename_i y
    rw [y] at h
    obtain ⟨ps, t1, t2⟩ := h
    exact ⟨ps, by rw [upd_ne (ne_of t1 e (fun z => nomatch z))]; exact t1, t2⟩
  · rename_i y z
    rw [z] at h
    obtain ⟨ps, t1, t2, t3⟩ := h
    refine ⟨ps, by rw [upd_ne (ne_of t1 e (fun z => nomatch z))]; exact t1, t2, fun pos cv x => ?_⟩
    obtain ⟨c, c1, c2⟩ := t3 pos cv x
    exact ⟨c, c1, by rw [upd_ne (ne_of c2 e (fun z => nomatch z))]; exact c2⟩
/-- all that is told stays told -/
structure Grow (G : Gb) (H H' : Hp) : Prop where
  ext : ExtN H H'
  tab : ∀ p ∈ G.T, TabOk H' p
theorem Grow.upd {G : Gb} {H H' : Hp} {a : Addr} {o : HO} (g : Grow G H H') (n : H' a = none) : Grow G H (upd H' a o) := ⟨g.ext.trans (ext_upd n), fun p m => (g.tab p m).upd n⟩
theorem Grow.fresh {G : Gb} {H H' : Hp} {a : Addr} (g : Grow G H H') (n : H' a = none) (ok : ∀ o, H a = some o → ∀ ps, o ≠ .tbl ps) : H a = none := by
  cases e : H a with
  | none => rfl
  | some o =>
    have := g.ext a o e (ok o e)
    rw [n] at this
    cases this
/-- the first cell, or nought -/
def cell0 (ns : List Int) : Int := match ns with
  | [] => 0
  | c :: _ => c
/-- what `_law_rounds` promises: one new list that holds one new list -/
def spR (G : Gb) (dv : Int → List D) : Sp := fun vs H Q E => ∃ a ns, vs = [.ref a, .int 1] ∧ SqL G.K H a (ns.map V.int) ∧ (∀ p ∈ G.T, TabOk H p) ∧
  ∀ p q xs H', Grow G H H' → p ≠ q → H' p = some (.lst [.ref q]) → H' q = some (.lst xs) → RepL G.B H' (dv (cell0 ns)) xs → Q (.ref p) H'
theorem dp_ints {K : PySem.W.Frag} {H : Hp} : ∀ ns : List Int, DpAll K H (ns.map V.int) (ns.map PyData.int)
  | [] => .nil
  | n :: r => .cons (.int n) (dp_ints r)
theorem shaped_ints : ∀ ns : List Int, PyData.canLayAll0 (ns.map PyData.int) = true ∧ PyData.depthAll (ns.map PyData.int) = 0
  | [] => ⟨by simp [PyData.canLayAll0], by simp [PyData.depthAll]⟩
  | n :: r => by
    obtain ⟨h1, h2⟩ := shaped_ints r
    exact ⟨by simp [PyData.canLayAll0, PyData.canLay0, h1], by simp [PyData.depthAll, PyData.depth, h2]⟩
theorem shaped_list (ns : List Int) : SeqAt.shaped (.list (ns.map PyData.int)) = true := by
  obtain ⟨h1, h2⟩ := shaped_ints ns
  unfold SeqAt.shaped
  simp [PyData.canLay0, PyData.depth, h1, h2]
section
variable {G : Gb}
/-- the state before the comprehension: the cells' list stands at a -/
theorem rounds_go {X : Cx} {σ : L2.St} {H0 H : Hp} {a : Addr} {c : Int} {fd : Fd} {g : List D → Option (List D)} {dv : Int → List D} {Q : VK} (hK : X.K = G.K) (hs : σ[2]? = some (some (.ref a))) (hl : σ.length = 4) (ha : H a = some (.lst [.int c])) (gr : Grow G H0 H) (hmu : fd.mu = none) (hnp : fd.np = 1) (hg : g [.int c] = some (dv c)) (hdv : ∀ H H' xs, RepL G.B H (dv c) xs → RepL G.B H' (dv c) xs)
    (q : ∀ p q xs H', Grow G H0 H' → p ≠ q → H' p = some (.lst [.ref q]) → H' q = some (.lst xs) → RepL G.B H' (dv c) xs → Q (.ref p) H') :
    tLcX (iList X.K (tVar 2)) (fun _ => gName 3) (fun _ => tYes) (fun _ => tCall (spN fd g G) [] (fun _ _ _ => False) (tCons (tVar 3) tNil)) [3] σ H Q := by
  refine ⟨.ref a, hs, a, rfl, ⟨[.int c], .of ha⟩, fun D nD => ?_⟩
  have aD : a ≠ D := ne_of_none ha nD
  have g0 : Grow G H0 (upd H D (.lst [])) := gr.upd nD
  have a0 : upd H D (.lst []) a = some (.lst [.int c]) := by rw [upd_ne aD]; exact ha
  let W : Nat → Nat → Hp → Prop := fun i m H' => (i = 0 ∧ m = 1 ∧ H' = upd H D (.lst [])) ∨ (i = 1 ∧ m = 0 ∧ Grow G H0 H' ∧ H' a = some (.lst [.int c]) ∧ ∃ q xs, D ≠ q ∧ H' D = some (.lst [.ref q]) ∧ H' q = some (.lst xs) ∧ RepL G.B H' (dv c) xs)
  refine ⟨W, ⟨1, .inl ⟨rfl, rfl, rfl⟩⟩, fun i m H' w => ?_⟩
  rcases w with ⟨rfl, rfl, rfl⟩ | ⟨rfl, rfl, g', a', q', xs, n', d', e', r'⟩
  · refine .inr ⟨⟨[.int c], .int c, .of a0, rfl⟩, W 1 0, fun H' w => ⟨0, Nat.zero_lt_one, w⟩, fun x H' y => ?_⟩
    obtain ⟨rfl, y⟩ := y
    have ex := y [.int c] (.of a0)
    cases ex
    refine ⟨by simp [wipe], ?_⟩
    show tCall (spN fd g G) [] (fun _ _ _ => False) (tCons (tVar 3) tNil) _ _ _
    refine ⟨.int c, by simp [wipe, List.getElem?_set, hl], ?_⟩
    let fr : Fr := { hd := fun _ => False, H0 := upd H D (.lst []), mt := none, ek := fun _ => False }
    have hid : ∀ {H'}, hideC fr H' = H' := fun {H'} => by
      funext b
      unfold hideC hide
      rw [if_neg]
      rintro (z | ⟨i, z⟩)
      · exact z
      · cases z
    refine ⟨[.int c], dv c, fr, ⟨rfl, fun a z => z.elim, g0.tab, .inl ⟨hmu, rfl⟩, fun i d v e1 e2 => ⟨fun z => (by rw [hmu] at z; cases z), fun _ => ?_⟩, hnp.symm, hnp.symm⟩, rfl, hg, fun q xs H3 kx nq r => ?_⟩
    · cases i with
      | zero => cases e1; cases e2; exact rep_int
      | succ i => simp at e1
    · rw [hid] at r
      have kp : ∀ b o, upd H D (.lst []) b = some o → (∀ ps, o ≠ .tbl ps) → H3 b = some o := fun b o e z => kx.keep b o e (fun ⟨i, y⟩ => by cases y) z
      have d3 : H3 D = some (.lst []) := kp D _ upd_same (fun ps z => nomatch z)
      have a3 : H3 a = some (.lst [.int c]) := kp a _ a0 (fun ps z => nomatch z)
      have Dq : D ≠ q := ne_of_none d3 nq
      have aq : a ≠ q := ne_of_none a3 nq
      have g3 : Grow G H0 H3 := ⟨g0.ext.trans fun b o e z => kp b o e z, kx.tab⟩
      have g4 := g3.upd (o := .lst xs) nq
      refine ⟨[], by rw [upd_ne Dq]; exact d3, by show 0 < sizeLine; rw [sizeLine_eq]; decide, .inr ⟨rfl, rfl, ?_, ?_, q, xs, Dq, upd_same, ?_, ?_⟩⟩
      · refine ⟨fun b o e z => ?_, fun p m => (g4.tab p m).setL (by rw [upd_ne Dq]; exact d3)⟩
        have bD : b ≠ D := fun y => by
          subst y
          have := gr.ext b o e z
          rw [nD] at this
          cases this
        rw [upd_ne bD]
        exact g4.ext b o e z
      · rw [upd_ne aD, upd_ne aq]
        exact a3
      · rw [upd_ne (Ne.symm Dq), upd_same]
      · exact hdv _ _ _ r
  · exact .inl ⟨⟨[.int c], .of a', Nat.le_refl _⟩, q D q' xs H' g' n' d' e' r'⟩
theorem cut1 (ns : List Int) : cutV (ns.map V.int) none (some 1) = (ns.take 1).map V.int := by
  unfold cutV
  rw [HT.sIx_none, List.drop_zero, Nat.sub_zero, List.map_take]
  cases ns with
  | nil => rfl
  | cons n r =>
    have : HT.sIx (List.map V.int (n :: r)).length (List.map V.int (n :: r)).length (some 1) = 1 := by
      have := HT.sIx_nat (List.map V.int (n :: r)).length (List.map V.int (n :: r)).length 1
      simp at this ⊢
      omega
    rw [this]
/-- `_law_rounds`, asked for one round -/
theorem rounds_fn {name qual : Str} {params : Arguments} {scope sB : Scope} {dV kV doc pm cdv ct oc : Value} {an od : Option Addr} {osl : Array (Option Value)} {fa fd' : Addr} {fdat : FuncData} {k j : Nat} {fd : Fd} {g : List D → Option (List D)} {dv : Int → List D} {p1 p2 p3 p4 p5 p6 p7 p8 p9 p10 p11 p12 p13 p14 p15 p16 p17 p18 p19 p20 p21 : Pos}
    (lk : G.K.lookup fa = some ⟨oc, od, .func (PySem.W.fnOf name qual params [.Assign [.Name "cells" p1] (.Subscript (.Name "script" p2) (.Slice none (some (.Name "most" p3)) none p4) p5) p6, .If (.Compare (.Name "cells" p7) [.Eq] [.List [] p8] p9) [.Assign [.Name "cells" p10] (.List [.Constant (.int 0) j p11] p12) p13] [] p14,
      .Return (some (.ListComp (.Call (.Name "_law_dice" p15) [.Name "cell" p16] [] p17) [⟨.Name "cell" p18, .Name "cells" p19, [], 0⟩] sB p20)) p21] scope dV kV doc pm an cdv ct), osl⟩) (hcd : PySem.W.codeIn G.K cdv qual = true)
    (S : FnScope ["script", "most", "cells", "cell"] ["script", "most"] scope) (h0 : scope.names.lookup ("script" : Str) = some .local) (h1 : scope.names.lookup ("most" : Str) = some .local) (h2 : scope.names.lookup ("cells" : Str) = some .local)
    (hB : BlkOk ["script", "most", "cells", "cell"] scope sB [("cell", 3)]) (h3 : (relS sB scope).names.lookup ("cell" : Str) = some .local) (h4 : (relS sB scope).names.lookup ("_law_dice" : Str) = some .globalImplicit)
    (F : FnOk G.prog G.w G.K G.mg G.base (L2.CX G.prog G.w) k fd' fdat ["cell"] (spN fd g G)) (hm : G.mg "_law_dice" = some (.ref fd')) (hk : PySem.W.keepIn G.K (.ref fd') = true) (hb : Binds G.K fdat ["cell"] []) (hmu : fd.mu = none) (hnp : fd.np = 1) (hg : ∀ c : Int, g [.int c] = some (dv c))
    (hdv : ∀ (c : Int) (H H' : Hp) (xs : List V), RepL G.B H (dv c) xs → RepL G.B H' (dv c) xs) :
    FnOk G.prog G.w G.K G.mg G.base (L2.CX G.prog G.w) (k + 1) fa (PySem.W.fnOf name qual params [.Assign [.Name "cells" p1] (.Subscript (.Name "script" p2) (.Slice none (some (.Name "most" p3)) none p4) p5) p6, .If (.Compare (.Name "cells" p7) [.Eq] [.List [] p8] p9) [.Assign [.Name "cells" p10] (.List [.Constant (.int 0) j p11] p12) p13] [] p14,
      .Return (some (.ListComp (.Call (.Name "_law_dice" p15) [.Name "cell" p16] [] p17) [⟨.Name "cell" p18, .Name "cells" p19, [], 0⟩] sB p20)) p21] scope dV kV doc pm an cdv ct) ["script", "most"] (spR G dv) := by
  refine fn_of lk hcd S (fun vs H Q E ⟨a, ns, e, _⟩ => by rw [e]; rfl) fun A outer s H vs Q E hr hsp => ?_
  let X := cxOf (L2.CX G.prog G.w) G.prog G.w G.K G.mg G.base ["script", "most", "cells", "cell"] qual scope fa cdv A outer s H E
  have nd : X.N.Nodup := S.nd
  have pv0 : ∀ {p}, PE X (.Name "script" p) (tVar 0) := fun {p} => pe_var (X := X) rfl (.inl h0)
  have pv1 : ∀ {p}, PE X (.Name "most" p) (tVar 1) := fun {p} => pe_var (X := X) rfl (.inl h1)
  have pv2 : ∀ {p}, PE X (.Name "cells" p) (tVar 2) := fun {p} => pe_var (X := X) rfl (.inl h2)
  have parts : BParts X (.Name "cell" p18) [] (.Call (.Name "_law_dice" p15) [.Name "cell" p16] [] p17) sB (fun _ _ _ _ => False) (fun _ => gName 3) (fun _ => tYes) (fun _ => tCall (spN fd g G) [] (fun _ _ _ => False) (tCons (tVar 3) tNil)) := fun s' H' C cl fp xe pins σ I hf tk =>
    ⟨pg_name nd rfl (.inl h3) (.inr h3), pts_nil, pe_call (k := k) (ds := []) (dvs := []) F hr h4 hm hk hb .nil ((tk (fun _ _ _ _ => False) fun _ _ _ _ z => z.elim).passes fun _ _ _ _ z => z) (pa_cons (pe_var rfl (.inl h3)) pa_nil rfl) (by decide) rfl rfl⟩
  refine ⟨_, pss_cons (ps_set nd (i := 2) rfl (.inl h2) (pe_slice sl_list pv0 po_none (po_some pv1)) rfl (.inl rfl)) (pss_cons (ps_if (pt_cmpR (op_eqD (X := X) hr.units) pv2 (pe_lst pa_nil) (nomark _)) (pss_cons (ps_set nd (i := 2) rfl (.inl h2) (pe_lst (pa_cons pe_int pa_nil rfl)) rfl (.inl rfl)) pss_nil) pss_nil)
    (pss_cons (ps_ret (pe_lcX (own := [("cell", 3)]) rfl nd (pi_list pv2) hB (.inr fun _ _ _ _ z => z) parts (fun _ => rfl))) pss_nil)), ?_⟩
  obtain ⟨a, ns, rfl, hA, hT, q⟩ := hsp
  -- cells = script[:most]
  refine ⟨.ref a, rfl, .int 1, rfl, 1, rfl, a, ns.map V.int, rfl, hA, fun p1 n1 => ?_⟩
  rw [cut1]
  have g1 : Grow G H (upd H p1 (.lst ((ns.take 1).map V.int))) := (⟨.refl _, hT⟩ : Grow G H H).upd n1
  -- cells == []
  refine ⟨.ref p1, rfl, Nat.zero_le _, fun p2 n2 => ?_⟩
  have e12 : p1 ≠ p2 := ne_of_none upd_same n2
  have g2 := g1.upd (o := .lst []) n2
  have k1 : upd (upd H p1 (.lst ((ns.take 1).map V.int))) p2 (.lst []) p1 = some (.lst ((ns.take 1).map V.int)) := by rw [upd_ne e12]; exact upd_same
  refine ⟨.list ((ns.take 1).map PyData.int), .list [], .lst (.of k1) (dp_ints _), .lst (.of upd_same) .nil, shaped_list _, shaped_list [], _, rfl, ?_⟩
  cases ns with
  | nil =>
    show (if (PyData.eqv (.list []) (.list [])) = true then _ else _)
    rw [if_pos (by simp [PyData.eqv, PyData.eqvAll])]
    refine ⟨by show 1 ≤ sizeLine; rw [sizeLine_eq]; decide, fun p3 n3 => ?_⟩
    exact rounds_go (X := X) (fd := fd) (g := g) (dv := dv) (H0 := H) (c := 0) rfl rfl rfl upd_same (g2.upd n3) hmu hnp (hg 0) (hdv 0) q
  | cons c r =>
    show (if (PyData.eqv (.list [.int c]) (.list [])) = true then _ else _)
    rw [if_neg (by simp [PyData.eqv, PyData.eqvAll])]
    exact rounds_go (X := X) (fd := fd) (g := g) (dv := dv) (H0 := H) (c := c) rfl rfl rfl k1 g2 hmu hnp (hg c) (hdv c) q
end
end MZ
end
section
set_option maxRecDepth 100000
set_option maxHeartbeats 2000000
namespace MZ
open PySem PySem.Spec PyProof.Rows L2 LamX MX RZ
def Gb.withB (G : Gb) (B : RB) (h : B.K = G.K) : Gb := { G with B := B, hK := h }
/-- what the law promises -/
def spL (G : Gb) : Sp := fun vs H Q E => ∃ (a : Addr) (ns : List Int), vs = [.ref a] ∧ SqL G.K H a (ns.map V.int) ∧ (∀ z ∈ ns, Builtin.Int.intBits z ≤ 1048576) ∧ (∀ p ∈ G.T, TabOk H p) ∧ ∀ H', Q (.bl true) H'
def frW : Fr := { hd := fun _ => False, H0 := fun _ => none, mt := none, ek := fun _ => False }
theorem start_ok {G : Gb} {n i : Nat} {l : List D} {xs : List V} {σ : L2.St} {H : Hp} {q : Addr} (hl : σ.length = n) (hi : σ[i]? = some (some (.ref q))) (hq : H q = some (.lst xs)) (ht : ∀ p ∈ G.T, TabOk H p) (r : ∀ H', RepL G.B H' l xs) :
    OkF G frW ((List.replicate n SV.no).set i (.ow (.lst l))) σ H := by
  have own : ∀ {j u}, ((List.replicate n SV.no).set i (.ow (.lst l)))[j]? = some u → isOwn u = true → j = i := fun {j u} e z => by
    rcases set_get e with ⟨rfl, _, _⟩ | ⟨_, e⟩
    · rfl
    · have := List.eq_of_mem_replicate (List.mem_of_getElem? e)
      subst this
      cases z
  refine ⟨by simp [hl], fun j u e => ?_, fun j k a p q => ?_, fun a o z => z, fun a z => z.elim, fun a o e _ _ => (by cases e), fun j a o => .inr fun o e => (by cases e), ht, fun j a e => (by cases e)⟩
  · rcases set_get e with ⟨rfl, _, rfl⟩ | ⟨_, e⟩
    · exact ⟨q, hi, xs, hq, r _⟩
    · have := List.eq_of_mem_replicate (List.mem_of_getElem? e)
      subst this
      exact trivial
  · obtain ⟨⟨w, e1, e2⟩, _⟩ := p
    obtain ⟨⟨w', f1, f2⟩, _⟩ := q
    rw [own e1 e2, own f1 f2]
section
variable {G : Gb} {cf : FnI} {lf : Nat → Env → Out D}
/-- a law: its first statement walks the rounds -/
theorem law_fn {name qual : Str} {params : Arguments} {inb rest : List Stmt} {scope : Scope} {dV kV doc pm cdv ct oc : Value} {an od : Option Addr} {osl : Array (Option Value)} {fa ra : Addr} {rdat : FuncData} {k kr i j : Nat} {N : List Str} {dv : Int → List D} {bin brest : SL} {B : List (Str × Addr) → RB} {p1 p2 p3 p4 p5 p6 : Pos}
    (lk : G.K.lookup fa = some ⟨oc, od, .func (PySem.W.fnOf name qual params (.For (.Name "dice" p1) (.Call (.Name "_law_rounds" p2) [.Name "script" p3, .Constant (.int 1) j p4] [] p5) inb [] p6 :: rest) scope dV kV doc pm an cdv ct), osl⟩) (hcd : PySem.W.codeIn G.K cdv qual = true)
    (S : FnScope N ["script"] scope) (hi0 : N[0]? = some ("script" : Str)) (hi : N[i]? = some ("dice" : Str)) (h0 : scope.names.lookup ("script" : Str) = some .local) (h1 : scope.names.lookup ("dice" : Str) = some .local) (h2 : scope.names.lookup ("_law_rounds" : Str) = some .globalImplicit)
    (hBK : ∀ c0, (B c0).K = G.K) (R : ∀ c0, FnOk G.prog G.w G.K G.mg G.base (L2.CX G.prog G.w) kr ra rdat ["script", "most"] (spR (G.withB (B c0) (hBK c0)) dv)) (hkr : kr ≤ k) (hm : G.mg "_law_rounds" = some (.ref ra)) (hk : PySem.W.keepIn G.K (.ref ra) = true) (hb : Binds G.K rdat ["script", "most"] [])
    (hdv : ∀ (c0 : List (Str × Addr)) (c : Int) (H H' : Hp) (xs : List V), RepL (B c0) H (dv c) xs → RepL (B c0) H' (dv c) xs)
    (d_in : ∀ c0, ESs (G.withB (B c0) (hBK c0)) cf lf { N := N, sc := scope, lvl := k, kd := 0, cd := cdv, qual := qual ++ ".<locals>.", cells := some c0 } inb bin) (d_rest : ∀ c0, ESs (G.withB (B c0) (hBK c0)) cf lf { N := N, sc := scope, lvl := k, kd := 0, cd := cdv, qual := qual ++ ".<locals>.", cells := some c0 } rest brest)
    (run : ∀ c : Int, Builtin.Int.intBits c ≤ 1048576 → ∃ ρ, lawR cf lf i N.length bin brest (.lst (dv c)) = .ret (.bl true) ρ) :
    FnOk G.prog G.w G.K G.mg G.base (L2.CX G.prog G.w) (k + 1) fa (PySem.W.fnOf name qual params (.For (.Name "dice" p1) (.Call (.Name "_law_rounds" p2) [.Name "script" p3, .Constant (.int 1) j p4] [] p5) inb [] p6 :: rest) scope dV kV doc pm an cdv ct) ["script"] (spL G) := by
  refine fn_of lk hcd S (fun vs H Q E ⟨a, ns, e, _⟩ => by rw [e]; rfl) fun A outer s H vs Q E hr hsp => ?_
  obtain ⟨a, ns, rfl, hA, hbits, hT, q⟩ := hsp
  generalize hX : cxOf (L2.CX G.prog G.w) G.prog G.w G.K G.mg G.base N qual scope fa cdv A outer s H E = X
  have eX : X = cxOf (L2.CX G.prog G.w) G.prog G.w G.K G.mg G.base N qual scope fa cdv A outer s H E := hX.symm
  generalize hc0 : cellsFrom (s.heap.objs.size + 1) scope.names [] = c0
  have tk : Takes X (WF (G.withB (B c0) (hBK c0)) frW) := by subst eX; exact (takes_of rfl rfl rfl rfl).imp fun c d σ' H' w => w.elim fun _ z => z.2.2.2.elim
  have cx : CxS (G.withB (B c0) (hBK c0)) { N := N, sc := scope, lvl := k, kd := 0, cd := cdv, qual := qual ++ ".<locals>.", cells := some c0 } frW X := by
    subst eX
    exact ⟨rfl, rfl, rfl, rfl, rfl, rfl, rfl, S.nd, rfl, hr, .of tk, fun _ _ => rfl, fun _ => ⟨rfl, rfl, tk⟩, fun _ => passes_of rfl, fun _ => ⟨rfl, rfl⟩, fun c z => by cases z; exact hc0⟩
  have nd : X.N.Nodup := by rw [cx.N]; exact S.nd
  have F' : FnOk X.prog X.w X.K X.mg X.base (L2.CX X.prog X.w) kr ra rdat ["script", "most"] (spR (G.withB (B c0) (hBK c0)) dv) := by subst eX; exact R c0
  have hb' : Binds X.K rdat ["script", "most"] [] := by subst eX; exact hb
  have hx : Passes (L2.CX X.prog X.w) X (fun _ _ _ => False) := (TakF.of tk).passes fun _ _ _ _ z => z.elim
  have ar : PA X [.Name "script" p3, .Constant (.int 1) j p4] (tCons (tVar 0) (tCons (tC (.int 1)) tNil)) := pa_cons (pe_var (cx.nN hi0) (cx.vis (.inl h0))) (pa_cons pe_int pa_nil rfl) rfl
  have call := pe_call (p := p2) (pos := p5) (k := kr) (ds := []) (dvs := []) F' (cx.room.mono hkr) (cx.gl h2) (cx.hm hm) (by rw [cx.K]; exact hk) hb' .nil hx ar (by decide) rfl rfl
  refine ⟨_, pss_cons (ps_for (cx.po rfl) cx.calm (pi_list call) (pg_name nd (cx.nN hi) (cx.loc (.inl h1)) (cx.set (S := { N := N, sc := scope, lvl := k, kd := 0, cd := cdv, qual := qual ++ ".<locals>.", cells := some c0 }) ⟨.inl h1, .inl rfl⟩).2) (d_in c0 frW X cx) (fun _ => rfl)) (d_rest c0 frW X cx), ?_⟩
  have hlN : (L2.start N [V.ref a]).length = N.length := start_len (by show 1 ≤ N.length; exact get_lt hi0)
  have s0 : (L2.start N [V.ref a])[0]? = some (some (.ref a)) := start_get rfl
  have iN : i < N.length := get_lt hi
  obtain ⟨ρf, hrun⟩ := run (cell0 ns) (by
    cases ns with
    | nil => show Builtin.Int.intBits 0 ≤ 1048576; decide
    | cons c r => exact hbits c List.mem_cons_self)
  have fin : ∀ {ρ σ' H'}, OkF (G.withB (B c0) (hBK c0)) frW ρ σ' H' → evalSL cf lf brest ρ = .ret (.bl true) ρf → tS (G.withB (B c0) (hBK c0)) frW (evalSL cf lf brest) { nx := fun _ H' => Q .non H', rt := Q } σ' H' := fun {ρ σ' H'} ok e => ⟨ρ, ok, by
    rw [e]
    intro v σ2 H2 _ r
    simp only [Rep] at r
    rw [r]
    exact q H2⟩
  refine ⟨.ref a, s0, a, ns, rfl, hA, hT, fun p q' xs H1 g1 npq hp hq r1 => ?_⟩
  refine ⟨p, rfl, ⟨[.ref q'], .of hp⟩, ?_⟩
  let N1 : L2.St → Hp → Prop := fun σ' H' => H' p = some (.lst [.ref q']) ∧ ∃ ρ, OkF (G.withB (B c0) (hBK c0)) frW ρ σ' H' ∧ evalSL cf lf brest ρ = .ret (.bl true) ρf
  refine ⟨fun t m σ' H' => (t = 0 ∧ m = 1 ∧ σ' = L2.start N [V.ref a] ∧ H' = H1) ∨ (t = 1 ∧ m = 0 ∧ N1 σ' H'), ⟨1, .inl ⟨rfl, rfl, rfl, rfl⟩⟩, fun t m σ' H' w => ?_⟩
  rcases w with ⟨rfl, rfl, rfl, rfl⟩ | ⟨rfl, rfl, hp', ρ, ok, e⟩
  · refine .inr ⟨⟨[.ref q'], .ref q', .of hp, rfl⟩, N1, fun σ3 H3 w => ⟨0, Nat.zero_lt_one, .inr ⟨rfl, rfl, w⟩⟩, fun x H2 y => ?_⟩
    obtain ⟨rfl, y⟩ := y
    have ex := y [.ref q'] (.of hp)
    cases ex
    have ok0 : OkF (G.withB (B c0) (hBK c0)) frW ((List.replicate N.length SV.no).set i (.ow (.lst (dv (cell0 ns))))) ((L2.start N [V.ref a]).set i (some (.ref q'))) H2 :=
      start_ok (by rw [List.length_set]; exact hlN) (set_same (by rw [hlN]; exact iN)) hq g1.tab fun H' => hdv c0 _ _ _ _ r1
    have vp : vis frW ((List.replicate N.length SV.no).set i (.ow (.lst (dv (cell0 ns))))) ((L2.start N [V.ref a]).set i (some (.ref q'))) H2 p = some (.lst [.ref q']) := vis_some.mpr ⟨⟨fun z => z, fun ⟨j, ⟨w, e1, e2⟩, e3⟩ => by
      rcases set_get e1 with ⟨rfl, _, _⟩ | ⟨_, e1⟩
      · rw [set_same (by rw [hlN]; exact iN)] at e3
        cases e3
        exact npq rfl
      · have := List.eq_of_mem_replicate (List.mem_of_getElem? e1)
        subst this
        cases e2⟩, hp⟩
    have kp : ∀ {ρ' σ3 H3}, Step (G.withB (B c0) (hBK c0)) frW ((List.replicate N.length SV.no).set i (.ow (.lst (dv (cell0 ns))))) ((L2.start N [V.ref a]).set i (some (.ref q'))) H2 ρ' σ3 H3 → H3 p = some (.lst [.ref q']) := fun {ρ' σ3 H3} st => (vis_some.mp (st.ext p _ vp (fun _ z => nomatch z))).2
    refine ⟨_, ok0, ?_⟩
    unfold lawR at hrun
    cases hb : evalSL cf lf bin ((List.replicate N.length SV.no).set i (.ow (.lst (dv (cell0 ns))))) with
    | bad => rw [hb] at hrun; cases hrun
    | exc k => rw [hb] at hrun; cases hrun
    | cont ρ1 => rw [hb] at hrun; exact fun σ3 H3 st => ⟨kp st, ρ1, st.ok, hrun⟩
    | next ρ1 => rw [hb] at hrun; exact fun σ3 H3 st => ⟨kp st, ρ1, st.ok, hrun⟩
    | brk ρ1 => rw [hb] at hrun; exact fun σ3 H3 st => fin st.ok hrun
    | ret d ρ1 =>
      rw [hb] at hrun
      have hd : d = .bl true := by cases hrun; rfl
      subst hd
      intro v σ3 H3 st r
      simp only [Rep] at r
      rw [r]
      exact q H3
  · exact .inl ⟨⟨[.ref q'], .of hp', Nat.le_refl _⟩, fin ok e⟩
end
end MZ
end
section
set_option maxRecDepth 100000
set_option maxHeartbeats 2000000
namespace MZ
open PySem PySem.Spec PyProof.Rows L2 LamX MX RZ
/-- a def of the text as it stands behind the top, its code object at cdv -/
structure DefAt (G : Gb) (x : Str) (st : Stmt) (cdv : Value) : Prop where
  ex : ∃ (fa : Addr) (oc kV doc pm ct : Value) (od an : Option Addr) (osl : Array (Option Value)), G.mg x = some (.ref fa) ∧ PySem.W.keepIn G.K (.ref fa) = true ∧
    G.K.lookup fa = some ⟨oc, od, .func (PySem.W.fnOf x x (defArgs st) (defBody st) (defScope st) .none kV doc pm an cdv ct), osl⟩ ∧ PySem.W.codeIn G.K cdv x = true
/-- how its arguments bind -/
def BindsD (x : Str) (st : Stmt) (ps : List Str) : Prop := ∀ (kV doc pm : Value) (an : Option Addr) (cdv ct : Value) (us : List Value), us.length = ps.length → bindArgs (PySem.W.fnOf x x (defArgs st) (defBody st) (defScope st) .none kV doc pm an cdv ct) ⟨us, []⟩ = pure (ps.zip us)
/-- a code table that is known -/
structure TabIs (G : Gb) (xa P : Addr) (q : Option Str) : Prop where
  tb : GxR.TabB G.base G.mg xa P
  tp : (P, q) ∈ G.T
  tq : ∀ p ∈ G.T, p.1 = P → p.2 = q
section
variable {G : Gb} {x : Str} {st : Stmt} {cdv : Value} {ps N : List Str} {fds : List Fd} {fd : Fd} {f n : Nat}
theorem call_zero (D : DefAt G x st cdv) (B : BindsD x st ps) (hps : ps.length = fd.np) : CallOk G (callF fds 0) (3 * 0) f fd x := by
  obtain ⟨fa, oc, kV, doc, pm, ct, od, an, osl, h1, h2, h3, h4⟩ := D.ex
  exact ⟨fa, _, ps, fn_bad hps fun ds => by rw [callF], h1, h2, .all (B kV doc pm an cdv ct)⟩
theorem call_up (D : DefAt G x st cdv) (B : BindsD x st ps) (S : FnScope N ps (defScope st)) (hps : ps.length = fd.np) (hN : fd.n = N.length) (hn : fd.np ≤ fd.n) (hf : fds[f]? = some fd)
    (body : ESs G (callF fds n) (lamsF (callF fds n) fd) { N := N, sc := defScope st, lvl := 3 * n + 2, kd := 0, cd := cdv, qual := x ++ ".<locals>." } (defBody st) fd.body) : CallOk G (callF fds (n + 1)) (3 * (n + 1)) f fd x := by
  obtain ⟨fa, oc, kV, doc, pm, ct, od, an, osl, h1, h2, h3, h4⟩ := D.ex
  refine ⟨fa, _, ps, fn_sound (k := 3 * n + 2) (cf := callF fds n) (N := N) h3 h4 S hps hN hn (fun ds hl => ?_) body, h1, h2, .all (B kV doc pm an cdv ct)⟩
  rw [callF]
  show (match fds[f]? with | some fd => runF (callF fds n) fd ds | none => FO.bad) = _
  rw [hf]
  show runF (callF fds n) fd ds = _
  unfold runF
  rw [if_pos hl]
end
end MZ
end
section
set_option maxRecDepth 100000
set_option maxHeartbeats 4000000
open PySem PySem.Spec PyProof.Rows L2 MX LamX
namespace K11
open MZ
abbrev topS (i : Nat) : Stmt := PySem.Challenge.pw_musicstack_k11_what_comes_again.main.body.getD i (.Pass default)
structure Fa (G : Gb) (cf : FnI) (k : Nat) : Prop where
  b_abs : G.mg "abs" = none
  b_enumerate : G.mg "enumerate" = none
  b_int : G.mg "int" = none
  b_len : G.mg "len" = none
  b_list : G.mg "list" = none
  b_max : G.mg "max" = none
  b_min : G.mg "min" = none
  b_range : G.mg "range" = none
  b_tuple : G.mg "tuple" = none
  b_zip : G.mg "zip" = none
  con_MOST_TONES : ConOk G "MOST_TONES" c_MOST_TONES
  con_STEPS : ConOk G "STEPS" c_STEPS
  x_PitchError : ExcOk G 1 "PitchError"
  x_ScoreError : ExcOk G 2 "ScoreError"
  f__law_halves : CallOk G cf k 15 fd__law_halves "_law_halves"
  f__law_notes : CallOk G cf k 16 fd__law_notes "_law_notes"
  f__law_roll : CallOk G cf k 11 fd__law_roll "_law_roll"
  f__law_tone : CallOk G cf k 14 fd__law_tone "_law_tone"
  f_form_letters : CallOk G cf k 7 fd_form_letters "form_letters"
  f_half_steps : CallOk G cf k 1 fd_half_steps "half_steps"
  f_is_canon : CallOk G cf k 9 fd_is_canon "is_canon"
  f_longest_again : CallOk G cf k 5 fd_longest_again "longest_again"
  f_moved_by : CallOk G cf k 3 fd_moved_by "moved_by"
  f_moved_shape : CallOk G cf k 8 fd_moved_shape "moved_shape"
  f_pitch : CallOk G cf k 0 fd_pitch "pitch"
  f_place_in : CallOk G cf k 2 fd_place_in "place_in"
  f_places_of : CallOk G cf k 6 fd_places_of "places_of"
  f_shape_of : CallOk G cf k 4 fd_shape_of "shape_of"
  nostop : NoStop G
section
variable {G : Gb} {cf : FnI} {lf : Nat → MZ.Env → Out D} {k : Nat} {cdv : Value} {qq : Str} {xa P : Addr}
abbrev N_pitch : List Str := ["letter", "alter", "octave"]
theorem d_pitch (E : Fa G cf k) : ESs G cf lf { N := N_pitch, sc := defScope (topS 6), lvl := k + 2, kd := 0, cd := cdv, qual := qq } (defBody (topS 6)) b_pitch := (ess_cons (es_if (ew_pt (ew_or (et_not (et_chn (fun _ _ c => op_le) (fun _ _ c => or_lt c) pk_le pk_lt yn_lt ee_int (ee_var rfl (.inl rfl)) ee_int)) (ew_or (et_not (et_chn (fun _ _ c => op_le) (fun _ _ c => op_le) pk_le pk_le yn_le (ee_sub (eo_ex ee_int) (eo_ex ee_int) rfl) (ee_var rfl (.inl rfl)) ee_int)) (ew_or1 (et_not (et_chn (fun _ _ c => op_le) (fun _ _ c => op_le) pk_le pk_le yn_le ee_int (ee_var rfl (.inl rfl)) ee_int)))))) (ess_cons (es_raiseK E.x_PitchError Nat.zero_ne_one rfl)
  ess_nil) ess_nil)
  (ess_cons (es_ret (ee_tup (ea_cons (eo_ex (ee_var rfl (.inl rfl))) (ea_cons (eo_ex (ee_var rfl (.inl rfl))) (ea_cons (eo_ex (ee_var rfl (.inl rfl))) ea_nil (Nat.succ_ne_zero _) (fun _ => rfl)) (Nat.succ_ne_zero _) (fun _ => rfl)) (Nat.succ_ne_zero _) (fun _ => rfl)) rfl rfl))
  ess_nil))
abbrev N_half_steps : List Str := ["tone"]
theorem d_half_steps (E : Fa G cf k) : ESs G cf lf { N := N_half_steps, sc := defScope (topS 7), lvl := k + 2, kd := 0, cd := cdv, qual := qq } (defBody (topS 7)) b_half_steps := (ess_cons (es_ret (ee_add (eo_ex (ee_add (eo_ex (ee_mul (eo_ex ee_int) (eo_ex (ee_add (eo_ex (ee_ix (eo_ex (ee_var rfl (.inl rfl))) (eo_ex ee_int) rfl (fun _ _ => rfl))) (eo_ex ee_int) rfl)) rfl)) (eo_ex (ee_ix (eo_ex (ee_con E.con_STEPS rfl)) (eo_ex (ee_ix (eo_ex (ee_var rfl (.inl rfl))) (eo_ex ee_int) rfl (fun _ _ => rfl))) rfl (fun _ _ => rfl))) rfl)) (eo_ex (ee_ix (eo_ex (ee_var rfl (.inl rfl))) (eo_ex ee_int) rfl (fun _ _ => rfl))) rfl))
  ess_nil)
abbrev N_place_in : List Str := ["tone"]
theorem d_place_in (E : Fa G cf k) : ESs G cf lf { N := N_place_in, sc := defScope (topS 8), lvl := k + 2, kd := 0, cd := cdv, qual := qq } (defBody (topS 8)) b_place_in := (ess_cons (es_ret (ee_add (eo_ex (ee_mul (eo_ex ee_int) (eo_ex (ee_ix (eo_ex (ee_var rfl (.inl rfl))) (eo_ex ee_int) rfl (fun _ _ => rfl))) rfl)) (eo_ex (ee_ix (eo_ex (ee_var rfl (.inl rfl))) (eo_ex ee_int) rfl (fun _ _ => rfl))) rfl))
  ess_nil)
abbrev N_moved_by : List Str := ["tone", "step", "place", "octave", "letter"]
theorem d_moved_by (E : Fa G cf k) : ESs G cf lf { N := N_moved_by, sc := defScope (topS 9), lvl := k + 2, kd := 0, cd := cdv, qual := qq } (defBody (topS 9)) b_moved_by := (ess_cons (es_set rfl ⟨(.inl rfl), .inl rfl⟩ (ee_add (eo_ex (ee_callK E.f_place_in (Nat.le_add_right k 2) rfl (ea_cons (eo_ex (ee_var rfl (.inl rfl))) ea_nil (Nat.succ_ne_zero _) (fun _ => rfl)) rfl rfl rfl (fun _ => rfl) (fun _ => rfl))) (eo_ex (ee_ix (eo_ex (ee_var rfl (.inl rfl))) (eo_ex ee_int) rfl (fun _ _ => rfl))) rfl) (fun _ h => rfl))
  (ess_cons (es_set rfl ⟨(.inl rfl), .inl rfl⟩ (ee_fdiv (eo_ex (ee_var rfl (.inl rfl))) (eo_ex ee_int) rfl) (fun _ h => rfl))
  (ess_cons (es_set rfl ⟨(.inl rfl), .inl rfl⟩ (ee_sub (eo_ex (ee_var rfl (.inl rfl))) (eo_ex (ee_mul (eo_ex ee_int) (eo_ex (ee_var rfl (.inl rfl))) rfl)) rfl) (fun _ h => rfl))
  (ess_cons (es_ret (ee_callK E.f_pitch (Nat.le_add_right k 2) rfl (ea_cons (eo_ex (ee_var rfl (.inl rfl))) (ea_cons (eo_ex (ee_sub (eo_ex (ee_sub (eo_ex (ee_add (eo_ex (ee_callK E.f_half_steps (Nat.le_add_right k 2) rfl (ea_cons (eo_ex (ee_var rfl (.inl rfl))) ea_nil (Nat.succ_ne_zero _) (fun _ => rfl)) rfl rfl rfl (fun _ => rfl) (fun _ => rfl))) (eo_ex (ee_ix (eo_ex (ee_var rfl (.inl rfl))) (eo_ex ee_int) rfl (fun _ _ => rfl))) rfl)) (eo_ex (ee_mul (eo_ex ee_int) (eo_ex (ee_add (eo_ex (ee_var rfl (.inl rfl))) (eo_ex ee_int) rfl)) rfl)) rfl)) (eo_ex (ee_ix (eo_ex (ee_con E.con_STEPS rfl)) (eo_ex (ee_var rfl (.inl rfl))) rfl (fun _ _ => rfl))) rfl)) (ea_cons (eo_ex (ee_var rfl (.inl rfl))) ea_nil (Nat.succ_ne_zero _) (fun _ => rfl)) (Nat.succ_ne_zero _) (fun _ => rfl)) (Nat.succ_ne_zero _) (fun _ => rfl)) rfl rfl rfl (fun _ => rfl) (fun _ => rfl)))
  ess_nil))))
abbrev N_shape_of : List Str := ["notes", "found", "place", "tone", "long", "after"]
theorem d_shape_of (E : Fa G cf k) : ESs G cf lf { N := N_shape_of, sc := defScope (topS 12), lvl := k + 2, kd := 0, cd := cdv, qual := qq } (defBody (topS 12)) b_shape_of := (ess_cons (es_own rfl ⟨(.inl rfl), .inl rfl⟩ (ef_lst ea_nil rfl rfl) (fun _ h => rfl))
  (ess_cons (es_for rfl (ei_enum rfl E.b_enumerate (ea_cons (eo_ex (ee_var rfl (.inl rfl))) ea_nil (Nat.succ_ne_zero _) (fun _ => rfl)) rfl (fun _ => rfl)) (eg_tp (egs_cons (eg_nm rfl ⟨(.inl rfl), .inl rfl⟩) (egs_cons (eg_tp (egs_cons (eg_nm rfl ⟨(.inl rfl), .inl rfl⟩) (egs_cons (eg_nm rfl ⟨(.inl rfl), .inl rfl⟩) egs_nil (fun _ => rfl)) (fun _ => rfl)) (fun _ => rfl) (fun _ => rfl)) egs_nil (fun _ => rfl)) (fun _ => rfl)) (fun _ => rfl) (fun _ => rfl)) (ess_cons (es_set rfl ⟨(.inl rfl), .inl rfl⟩ (ee_if (et_lt (eo_ex (ee_add (eo_ex (ee_var rfl (.inl rfl))) (eo_ex ee_int) rfl)) (eo_ex (ee_len rfl E.b_len (ea_cons (eo_ex (ee_var rfl (.inl rfl))) ea_nil (Nat.succ_ne_zero _) (fun _ => rfl)) (fun _ => rfl))) rfl) (ee_ix (eo_ex (ee_ix (eo_ex (ee_var rfl (.inl rfl))) (eo_ex (ee_add (eo_ex (ee_var rfl (.inl rfl))) (eo_ex ee_int) rfl)) rfl (fun _ _ => rfl))) (eo_ex ee_int) rfl (fun _ _ => rfl)) ee_non) (fun _ h => rfl))
  (ess_cons (es_app rfl (.inl rfl) (ee_tup (ea_cons (eo_ex (ee_if (ew_pt (ew_or (et_isN (eo_ex (ee_var rfl (.inl rfl))) rfl) (ew_or1 (et_isN (eo_ex (ee_var rfl (.inl rfl))) rfl)))) ee_non (ee_sub (eo_ex (ee_callK E.f_half_steps (Nat.le_add_right k 2) rfl (ea_cons (eo_ex (ee_var rfl (.inl rfl))) ea_nil (Nat.succ_ne_zero _) (fun _ => rfl)) rfl rfl rfl (fun _ => rfl) (fun _ => rfl))) (eo_ex (ee_callK E.f_half_steps (Nat.le_add_right k 2) rfl (ea_cons (eo_ex (ee_var rfl (.inl rfl))) ea_nil (Nat.succ_ne_zero _) (fun _ => rfl)) rfl rfl rfl (fun _ => rfl) (fun _ => rfl))) rfl))) (ea_cons (eo_ex (ee_var rfl (.inl rfl))) ea_nil (Nat.succ_ne_zero _) (fun _ => rfl)) (Nat.succ_ne_zero _) (fun _ => rfl)) rfl rfl) (fun _ => rfl) (fun _ => rfl) rfl (fun _ _ => rfl))
  ess_nil)) (fun _ _ => rfl))
  (ess_cons (es_ret (ee_tupOf rfl E.b_tuple (ea_cons (eo_bo rfl (.inl rfl)) ea_nil (Nat.succ_ne_zero _) (fun _ => rfl)) (fun _ => rfl)))
  ess_nil)))
abbrev N_longest_again : List Str := ["rows", "best", "first", "second", "size"]
theorem d_longest_again (E : Fa G cf k) : ESs G cf lf { N := N_longest_again, sc := defScope (topS 13), lvl := k + 2, kd := 0, cd := cdv, qual := qq } (defBody (topS 13)) b_longest_again := (ess_cons (es_if (et_gt (eo_ex (ee_len rfl E.b_len (ea_cons (eo_ex (ee_var rfl (.inl rfl))) ea_nil (Nat.succ_ne_zero _) (fun _ => rfl)) (fun _ => rfl))) (eo_ex (ee_con E.con_MOST_TONES rfl)) rfl) (ess_cons (es_raiseK E.x_ScoreError Nat.zero_ne_one rfl)
  ess_nil) ess_nil)
  (ess_cons (es_set rfl ⟨(.inl rfl), .inl rfl⟩ ee_non (fun _ h => rfl))
  (ess_cons (es_for rfl (ei_range1 rfl E.b_range (ea_cons (eo_ex (ee_len rfl E.b_len (ea_cons (eo_ex (ee_var rfl (.inl rfl))) ea_nil (Nat.succ_ne_zero _) (fun _ => rfl)) (fun _ => rfl))) ea_nil (Nat.succ_ne_zero _) (fun _ => rfl)) rfl (fun _ => rfl)) (eg_nm rfl ⟨(.inl rfl), .inl rfl⟩) (ess_cons (es_for rfl (ei_range2 rfl E.b_range (ea_cons (eo_ex (ee_add (eo_ex (ee_var rfl (.inl rfl))) (eo_ex ee_int) rfl)) (ea_cons (eo_ex (ee_len rfl E.b_len (ea_cons (eo_ex (ee_var rfl (.inl rfl))) ea_nil (Nat.succ_ne_zero _) (fun _ => rfl)) (fun _ => rfl))) ea_nil (Nat.succ_ne_zero _) (fun _ => rfl)) (Nat.succ_ne_zero _) (fun _ => rfl)) rfl (fun _ => rfl) (fun _ => rfl)) (eg_nm rfl ⟨(.inl rfl), .inl rfl⟩) (ess_cons (es_set rfl ⟨(.inl rfl), .inl rfl⟩ ee_int (fun _ h => rfl))
  (ess_cons (es_while rfl (ew_pt (ew_and (et_lt (eo_ex (ee_add (eo_ex (ee_var rfl (.inl rfl))) (eo_ex (ee_var rfl (.inl rfl))) rfl)) (eo_ex (ee_var rfl (.inl rfl))) rfl) (ew_and (et_lt (eo_ex (ee_add (eo_ex (ee_var rfl (.inl rfl))) (eo_ex (ee_var rfl (.inl rfl))) rfl)) (eo_ex (ee_len rfl E.b_len (ea_cons (eo_ex (ee_var rfl (.inl rfl))) ea_nil (Nat.succ_ne_zero _) (fun _ => rfl)) (fun _ => rfl))) rfl) (ew_and1 (et_eq (eo_ex (ee_ix (eo_ex (ee_var rfl (.inl rfl))) (eo_ex (ee_add (eo_ex (ee_var rfl (.inl rfl))) (eo_ex (ee_var rfl (.inl rfl))) rfl)) rfl (fun _ _ => rfl))) (eo_ex (ee_ix (eo_ex (ee_var rfl (.inl rfl))) (eo_ex (ee_add (eo_ex (ee_var rfl (.inl rfl))) (eo_ex (ee_var rfl (.inl rfl))) rfl)) rfl (fun _ _ => rfl))) rfl))))) (ess_cons (es_augAdd rfl ⟨(.inl rfl), .inl rfl⟩ ee_int)
  ess_nil))
  (ess_cons (es_if (ew_pt (ew_and (et_gt (eo_ex (ee_var rfl (.inl rfl))) (eo_ex ee_int) rfl) (ew_and1 (ew_pt (ew_or (et_isN (eo_ex (ee_var rfl (.inl rfl))) rfl) (ew_or1 (et_gt (eo_ex (ee_var rfl (.inl rfl))) (eo_ex (ee_ix (eo_ex (ee_var rfl (.inl rfl))) (eo_ex ee_int) rfl (fun _ _ => rfl))) rfl))))))) (ess_cons (es_set rfl ⟨(.inl rfl), .inl rfl⟩ (ee_tup (ea_cons (eo_ex (ee_var rfl (.inl rfl))) (ea_cons (eo_ex (ee_var rfl (.inl rfl))) (ea_cons (eo_ex (ee_var rfl (.inl rfl))) ea_nil (Nat.succ_ne_zero _) (fun _ => rfl)) (Nat.succ_ne_zero _) (fun _ => rfl)) (Nat.succ_ne_zero _) (fun _ => rfl)) rfl rfl) (fun _ h => rfl))
  ess_nil) ess_nil)
  ess_nil))) (fun _ _ => rfl))
  ess_nil) (fun _ _ => rfl))
  (ess_cons (es_ret (ee_var rfl (.inl rfl)))
  ess_nil))))
abbrev N_places_of : List Str := ["rows", "wanted", "size", "place"]
theorem d_places_of (E : Fa G cf k) (hcd : cdv = .ref xa) (tb : GxR.TabB G.base G.mg xa P) (tp : (P, none) ∈ G.T) (tq : ∀ p ∈ G.T, p.1 = P → p.2 = none) : ESs G cf lf { N := N_places_of, sc := defScope (topS 14), lvl := k + 2, kd := 0, cd := cdv, qual := qq } (defBody (topS 14)) b_places_of := (ess_cons (es_set rfl ⟨(.inr rfl), .inl rfl⟩ (ee_len rfl E.b_len (ea_cons (eo_ex (ee_var rfl (.inr (.inl rfl)))) ea_nil (Nat.succ_ne_zero _) (fun _ => rfl)) (fun _ => rfl)) (fun _ h => rfl))
  (ess_cons (es_ret (ee_gtup (own := [("place", 3)]) rfl rfl hcd tb tp tq E.nostop rfl E.b_tuple (gsc_by rfl) (ei_range1 rfl E.b_range (ea_cons (eo_ex (ee_add (eo_ex (ee_sub (eo_ex (ee_len rfl E.b_len (ea_cons (eo_ex (ee_var rfl (.inr (.inl rfl)))) ea_nil (Nat.succ_ne_zero _) (fun _ => rfl)) (fun _ => rfl))) (eo_ex (ee_var rfl (.inr (.inl rfl)))) rfl)) (eo_ex ee_int) rfl)) ea_nil (Nat.succ_ne_zero _) (fun _ => rfl)) rfl (fun _ => rfl)) (eg_nm rfl ⟨(.inl rfl), .inr rfl⟩) (ets_one (et_eq (eo_ex (ee_tupOf rfl E.b_tuple (ea_cons (eo_ex (ee_cut2 (eo_ex (ee_var rfl (.inr (.inr rfl)))) (ee_var rfl (.inl rfl)) (ee_add (eo_ex (ee_var rfl (.inl rfl))) (eo_ex (ee_var rfl (.inr (.inr rfl)))) rfl) rfl rfl)) ea_nil (Nat.succ_ne_zero _) (fun _ => rfl)) (fun _ => rfl))) (eo_ex (ee_tupOf rfl E.b_tuple (ea_cons (eo_ex (ee_var rfl (.inr (.inr rfl)))) ea_nil (Nat.succ_ne_zero _) (fun _ => rfl)) (fun _ => rfl))) rfl)) (ee_var rfl (.inl rfl)) (by decide) (fun _ _ => rfl) (fun _ => rfl)))
  ess_nil))
abbrev N_form_letters : List Str := ["parts", "firsts", "found", "part", "letter", "place", "first"]
theorem d_form_letters (E : Fa G cf k) : ESs G cf lf { N := N_form_letters, sc := defScope (topS 15), lvl := k + 2, kd := 0, cd := cdv, qual := qq } (defBody (topS 15)) b_form_letters := (ess_cons (es_parL rfl rfl (by decide) rfl rfl (ef_lst ea_nil rfl rfl) (fun _ => rfl) (fun _ h => by simp only [swappedStores, swapsWithSole, Env.kindOf, Env.blockKind, h]; rfl) (fun _ _ => rfl))
  (ess_cons (es_for rfl (ei_seq (eo_ex (ee_var rfl (.inl rfl))) rfl rfl) (eg_nm rfl ⟨(.inl rfl), .inl rfl⟩) (ess_cons (es_set rfl ⟨(.inl rfl), .inl rfl⟩ ee_non (fun _ h => rfl))
  (ess_cons (es_for rfl (ei_enum rfl E.b_enumerate (ea_cons (eo_bo rfl (.inl rfl)) ea_nil (Nat.succ_ne_zero _) (fun _ => rfl)) rfl (fun _ => rfl)) (eg_tp (egs_cons (eg_nm rfl ⟨(.inl rfl), .inl rfl⟩) (egs_cons (eg_nm rfl ⟨(.inl rfl), .inl rfl⟩) egs_nil (fun _ => rfl)) (fun _ => rfl)) (fun _ => rfl) (fun _ => rfl)) (ess_cons (es_if (ew_pt (ew_and (et_isN (eo_ex (ee_var rfl (.inl rfl))) rfl) (ew_and1 (et_eq (eo_ex (ee_tupOf rfl E.b_tuple (ea_cons (eo_ex (ee_var rfl (.inl rfl))) ea_nil (Nat.succ_ne_zero _) (fun _ => rfl)) (fun _ => rfl))) (eo_ex (ee_var rfl (.inl rfl))) rfl)))) (ess_cons (es_set rfl ⟨(.inl rfl), .inl rfl⟩ (ee_ix (eo_ex ee_str) (eo_ex (ee_var rfl (.inl rfl))) rfl (fun _ _ => rfl)) (fun _ h => rfl))
  ess_nil) (ess_cons (es_if (ew_pt (ew_and (et_isN (eo_ex (ee_var rfl (.inl rfl))) rfl) (ew_and (et_gt (eo_ex (ee_len rfl E.b_len (ea_cons (eo_ex (ee_var rfl (.inl rfl))) ea_nil (Nat.succ_ne_zero _) (fun _ => rfl)) (fun _ => rfl))) (eo_ex ee_int) rfl) (ew_and1 (et_eq (eo_ex (ee_callK E.f_moved_shape (Nat.le_add_right k 2) rfl (ea_cons (eo_ex (ee_var rfl (.inl rfl))) ea_nil (Nat.succ_ne_zero _) (fun _ => rfl)) rfl rfl rfl (fun _ => rfl) (fun _ => rfl))) (eo_ex (ee_callK E.f_moved_shape (Nat.le_add_right k 2) rfl (ea_cons (eo_ex (ee_var rfl (.inl rfl))) ea_nil (Nat.succ_ne_zero _) (fun _ => rfl)) rfl rfl rfl (fun _ => rfl) (fun _ => rfl))) rfl))))) (ess_cons (es_set rfl ⟨(.inl rfl), .inl rfl⟩ (ee_add (eo_ex (ee_ix (eo_ex ee_str) (eo_ex (ee_var rfl (.inl rfl))) rfl (fun _ _ => rfl))) (eo_ex ee_str) rfl) (fun _ h => rfl))
  ess_nil) ess_nil)
  ess_nil))
  ess_nil) (fun _ _ => rfl))
  (ess_cons (es_if (et_isN (eo_ex (ee_var rfl (.inl rfl))) rfl) (ess_cons (es_if (et_eq (eo_ex (ee_len rfl E.b_len (ea_cons (eo_bo rfl (.inl rfl)) ea_nil (Nat.succ_ne_zero _) (fun _ => rfl)) (fun _ => rfl))) (eo_ex ee_int) rfl) (ess_cons (es_raiseK E.x_ScoreError Nat.zero_ne_one rfl)
  ess_nil) ess_nil)
  (ess_cons (es_set rfl ⟨(.inl rfl), .inl rfl⟩ (ee_ix (eo_ex ee_str) (eo_ex (ee_len rfl E.b_len (ea_cons (eo_bo rfl (.inl rfl)) ea_nil (Nat.succ_ne_zero _) (fun _ => rfl)) (fun _ => rfl))) rfl (fun _ _ => rfl)) (fun _ h => rfl))
  (ess_cons (es_app rfl (.inl rfl) (ee_tupOf rfl E.b_tuple (ea_cons (eo_ex (ee_var rfl (.inl rfl))) ea_nil (Nat.succ_ne_zero _) (fun _ => rfl)) (fun _ => rfl)) (fun _ => rfl) (fun _ => rfl) rfl (fun _ _ => rfl))
  ess_nil))) ess_nil)
  (ess_cons (es_app rfl (.inl rfl) (ee_var rfl (.inl rfl)) (fun _ => rfl) (fun _ => rfl) rfl (fun _ _ => rfl))
  ess_nil)))) (fun _ _ => rfl))
  (ess_cons (es_ret (ee_tupOf rfl E.b_tuple (ea_cons (eo_bo rfl (.inl rfl)) ea_nil (Nat.succ_ne_zero _) (fun _ => rfl)) (fun _ => rfl)))
  ess_nil)))
abbrev N_moved_shape : List Str := ["notes", "tone", "long", "first"]
theorem d_moved_shape (E : Fa G cf k) (hcd : cdv = .ref xa) (tb : GxR.TabB G.base G.mg xa P) (tp : (P, none) ∈ G.T) (tq : ∀ p ∈ G.T, p.1 = P → p.2 = none) : ESs G cf lf { N := N_moved_shape, sc := defScope (topS 16), lvl := k + 2, kd := 0, cd := cdv, qual := qq } (defBody (topS 16)) b_moved_shape := (ess_cons (es_set rfl ⟨(.inr rfl), .inl rfl⟩ ee_non (fun _ h => rfl))
  (ess_cons (es_for rfl (ei_seq (eo_ex (ee_var rfl (.inl rfl))) rfl rfl) (eg_tp (egs_cons (eg_nm rfl ⟨(.inl rfl), .inl rfl⟩) (egs_cons (eg_nm rfl ⟨(.inl rfl), .inl rfl⟩) egs_nil (fun _ => rfl)) (fun _ => rfl)) (fun _ => rfl) (fun _ => rfl)) (ess_cons (es_if (ew_pt (ew_and (et_isN (eo_ex (ee_var rfl (.inr (.inl rfl)))) rfl) (ew_and1 (et_notN (eo_ex (ee_var rfl (.inl rfl))) rfl)))) (ess_cons (es_set rfl ⟨(.inr rfl), .inl rfl⟩ (ee_callK E.f_half_steps (Nat.le_add_right k 2) rfl (ea_cons (eo_ex (ee_var rfl (.inl rfl))) ea_nil (Nat.succ_ne_zero _) (fun _ => rfl)) rfl rfl rfl (fun _ => rfl) (fun _ => rfl)) (fun _ h => rfl))
  ess_nil) ess_nil)
  ess_nil) (fun _ _ => rfl))
  (ess_cons (es_ret (ee_gtup (own := [("tone", 1), ("long", 2)]) rfl rfl hcd tb tp tq E.nostop rfl E.b_tuple (gsc_by rfl) (ei_seq (eo_ex (ee_var rfl (.inl rfl))) rfl rfl) (eg_tp (egs_cons (eg_nm rfl ⟨(.inl rfl), .inr rfl⟩) (egs_cons (eg_nm rfl ⟨(.inl rfl), .inr rfl⟩) egs_nil (fun _ => rfl)) (fun _ => rfl)) (fun _ => rfl) (fun _ => rfl)) ets_nil (ee_tup (ea_cons (eo_ex (ee_if (et_isN (eo_ex (ee_var rfl (.inl rfl))) rfl) ee_non (ee_sub (eo_ex (ee_callK E.f_half_steps (Nat.le_add_right k 1) rfl (ea_cons (eo_ex (ee_var rfl (.inl rfl))) ea_nil (Nat.succ_ne_zero _) (fun _ => rfl)) rfl rfl rfl (fun _ => rfl) (fun _ => rfl))) (eo_ex (ee_var rfl (.inr (.inr rfl)))) rfl))) (ea_cons (eo_ex (ee_var rfl (.inl rfl))) ea_nil (Nat.succ_ne_zero _) (fun _ => rfl)) (Nat.succ_ne_zero _) (fun _ => rfl)) rfl rfl) (by decide) (fun _ _ => rfl) (fun _ => rfl)))
  ess_nil)))
abbrev N_is_canon : List Str := ["notes", "places", "halves", "one", "other"]
theorem d_is_canon (E : Fa G cf k) : ESs G cf lf { N := N_is_canon, sc := defScope (topS 17), lvl := k + 2, kd := 0, cd := cdv, qual := qq } (defBody (topS 17)) b_is_canon := (ess_cons (es_if (et_lt (eo_ex (ee_var rfl (.inl rfl))) (eo_ex ee_int) rfl) (ess_cons (es_raiseK E.x_ScoreError Nat.zero_ne_one rfl)
  ess_nil) ess_nil)
  (ess_cons (es_for rfl (ei_zip rfl E.b_zip (ea_cons (eo_ex (ee_var rfl (.inl rfl))) (ea_cons (eo_ex (ee_cutLo (eo_ex (ee_var rfl (.inl rfl))) (ee_var rfl (.inl rfl)) rfl rfl)) ea_nil (Nat.succ_ne_zero _) (fun _ => rfl)) (Nat.succ_ne_zero _) (fun _ => rfl)) rfl (fun _ => rfl) (fun _ => rfl)) (eg_tp (egs_cons (eg_nm rfl ⟨(.inl rfl), .inl rfl⟩) (egs_cons (eg_nm rfl ⟨(.inl rfl), .inl rfl⟩) egs_nil (fun _ => rfl)) (fun _ => rfl)) (fun _ => rfl) (fun _ => rfl)) (ess_cons (es_if (ew_pt (ew_or (et_ne (eo_ex (ee_ix (eo_ex (ee_var rfl (.inl rfl))) (eo_ex ee_int) rfl (fun _ _ => rfl))) (eo_ex (ee_ix (eo_ex (ee_var rfl (.inl rfl))) (eo_ex ee_int) rfl (fun _ _ => rfl))) rfl) (ew_or1 (et_ne (eo_ex (ee_isN (eo_ex (ee_ix (eo_ex (ee_var rfl (.inl rfl))) (eo_ex ee_int) rfl (fun _ _ => rfl))) rfl)) (eo_ex (ee_isN (eo_ex (ee_ix (eo_ex (ee_var rfl (.inl rfl))) (eo_ex ee_int) rfl (fun _ _ => rfl))) rfl)) rfl)))) (ess_cons (es_ret ee_bl)
  ess_nil) ess_nil)
  (ess_cons (es_if (ew_pt (ew_and (et_notN (eo_ex (ee_ix (eo_ex (ee_var rfl (.inl rfl))) (eo_ex ee_int) rfl (fun _ _ => rfl))) rfl) (ew_and1 (et_ne (eo_ex (ee_sub (eo_ex (ee_callK E.f_half_steps (Nat.le_add_right k 2) rfl (ea_cons (eo_ex (ee_ix (eo_ex (ee_var rfl (.inl rfl))) (eo_ex ee_int) rfl (fun _ _ => rfl))) ea_nil (Nat.succ_ne_zero _) (fun _ => rfl)) rfl rfl rfl (fun _ => rfl) (fun _ => rfl))) (eo_ex (ee_callK E.f_half_steps (Nat.le_add_right k 2) rfl (ea_cons (eo_ex (ee_ix (eo_ex (ee_var rfl (.inl rfl))) (eo_ex ee_int) rfl (fun _ _ => rfl))) ea_nil (Nat.succ_ne_zero _) (fun _ => rfl)) rfl rfl rfl (fun _ => rfl) (fun _ => rfl))) rfl)) (eo_ex (ee_var rfl (.inl rfl))) rfl)))) (ess_cons (es_ret ee_bl)
  ess_nil) ess_nil)
  ess_nil)) (fun _ _ => rfl))
  (ess_cons (es_ret ee_bl)
  ess_nil)))
abbrev N__law_dice : List Str := ["cell"]
theorem d__law_dice (E : Fa G cf k) : ESFs G cf lf { N := N__law_dice, sc := defScope (topS 19), lvl := k, kd := 0, cd := cdv, qual := qq } (defBody (topS 19)) b__law_dice := (essF_cons (esF_if (et_chn (fun _ _ c => or_lt c) (fun _ _ c => or_lt c) pk_lt pk_lt yn_lt (ee_sub (eo_ex ee_int) (eo_ex ee_int) rfl) (ee_var rfl (.inl rfl)) ee_int) (essF_cons (esF_ret (ef_lst (ea_cons (eo_ex (ee_abs rfl E.b_abs (ea_cons (eo_ex (ee_var rfl (.inl rfl))) ea_nil (Nat.succ_ne_zero _) (fun _ => rfl)) (fun _ => rfl))) (ea_cons (eo_ex ee_int) (ea_cons (eo_ex ee_int) ea_nil (Nat.succ_ne_zero _) (fun _ => rfl)) (Nat.succ_ne_zero _) (fun _ => rfl)) (Nat.succ_ne_zero _) (fun _ => rfl)) rfl rfl))
  essF_nil) essF_nil)
  (essF_cons (esF_ret (ef_lst (ea_cons (eo_ex (ee_var rfl (.inl rfl))) (ea_cons (eo_ex (ee_add (eo_ex ee_int) (eo_ex (ee_mod (eo_ex (ee_toInt rfl E.b_int (ea_cons (eo_ex (ee_var rfl (.inl rfl))) ea_nil (Nat.succ_ne_zero _) (fun _ => rfl)) (fun _ => rfl))) (eo_ex ee_int) rfl)) rfl)) (ea_cons (eo_ex (ee_toInt rfl E.b_int (ea_cons (eo_ex (ee_ge (eo_ex (ee_var rfl (.inl rfl))) (eo_ex (ee_pow (eo_ex ee_int) (eo_ex ee_int) rfl)) rfl)) ea_nil (Nat.succ_ne_zero _) (fun _ => rfl)) (fun _ => rfl))) ea_nil (Nat.succ_ne_zero _) (fun _ => rfl)) (Nat.succ_ne_zero _) (fun _ => rfl)) (Nat.succ_ne_zero _) (fun _ => rfl)) rfl rfl))
  essF_nil))
abbrev N__law_roll : List Str := ["dice", "many", "found"]
theorem d__law_roll (E : Fa G cf k) : ESs G cf lf { N := N__law_roll, sc := defScope (topS 20), lvl := k + 2, kd := 0, cd := cdv, qual := qq } (defBody (topS 20)) b__law_roll := (ess_cons (es_if (ew_pt (ew_or (et_eq (eo_ex (ee_ix (eo_bo rfl (.inl rfl)) (eo_ex ee_int) rfl (fun _ _ => rfl))) (eo_ex ee_int) rfl) (ew_or1 (ew_pt (ew_and (et_eq (eo_ex (ee_ix (eo_bo rfl (.inl rfl)) (eo_ex ee_int) rfl (fun _ _ => rfl))) (eo_ex ee_int) rfl) (ew_and1 (et_gt (eo_ex (ee_ix (eo_bo rfl (.inl rfl)) (eo_ex ee_int) rfl (fun _ _ => rfl))) (eo_ex ee_int) rfl))))))) (ess_cons (es_set rfl ⟨(.inl rfl), .inl rfl⟩ (ee_mod (eo_ex (ee_toInt rfl E.b_int (ea_cons (eo_ex (ee_ix (eo_bo rfl (.inl rfl)) (eo_ex ee_int) rfl (fun _ _ => rfl))) ea_nil (Nat.succ_ne_zero _) (fun _ => rfl)) (fun _ => rfl))) (eo_ex (ee_var rfl (.inl rfl))) rfl) (fun _ h => rfl))
  (ess_cons (es_setIx rfl (.inl rfl) (ee_fdiv (eo_ex (ee_ix (eo_bo rfl (.inl rfl)) (eo_ex ee_int) rfl (fun _ _ => rfl))) (eo_ex (ee_var rfl (.inl rfl))) rfl) ee_int (fun _ _ => rfl) (fun _ _ => rfl) (fun _ _ => rfl) (fun _ => rfl))
  (ess_cons (es_ret (ee_var rfl (.inl rfl)))
  ess_nil))) ess_nil)
  (ess_cons (es_setIx rfl (.inl rfl) ee_int ee_int (fun _ _ => rfl) (fun _ _ => rfl) (fun _ _ => rfl) (fun _ => rfl))
  (ess_cons (es_if (et_gt (eo_ex (ee_var rfl (.inl rfl))) (eo_ex ee_int) rfl) (ess_cons (es_ret (ee_mod (eo_ex (ee_toInt rfl E.b_int (ea_cons (eo_ex (ee_add (eo_ex (ee_mul (eo_ex (ee_callK E.f__law_roll (Nat.le_add_right k 2) rfl (ea_cons (eo_mu rfl (.inl rfl)) (ea_cons (eo_ex (ee_add (eo_ex (ee_fdiv (eo_ex (ee_var rfl (.inl rfl))) (eo_ex ee_int) rfl)) (eo_ex ee_int) rfl)) ea_nil (Nat.succ_ne_zero _) (fun _ => rfl)) (Nat.succ_ne_zero _) (fun _ => rfl)) rfl rfl rfl (fun _ => rfl) (fun _ => rfl))) (eo_ex ee_int) rfl)) (eo_ex (ee_callK E.f__law_roll (Nat.le_add_right k 2) rfl (ea_cons (eo_mu rfl (.inl rfl)) (ea_cons (eo_ex ee_int) ea_nil (Nat.succ_ne_zero _) (fun _ => rfl)) (Nat.succ_ne_zero _) (fun _ => rfl)) rfl rfl rfl (fun _ => rfl) (fun _ => rfl))) rfl)) ea_nil (Nat.succ_ne_zero _) (fun _ => rfl)) (fun _ => rfl))) (eo_ex (ee_var rfl (.inl rfl))) rfl))
  ess_nil) ess_nil)
  (ess_cons (es_setIx rfl (.inl rfl) (ee_mod (eo_ex (ee_toInt rfl E.b_int (ea_cons (eo_ex (ee_add (eo_ex (ee_add (eo_ex (ee_mul (eo_ex (ee_ix (eo_bo rfl (.inl rfl)) (eo_ex ee_int) rfl (fun _ _ => rfl))) (eo_ex ee_int) rfl)) (eo_ex (ee_mul (eo_ex (ee_ix (eo_bo rfl (.inl rfl)) (eo_ex ee_int) rfl (fun _ _ => rfl))) (eo_ex ee_int) rfl)) rfl)) (eo_ex ee_int) rfl)) ea_nil (Nat.succ_ne_zero _) (fun _ => rfl)) (fun _ => rfl))) (eo_ex ee_int) rfl) ee_int (fun _ _ => rfl) (fun _ _ => rfl) (fun _ _ => rfl) (fun _ => rfl))
  (ess_cons (es_setIx rfl (.inl rfl) (ee_add (eo_ex (ee_ix (eo_bo rfl (.inl rfl)) (eo_ex ee_int) rfl (fun _ _ => rfl))) (eo_ex ee_int) rfl) ee_int (fun _ _ => rfl) (fun _ _ => rfl) (fun _ _ => rfl) (fun _ => rfl))
  (ess_cons (es_ret (ee_mod (eo_ex (ee_toInt rfl E.b_int (ea_cons (eo_ex (ee_fdiv (eo_ex (ee_ix (eo_bo rfl (.inl rfl)) (eo_ex ee_int) rfl (fun _ _ => rfl))) (eo_ex ee_int) rfl)) ea_nil (Nat.succ_ne_zero _) (fun _ => rfl)) (fun _ => rfl))) (eo_ex (ee_var rfl (.inl rfl))) rfl))
  ess_nil))))))
abbrev N__law_rounds : List Str := ["script", "most", "cells", "cell"]
abbrev N__law_told : List Str := ["what"]
abbrev N__law_tone : List Str := ["dice"]
theorem d__law_tone (E : Fa G cf k) : ESs G cf lf { N := N__law_tone, sc := defScope (topS 23), lvl := k + 2, kd := 0, cd := cdv, qual := qq } (defBody (topS 23)) b__law_tone := (ess_cons (es_ret (ee_tup (ea_cons (eo_ex (ee_callK E.f__law_roll (Nat.le_add_right k 2) rfl (ea_cons (eo_mu rfl (.inl rfl)) (ea_cons (eo_ex ee_int) ea_nil (Nat.succ_ne_zero _) (fun _ => rfl)) (Nat.succ_ne_zero _) (fun _ => rfl)) rfl rfl rfl (fun _ => rfl) (fun _ => rfl))) (ea_cons (eo_ex (ee_ix (eo_ex (ee_lst (ea_cons (eo_ex ee_int) (ea_cons (eo_ex ee_int) (ea_cons (eo_ex ee_int) (ea_cons (eo_ex ee_int) (ea_cons (eo_ex (ee_neg (eo_ex ee_int) rfl)) ea_nil (Nat.succ_ne_zero _) (fun _ => rfl)) (Nat.succ_ne_zero _) (fun _ => rfl)) (Nat.succ_ne_zero _) (fun _ => rfl)) (Nat.succ_ne_zero _) (fun _ => rfl)) (Nat.succ_ne_zero _) (fun _ => rfl)) rfl rfl)) (eo_ex (ee_callK E.f__law_roll (Nat.le_add_right k 2) rfl (ea_cons (eo_mu rfl (.inl rfl)) (ea_cons (eo_ex ee_int) ea_nil (Nat.succ_ne_zero _) (fun _ => rfl)) (Nat.succ_ne_zero _) (fun _ => rfl)) rfl rfl rfl (fun _ => rfl) (fun _ => rfl))) rfl (fun _ _ => rfl))) (ea_cons (eo_ex (ee_add (eo_ex ee_int) (eo_ex (ee_callK E.f__law_roll (Nat.le_add_right k 2) rfl (ea_cons (eo_mu rfl (.inl rfl)) (ea_cons (eo_ex ee_int) ea_nil (Nat.succ_ne_zero _) (fun _ => rfl)) (Nat.succ_ne_zero _) (fun _ => rfl)) rfl rfl rfl (fun _ => rfl) (fun _ => rfl))) rfl)) ea_nil (Nat.succ_ne_zero _) (fun _ => rfl)) (Nat.succ_ne_zero _) (fun _ => rfl)) (Nat.succ_ne_zero _) (fun _ => rfl)) rfl rfl))
  ess_nil)
abbrev N__law_halves : List Str := ["tone"]
theorem d__law_halves (E : Fa G cf k) : ESs G cf lf { N := N__law_halves, sc := defScope (topS 24), lvl := k + 2, kd := 0, cd := cdv, qual := qq } (defBody (topS 24)) b__law_halves := (ess_cons (es_ret (ee_add (eo_ex (ee_add (eo_ex (ee_add (eo_ex (ee_ix (eo_ex (ee_lst (ea_cons (eo_ex ee_int) (ea_cons (eo_ex ee_int) (ea_cons (eo_ex ee_int) (ea_cons (eo_ex ee_int) (ea_cons (eo_ex ee_int) (ea_cons (eo_ex ee_int) (ea_cons (eo_ex ee_int) ea_nil (Nat.succ_ne_zero _) (fun _ => rfl)) (Nat.succ_ne_zero _) (fun _ => rfl)) (Nat.succ_ne_zero _) (fun _ => rfl)) (Nat.succ_ne_zero _) (fun _ => rfl)) (Nat.succ_ne_zero _) (fun _ => rfl)) (Nat.succ_ne_zero _) (fun _ => rfl)) (Nat.succ_ne_zero _) (fun _ => rfl)) rfl rfl)) (eo_ex (ee_ix (eo_ex (ee_var rfl (.inl rfl))) (eo_ex ee_int) rfl (fun _ _ => rfl))) rfl (fun _ _ => rfl))) (eo_ex (ee_ix (eo_ex (ee_var rfl (.inl rfl))) (eo_ex ee_int) rfl (fun _ _ => rfl))) rfl)) (eo_ex (ee_mul (eo_ex ee_int) (eo_ex (ee_ix (eo_ex (ee_var rfl (.inl rfl))) (eo_ex ee_int) rfl (fun _ _ => rfl))) rfl)) rfl)) (eo_ex ee_int) rfl))
  ess_nil)
abbrev N__law_notes : List Str := ["dice", "most", "found", "k", "long"]
theorem d__law_notes (E : Fa G cf k) : ESs G cf lf { N := N__law_notes, sc := defScope (topS 25), lvl := k + 2, kd := 0, cd := cdv, qual := qq } (defBody (topS 25)) b__law_notes := (ess_cons (es_own rfl ⟨(.inl rfl), .inl rfl⟩ (ef_lst ea_nil rfl rfl) (fun _ h => rfl))
  (ess_cons (es_for rfl (ei_range1 rfl E.b_range (ea_cons (eo_ex (ee_callK E.f__law_roll (Nat.le_add_right k 2) rfl (ea_cons (eo_mu rfl (.inl rfl)) (ea_cons (eo_ex (ee_var rfl (.inl rfl))) ea_nil (Nat.succ_ne_zero _) (fun _ => rfl)) (Nat.succ_ne_zero _) (fun _ => rfl)) rfl rfl rfl (fun _ => rfl) (fun _ => rfl))) ea_nil (Nat.succ_ne_zero _) (fun _ => rfl)) rfl (fun _ => rfl)) (eg_nm rfl ⟨(.inl rfl), .inl rfl⟩) (ess_cons (es_set rfl ⟨(.inl rfl), .inl rfl⟩ (ee_ix (eo_ex (ee_lst (ea_cons (eo_ex (ee_tup (ea_cons (eo_ex ee_int) (ea_cons (eo_ex ee_int) ea_nil (Nat.succ_ne_zero _) (fun _ => rfl)) (Nat.succ_ne_zero _) (fun _ => rfl)) rfl rfl)) (ea_cons (eo_ex (ee_tup (ea_cons (eo_ex ee_int) (ea_cons (eo_ex ee_int) ea_nil (Nat.succ_ne_zero _) (fun _ => rfl)) (Nat.succ_ne_zero _) (fun _ => rfl)) rfl rfl)) (ea_cons (eo_ex (ee_tup (ea_cons (eo_ex ee_int) (ea_cons (eo_ex ee_int) ea_nil (Nat.succ_ne_zero _) (fun _ => rfl)) (Nat.succ_ne_zero _) (fun _ => rfl)) rfl rfl)) (ea_cons (eo_ex (ee_tup (ea_cons (eo_ex ee_int) (ea_cons (eo_ex ee_int) ea_nil (Nat.succ_ne_zero _) (fun _ => rfl)) (Nat.succ_ne_zero _) (fun _ => rfl)) rfl rfl)) (ea_cons (eo_ex (ee_tup (ea_cons (eo_ex ee_int) (ea_cons (eo_ex ee_int) ea_nil (Nat.succ_ne_zero _) (fun _ => rfl)) (Nat.succ_ne_zero _) (fun _ => rfl)) rfl rfl)) (ea_cons (eo_ex (ee_tup (ea_cons (eo_ex ee_int) (ea_cons (eo_ex ee_int) ea_nil (Nat.succ_ne_zero _) (fun _ => rfl)) (Nat.succ_ne_zero _) (fun _ => rfl)) rfl rfl)) (ea_cons (eo_ex (ee_tup (ea_cons (eo_ex ee_int) (ea_cons (eo_ex ee_int) ea_nil (Nat.succ_ne_zero _) (fun _ => rfl)) (Nat.succ_ne_zero _) (fun _ => rfl)) rfl rfl)) (ea_cons (eo_ex (ee_tup (ea_cons (eo_ex ee_int) (ea_cons (eo_ex ee_int) ea_nil (Nat.succ_ne_zero _) (fun _ => rfl)) (Nat.succ_ne_zero _) (fun _ => rfl)) rfl rfl)) (ea_cons (eo_ex (ee_tup (ea_cons (eo_ex ee_int) (ea_cons (eo_ex ee_int) ea_nil (Nat.succ_ne_zero _) (fun _ => rfl)) (Nat.succ_ne_zero _) (fun _ => rfl)) rfl rfl)) ea_nil (Nat.succ_ne_zero _) (fun _ => rfl)) (Nat.succ_ne_zero _) (fun _ => rfl)) (Nat.succ_ne_zero _) (fun _ => rfl)) (Nat.succ_ne_zero _) (fun _ => rfl)) (Nat.succ_ne_zero _) (fun _ => rfl)) (Nat.succ_ne_zero _) (fun _ => rfl)) (Nat.succ_ne_zero _) (fun _ => rfl)) (Nat.succ_ne_zero _) (fun _ => rfl)) (Nat.succ_ne_zero _) (fun _ => rfl)) rfl rfl)) (eo_ex (ee_callK E.f__law_roll (Nat.le_add_right k 2) rfl (ea_cons (eo_mu rfl (.inl rfl)) (ea_cons (eo_ex ee_int) ea_nil (Nat.succ_ne_zero _) (fun _ => rfl)) (Nat.succ_ne_zero _) (fun _ => rfl)) rfl rfl rfl (fun _ => rfl) (fun _ => rfl))) rfl (fun _ _ => rfl)) (fun _ h => rfl))
  (ess_cons (es_app rfl (.inl rfl) (ee_tup (ea_cons (eo_ex (ee_if (et_eq (eo_ex (ee_callK E.f__law_roll (Nat.le_add_right k 2) rfl (ea_cons (eo_mu rfl (.inl rfl)) (ea_cons (eo_ex ee_int) ea_nil (Nat.succ_ne_zero _) (fun _ => rfl)) (Nat.succ_ne_zero _) (fun _ => rfl)) rfl rfl rfl (fun _ => rfl) (fun _ => rfl))) (eo_ex ee_int) rfl) ee_non (ee_callK E.f__law_tone (Nat.le_add_right k 2) rfl (ea_cons (eo_mu rfl (.inl rfl)) ea_nil (Nat.succ_ne_zero _) (fun _ => rfl)) rfl rfl rfl (fun _ => rfl) (fun _ => rfl)))) (ea_cons (eo_ex (ee_var rfl (.inl rfl))) ea_nil (Nat.succ_ne_zero _) (fun _ => rfl)) (Nat.succ_ne_zero _) (fun _ => rfl)) rfl rfl) (fun _ => rfl) (fun _ => rfl) rfl (fun _ _ => rfl))
  ess_nil)) (fun _ _ => rfl))
  (ess_cons (es_ret (ee_var rfl (.inl rfl)))
  ess_nil)))
abbrev N_law : List Str := ["script", "dice", "parts", "texts", "k", "moved", "tune", "part", "shape", "long", "after", "best", "one", "other", "sizes", "firsts", "letters", "tone", "pitches", "own", "same", "places", "halves", "pairs", "good", "bad", "fresh", "step", "size", "place", "f"]
def lit_0 : LamLit := litOf (nE (eKids (sEx (nS (sKids (nS (sKids (nS (sKids (nS (defBody (topS 26)) 0)) 1)) 1)) 2))) 1)
def lit_1 : LamLit := litOf (nE (eKids (sEx (nS (defBody (topS 26)) 2))) 0)
def lit_2 : LamLit := litOf (nE (eKids (sEx (nS (defBody (topS 26)) 2))) 1)
def lit_3 : LamLit := litOf (nE (eKids (sEx (nS (defBody (topS 26)) 2))) 2)
abbrev LB : List LamLit := [lit_0, lit_1, lit_2, lit_3]
theorem d_lam_0 (E : Fa G cf k) : EE G cf (fun _ _ => .bad) { N := N_law, sc := lit_0.scope, lvl := k, kd := 2 } lit_0.body l_law_0 := (ee_comp (show (2 : Nat) ≠ 1 by decide) (own := [("tone", 17), ("long", 9)]) (ei_seq (eo_ex (ee_var rfl (.inr (.inr rfl)))) rfl rfl) (blkOk_by rfl) (eg_tp (egs_cons (eg_nm rfl ⟨(.inl rfl), .inr rfl⟩) (egs_cons (eg_nm rfl ⟨(.inl rfl), .inr rfl⟩) egs_nil (fun _ => rfl)) (fun _ => rfl)) (fun _ => rfl) (fun _ => rfl)) (bts_of ets_nil) (ee_tup (ea_cons (eo_ex (ee_if (et_isN (eo_ex (ee_var rfl (.inl rfl))) rfl) ee_non (ee_callK E.f_moved_by (Nat.le_refl k) rfl (ea_cons (eo_ex (ee_var rfl (.inl rfl))) (ea_cons (eo_ex (ee_var rfl (.inr (.inr rfl)))) ea_nil (Nat.succ_ne_zero _) (fun _ => rfl)) (Nat.succ_ne_zero _) (fun _ => rfl)) rfl rfl rfl (fun _ => rfl) (fun _ => rfl)))) (ea_cons (eo_ex (ee_var rfl (.inl rfl))) ea_nil (Nat.succ_ne_zero _) (fun _ => rfl)) (Nat.succ_ne_zero _) (fun _ => rfl)) rfl rfl) (by decide) (fun _ _ => rfl))
theorem d_lam_1 (E : Fa G cf k) : EE G cf (fun _ _ => .bad) { N := N_law, sc := lit_1.scope, lvl := k, kd := 2 } lit_1.body l_law_1 := (ee_callK E.f_longest_again (Nat.le_refl k) rfl (ea_cons (eo_ex (ee_mul (eo_ex (ee_lst (ea_cons (eo_ex (ee_tup (ea_cons (eo_ex (ee_var rfl (.inr (.inr rfl)))) (ea_cons (eo_ex (ee_tup (ea_cons (eo_ex ee_int) (ea_cons (eo_ex ee_int) ea_nil (Nat.succ_ne_zero _) (fun _ => rfl)) (Nat.succ_ne_zero _) (fun _ => rfl)) rfl rfl)) ea_nil (Nat.succ_ne_zero _) (fun _ => rfl)) (Nat.succ_ne_zero _) (fun _ => rfl)) rfl rfl)) ea_nil (Nat.succ_ne_zero _) (fun _ => rfl)) rfl rfl)) (eo_ex ee_int) rfl)) ea_nil (Nat.succ_ne_zero _) (fun _ => rfl)) rfl rfl rfl (fun _ => rfl) (fun _ => rfl))
theorem d_lam_2 (E : Fa G cf k) : EE G cf (fun _ _ => .bad) { N := N_law, sc := lit_2.scope, lvl := k, kd := 2 } lit_2.body l_law_2 := (ee_callK E.f_is_canon (Nat.le_refl k) rfl (ea_cons (eo_ex (ee_lst ea_nil rfl rfl)) (ea_cons (eo_ex ee_int) (ea_cons (eo_ex ee_int) ea_nil (Nat.succ_ne_zero _) (fun _ => rfl)) (Nat.succ_ne_zero _) (fun _ => rfl)) (Nat.succ_ne_zero _) (fun _ => rfl)) rfl rfl rfl (fun _ => rfl) (fun _ => rfl))
theorem d_lam_3 (E : Fa G cf k) : EE G cf (fun _ _ => .bad) { N := N_law, sc := lit_3.scope, lvl := k, kd := 2 } lit_3.body l_law_3 := (ee_callK E.f_form_letters (Nat.le_refl k) rfl (ea_cons (eo_ex (ee_comp (show (2 : Nat) ≠ 1 by decide) (own := [("k", 4)]) (ei_range1 rfl E.b_range (ea_cons (eo_ex ee_int) ea_nil (Nat.succ_ne_zero _) (fun _ => rfl)) rfl (fun _ => rfl)) (blkOk_by rfl) (eg_nm rfl ⟨(.inl rfl), .inr rfl⟩) (bts_of ets_nil) (ee_lst (ea_cons (eo_ex (ee_tup (ea_cons (eo_ex (ee_var rfl (.inr (.inr rfl)))) (ea_cons (eo_ex (ee_tup (ea_cons (eo_ex (ee_add (eo_ex ee_int) (eo_ex (ee_var rfl (.inl rfl))) rfl)) (ea_cons (eo_ex ee_int) ea_nil (Nat.succ_ne_zero _) (fun _ => rfl)) (Nat.succ_ne_zero _) (fun _ => rfl)) rfl rfl)) ea_nil (Nat.succ_ne_zero _) (fun _ => rfl)) (Nat.succ_ne_zero _) (fun _ => rfl)) rfl rfl)) ea_nil (Nat.succ_ne_zero _) (fun _ => rfl)) rfl rfl) (by decide) (fun _ _ => rfl))) ea_nil (Nat.succ_ne_zero _) (fun _ => rfl)) rfl rfl rfl (fun _ => rfl) (fun _ => rfl))
theorem d_law_in (E : Fa G cf k) {c0 : List (Str × Addr)} (hB : G.B.cl = clR LB c0 (qq ++ "<lambda>")) (T : ToldOk G cf fd_law.lams N_law LB told_ks told_ret "_law_told" k) (hL : ∀ (k : Nat) (l : LamLit), LB[k]? = some l → LamS (defScope (topS 26)) l.scope) (hcd : cdv = .ref xa) (tb : LamX.TabB G.base G.mg xa P) (tp : (P, some (qq ++ "<lambda>")) ∈ G.T) (tq : ∀ p ∈ G.T, p.1 = P → p.2 = some (qq ++ "<lambda>")) : ESs G cf (lfOf cf fd_law.lams) { N := N_law, sc := defScope (topS 26), lvl := k + 2, kd := 0, cd := cdv, qual := qq, cells := some c0 } (sKids (nS (defBody (topS 26)) 0)) b_law_in := (ess_cons (es_parL rfl rfl (by decide) rfl rfl (ef_lst ea_nil rfl rfl) (fun _ => rfl) (fun _ h => by simp only [swappedStores, swapsWithSole, Env.kindOf, Env.blockKind, h]; rfl) (fun _ _ => rfl))
  (ess_cons (es_for rfl (ei_range1 rfl E.b_range (ea_cons (eo_ex (ee_add (eo_ex ee_int) (eo_ex (ee_callK E.f__law_roll (Nat.le_add_right k 2) rfl (ea_cons (eo_mu rfl (.inl rfl)) (ea_cons (eo_ex ee_int) ea_nil (Nat.succ_ne_zero _) (fun _ => rfl)) (Nat.succ_ne_zero _) (fun _ => rfl)) rfl rfl rfl (fun _ => rfl) (fun _ => rfl))) rfl)) ea_nil (Nat.succ_ne_zero _) (fun _ => rfl)) rfl (fun _ => rfl)) (eg_nm rfl ⟨(.inl rfl), .inl rfl⟩) (ess_cons (es_set rfl ⟨(.inr rfl), .inl rfl⟩ (ee_callK E.f__law_notes (Nat.le_add_right k 2) rfl (ea_cons (eo_mu rfl (.inl rfl)) (ea_cons (eo_ex ee_int) ea_nil (Nat.succ_ne_zero _) (fun _ => rfl)) (Nat.succ_ne_zero _) (fun _ => rfl)) rfl rfl rfl (fun _ => rfl) (fun _ => rfl)) (fun _ h => rfl))
  (ess_cons (es_if (ew_pt (ew_and (et_ne (eo_bo rfl (.inl rfl)) (eo_ex (ee_lst ea_nil rfl rfl)) rfl) (ew_and1 (et_eq (eo_ex (ee_callK E.f__law_roll (Nat.le_add_right k 2) rfl (ea_cons (eo_mu rfl (.inl rfl)) (ea_cons (eo_ex ee_int) ea_nil (Nat.succ_ne_zero _) (fun _ => rfl)) (Nat.succ_ne_zero _) (fun _ => rfl)) rfl rfl rfl (fun _ => rfl) (fun _ => rfl))) (eo_ex ee_int) rfl)))) (ess_cons (es_set rfl ⟨(.inr rfl), .inl rfl⟩ (ee_ix (eo_bo rfl (.inl rfl)) (eo_ex (ee_callK E.f__law_roll (Nat.le_add_right k 2) rfl (ea_cons (eo_mu rfl (.inl rfl)) (ea_cons (eo_ex (ee_len rfl E.b_len (ea_cons (eo_bo rfl (.inl rfl)) ea_nil (Nat.succ_ne_zero _) (fun _ => rfl)) (fun _ => rfl))) ea_nil (Nat.succ_ne_zero _) (fun _ => rfl)) (Nat.succ_ne_zero _) (fun _ => rfl)) rfl rfl rfl (fun _ => rfl) (fun _ => rfl))) rfl (fun _ _ => rfl)) (fun _ h => rfl))
  (ess_cons (es_set rfl ⟨(.inr rfl), .inl rfl⟩ (ee_ix (eo_ex (ee_lst (ea_cons (eo_ex (ee_tup (ea_cons (eo_ex ee_int) (ea_cons (eo_ex ee_int) ea_nil (Nat.succ_ne_zero _) (fun _ => rfl)) (Nat.succ_ne_zero _) (fun _ => rfl)) rfl rfl)) (ea_cons (eo_ex (ee_tup (ea_cons (eo_ex ee_int) (ea_cons (eo_ex ee_int) ea_nil (Nat.succ_ne_zero _) (fun _ => rfl)) (Nat.succ_ne_zero _) (fun _ => rfl)) rfl rfl)) (ea_cons (eo_ex (ee_tup (ea_cons (eo_ex ee_int) (ea_cons (eo_ex ee_int) ea_nil (Nat.succ_ne_zero _) (fun _ => rfl)) (Nat.succ_ne_zero _) (fun _ => rfl)) rfl rfl)) ea_nil (Nat.succ_ne_zero _) (fun _ => rfl)) (Nat.succ_ne_zero _) (fun _ => rfl)) (Nat.succ_ne_zero _) (fun _ => rfl)) rfl rfl)) (eo_ex (ee_callK E.f__law_roll (Nat.le_add_right k 2) rfl (ea_cons (eo_mu rfl (.inl rfl)) (ea_cons (eo_ex ee_int) ea_nil (Nat.succ_ne_zero _) (fun _ => rfl)) (Nat.succ_ne_zero _) (fun _ => rfl)) rfl rfl rfl (fun _ => rfl) (fun _ => rfl))) rfl (fun _ _ => rfl)) (fun _ h => rfl))
  (ess_cons (es_set rfl ⟨(.inl rfl), .inl rfl⟩ (ee_told T hB rfl hL rfl (Nat.le_refl _) (ee_lam (l := lit_0) rfl hB rfl rfl rfl hcd tb tp tq (fun _ => rfl) (hL 0 _ rfl).free) (fun _ => rfl)) (fun _ h => rfl))
  (ess_cons (es_set rfl ⟨(.inr rfl), .inl rfl⟩ (ee_if (et_ne (eo_ex (ee_var rfl (.inl rfl))) (eo_ex ee_str) rfl) (ee_var rfl (.inl rfl)) (ee_var rfl (.inr (.inl rfl)))) (fun _ h => rfl))
  ess_nil)))) ess_nil)
  (ess_cons (es_app rfl (.inl rfl) (ee_var rfl (.inr (.inl rfl))) (fun _ => rfl) (fun _ => rfl) rfl (fun _ _ => rfl))
  ess_nil))) (fun _ _ => rfl))
  (ess_cons (es_set rfl ⟨(.inr rfl), .inl rfl⟩ (ee_lst ea_nil rfl rfl) (fun _ h => rfl))
  (ess_cons (es_for rfl (ei_seq (eo_bo rfl (.inl rfl)) rfl rfl) (eg_nm rfl ⟨(.inr rfl), .inl rfl⟩) (ess_cons (es_set rfl ⟨(.inr rfl), .inl rfl⟩ (ee_add (eo_ex (ee_var rfl (.inr (.inl rfl)))) (eo_ex (ee_var rfl (.inr (.inl rfl)))) rfl) (fun _ h => rfl))
  ess_nil) (fun _ _ => rfl))
  (ess_cons (es_own rfl ⟨(.inl rfl), .inl rfl⟩ (ef_lst ea_nil rfl rfl) (fun _ h => rfl))
  (ess_cons (es_for rfl (ei_enum rfl E.b_enumerate (ea_cons (eo_ex (ee_var rfl (.inr (.inl rfl)))) ea_nil (Nat.succ_ne_zero _) (fun _ => rfl)) rfl (fun _ => rfl)) (eg_tp (egs_cons (eg_nm rfl ⟨(.inl rfl), .inl rfl⟩) (egs_cons (eg_tp (egs_cons (eg_nm rfl ⟨(.inr rfl), .inl rfl⟩) (egs_cons (eg_nm rfl ⟨(.inl rfl), .inl rfl⟩) egs_nil (fun _ => rfl)) (fun _ => rfl)) (fun _ => rfl) (fun _ => rfl)) egs_nil (fun _ => rfl)) (fun _ => rfl)) (fun _ => rfl) (fun _ => rfl)) (ess_cons (es_set rfl ⟨(.inl rfl), .inl rfl⟩ (ee_if (et_lt (eo_ex (ee_add (eo_ex (ee_var rfl (.inl rfl))) (eo_ex ee_int) rfl)) (eo_ex (ee_len rfl E.b_len (ea_cons (eo_ex (ee_var rfl (.inr (.inl rfl)))) ea_nil (Nat.succ_ne_zero _) (fun _ => rfl)) (fun _ => rfl))) rfl) (ee_ix (eo_ex (ee_ix (eo_ex (ee_var rfl (.inr (.inl rfl)))) (eo_ex (ee_add (eo_ex (ee_var rfl (.inl rfl))) (eo_ex ee_int) rfl)) rfl (fun _ _ => rfl))) (eo_ex ee_int) rfl (fun _ _ => rfl)) ee_non) (fun _ h => rfl))
  (ess_cons (es_app rfl (.inl rfl) (ee_tup (ea_cons (eo_ex (ee_if (ew_pt (ew_or (et_isN (eo_ex (ee_var rfl (.inr (.inl rfl)))) rfl) (ew_or1 (et_isN (eo_ex (ee_var rfl (.inl rfl))) rfl)))) ee_non (ee_sub (eo_ex (ee_callK E.f__law_halves (Nat.le_add_right k 2) rfl (ea_cons (eo_ex (ee_var rfl (.inl rfl))) ea_nil (Nat.succ_ne_zero _) (fun _ => rfl)) rfl rfl rfl (fun _ => rfl) (fun _ => rfl))) (eo_ex (ee_callK E.f__law_halves (Nat.le_add_right k 2) rfl (ea_cons (eo_ex (ee_var rfl (.inr (.inl rfl)))) ea_nil (Nat.succ_ne_zero _) (fun _ => rfl)) rfl rfl rfl (fun _ => rfl) (fun _ => rfl))) rfl))) (ea_cons (eo_ex (ee_var rfl (.inl rfl))) ea_nil (Nat.succ_ne_zero _) (fun _ => rfl)) (Nat.succ_ne_zero _) (fun _ => rfl)) rfl rfl) (fun _ => rfl) (fun _ => rfl) rfl (fun _ _ => rfl))
  ess_nil)) (fun _ _ => rfl))
  (ess_cons (es_if (et_ne (eo_ex (ee_lstOf rfl E.b_list (ea_cons (eo_ex (ee_callK E.f_shape_of (Nat.le_add_right k 2) rfl (ea_cons (eo_ex (ee_var rfl (.inr (.inl rfl)))) ea_nil (Nat.succ_ne_zero _) (fun _ => rfl)) rfl rfl rfl (fun _ => rfl) (fun _ => rfl))) ea_nil (Nat.succ_ne_zero _) (fun _ => rfl)) (fun _ => rfl))) (eo_bo rfl (.inl rfl)) rfl) (ess_cons (es_ret ee_bl)
  ess_nil) ess_nil)
  (ess_cons (es_set rfl ⟨(.inr rfl), .inl rfl⟩ ee_non (fun _ h => rfl))
  (ess_cons (es_for rfl (ei_range1 rfl E.b_range (ea_cons (eo_ex (ee_len rfl E.b_len (ea_cons (eo_ex (ee_var rfl (.inr (.inl rfl)))) ea_nil (Nat.succ_ne_zero _) (fun _ => rfl)) (fun _ => rfl))) ea_nil (Nat.succ_ne_zero _) (fun _ => rfl)) rfl (fun _ => rfl)) (eg_nm rfl ⟨(.inr rfl), .inl rfl⟩) (ess_cons (es_for rfl (ei_range2 rfl E.b_range (ea_cons (eo_ex (ee_add (eo_ex (ee_var rfl (.inr (.inl rfl)))) (eo_ex ee_int) rfl)) (ea_cons (eo_ex (ee_len rfl E.b_len (ea_cons (eo_ex (ee_var rfl (.inr (.inl rfl)))) ea_nil (Nat.succ_ne_zero _) (fun _ => rfl)) (fun _ => rfl))) ea_nil (Nat.succ_ne_zero _) (fun _ => rfl)) (Nat.succ_ne_zero _) (fun _ => rfl)) rfl (fun _ => rfl) (fun _ => rfl)) (eg_nm rfl ⟨(.inr rfl), .inl rfl⟩) (ess_cons (es_lcSet Nat.zero_ne_one rfl rfl (fun _ h => sw_t h rfl rfl rfl rfl) (own := [("size", 28)]) (ei_range2 rfl E.b_range (ea_cons (eo_ex ee_int) (ea_cons (eo_ex (ee_add (eo_ex (ee_min2 rfl E.b_min (ea_cons (eo_ex (ee_sub (eo_ex (ee_var rfl (.inr (.inl rfl)))) (eo_ex (ee_var rfl (.inr (.inl rfl)))) rfl)) (ea_cons (eo_ex (ee_sub (eo_ex (ee_len rfl E.b_len (ea_cons (eo_ex (ee_var rfl (.inr (.inl rfl)))) ea_nil (Nat.succ_ne_zero _) (fun _ => rfl)) (fun _ => rfl))) (eo_ex (ee_var rfl (.inr (.inl rfl)))) rfl)) ea_nil (Nat.succ_ne_zero _) (fun _ => rfl)) (Nat.succ_ne_zero _) (fun _ => rfl)) (fun _ => rfl) (fun _ => rfl))) (eo_ex ee_int) rfl)) ea_nil (Nat.succ_ne_zero _) (fun _ => rfl)) (Nat.succ_ne_zero _) (fun _ => rfl)) rfl (fun _ => rfl) (fun _ => rfl)) (blkOk_by rfl) (eg_nm rfl ⟨(.inl rfl), .inr rfl⟩) (bts_of (ets_one (et_eq (eo_ex (ee_cut2 (eo_ex (ee_var rfl (.inr (.inl rfl)))) (ee_var rfl (.inr (.inl rfl))) (ee_add (eo_ex (ee_var rfl (.inr (.inl rfl)))) (eo_ex (ee_var rfl (.inl rfl))) rfl) rfl rfl)) (eo_ex (ee_cut2 (eo_ex (ee_var rfl (.inr (.inl rfl)))) (ee_var rfl (.inr (.inl rfl))) (ee_add (eo_ex (ee_var rfl (.inr (.inl rfl)))) (eo_ex (ee_var rfl (.inl rfl))) rfl) rfl rfl)) rfl))) (ee_var rfl (.inl rfl)) (by decide) (fun _ _ => rfl))
  (ess_cons (es_if (ew_pt (ew_and (et_ne (eo_ex (ee_var rfl (.inl rfl))) (eo_ex (ee_lst ea_nil rfl rfl)) rfl) (ew_and1 (ew_pt (ew_or (et_isN (eo_ex (ee_var rfl (.inr (.inl rfl)))) rfl) (ew_or1 (et_gt (eo_ex (ee_maxL rfl E.b_max (ea_cons (eo_ex (ee_var rfl (.inl rfl))) ea_nil (Nat.succ_ne_zero _) (fun _ => rfl)) (fun _ => rfl))) (eo_ex (ee_ix (eo_ex (ee_var rfl (.inr (.inl rfl)))) (eo_ex ee_int) rfl (fun _ _ => rfl))) rfl))))))) (ess_cons (es_set rfl ⟨(.inr rfl), .inl rfl⟩ (ee_tup (ea_cons (eo_ex (ee_maxL rfl E.b_max (ea_cons (eo_ex (ee_var rfl (.inl rfl))) ea_nil (Nat.succ_ne_zero _) (fun _ => rfl)) (fun _ => rfl))) (ea_cons (eo_ex (ee_var rfl (.inr (.inl rfl)))) (ea_cons (eo_ex (ee_var rfl (.inr (.inl rfl)))) ea_nil (Nat.succ_ne_zero _) (fun _ => rfl)) (Nat.succ_ne_zero _) (fun _ => rfl)) (Nat.succ_ne_zero _) (fun _ => rfl)) rfl rfl) (fun _ h => rfl))
  ess_nil) ess_nil)
  ess_nil)) (fun _ _ => rfl))
  ess_nil) (fun _ _ => rfl))
  (ess_cons (es_if (ew_pt (ew_or (et_ne (eo_ex (ee_callK E.f_longest_again (Nat.le_add_right k 2) rfl (ea_cons (eo_ex (ee_var rfl (.inr (.inl rfl)))) ea_nil (Nat.succ_ne_zero _) (fun _ => rfl)) rfl rfl rfl (fun _ => rfl) (fun _ => rfl))) (eo_ex (ee_var rfl (.inr (.inl rfl)))) rfl) (ew_or1 (ew_pt (ew_and (et_notN (eo_ex (ee_var rfl (.inr (.inl rfl)))) rfl) (ew_and1 (et_ne (eo_ex (ee_comp Nat.zero_ne_one (own := [("place", 29)]) (ei_seq (eo_ex (ee_lst (ea_cons (eo_ex (ee_ix (eo_ex (ee_var rfl (.inr (.inl rfl)))) (eo_ex ee_int) rfl (fun _ _ => rfl))) (ea_cons (eo_ex (ee_ix (eo_ex (ee_var rfl (.inr (.inl rfl)))) (eo_ex ee_int) rfl (fun _ _ => rfl))) ea_nil (Nat.succ_ne_zero _) (fun _ => rfl)) (Nat.succ_ne_zero _) (fun _ => rfl)) rfl rfl)) rfl rfl) (blkOk_by rfl) (eg_nm rfl ⟨(.inl rfl), .inr rfl⟩) (bts_of (ets_one (et_notIn (eo_ex (ee_var rfl (.inl rfl))) (eo_ex (ee_callK E.f_places_of (Nat.le_add_right k 2) rfl (ea_cons (eo_ex (ee_var rfl (.inr (.inl rfl)))) (ea_cons (eo_ex (ee_cut2 (eo_ex (ee_var rfl (.inr (.inl rfl)))) (ee_ix (eo_ex (ee_var rfl (.inr (.inl rfl)))) (eo_ex ee_int) rfl (fun _ _ => rfl)) (ee_add (eo_ex (ee_ix (eo_ex (ee_var rfl (.inr (.inl rfl)))) (eo_ex ee_int) rfl (fun _ _ => rfl))) (eo_ex (ee_ix (eo_ex (ee_var rfl (.inr (.inl rfl)))) (eo_ex ee_int) rfl (fun _ _ => rfl))) rfl) rfl rfl)) ea_nil (Nat.succ_ne_zero _) (fun _ => rfl)) (Nat.succ_ne_zero _) (fun _ => rfl)) rfl rfl rfl (fun _ => rfl) (fun _ => rfl))) rfl rfl))) (ee_var rfl (.inl rfl)) (by decide) (fun _ _ => rfl))) (eo_ex (ee_lst ea_nil rfl rfl)) rfl))))))) (ess_cons (es_ret ee_bl)
  ess_nil) ess_nil)
  (ess_cons (es_if (et_ne (eo_ex (ee_lstOf rfl E.b_list (ea_cons (eo_ex (ee_callK E.f_places_of (Nat.le_add_right k 2) rfl (ea_cons (eo_ex (ee_var rfl (.inr (.inl rfl)))) (ea_cons (eo_ex (ee_cutHi (eo_ex (ee_var rfl (.inr (.inl rfl)))) ee_int rfl rfl)) ea_nil (Nat.succ_ne_zero _) (fun _ => rfl)) (Nat.succ_ne_zero _) (fun _ => rfl)) rfl rfl rfl (fun _ => rfl) (fun _ => rfl))) ea_nil (Nat.succ_ne_zero _) (fun _ => rfl)) (fun _ => rfl))) (eo_ex (ee_comp Nat.zero_ne_one (own := [("k", 4)]) (ei_range1 rfl E.b_range (ea_cons (eo_ex (ee_add (eo_ex (ee_sub (eo_ex (ee_len rfl E.b_len (ea_cons (eo_ex (ee_var rfl (.inr (.inl rfl)))) ea_nil (Nat.succ_ne_zero _) (fun _ => rfl)) (fun _ => rfl))) (eo_ex (ee_len rfl E.b_len (ea_cons (eo_ex (ee_cutHi (eo_ex (ee_var rfl (.inr (.inl rfl)))) ee_int rfl rfl)) ea_nil (Nat.succ_ne_zero _) (fun _ => rfl)) (fun _ => rfl))) rfl)) (eo_ex ee_int) rfl)) ea_nil (Nat.succ_ne_zero _) (fun _ => rfl)) rfl (fun _ => rfl)) (blkOk_by rfl) (eg_nm rfl ⟨(.inl rfl), .inr rfl⟩) (bts_of (ets_one (et_eq (eo_ex (ee_cut2 (eo_ex (ee_var rfl (.inr (.inl rfl)))) (ee_var rfl (.inl rfl)) (ee_add (eo_ex (ee_var rfl (.inl rfl))) (eo_ex (ee_len rfl E.b_len (ea_cons (eo_ex (ee_cutHi (eo_ex (ee_var rfl (.inr (.inl rfl)))) ee_int rfl rfl)) ea_nil (Nat.succ_ne_zero _) (fun _ => rfl)) (fun _ => rfl))) rfl) rfl rfl)) (eo_ex (ee_cutHi (eo_ex (ee_var rfl (.inr (.inl rfl)))) ee_int rfl rfl)) rfl))) (ee_var rfl (.inl rfl)) (by decide) (fun _ _ => rfl))) rfl) (ess_cons (es_ret ee_bl)
  ess_nil) ess_nil)
  (ess_cons (es_parTO rfl rfl ⟨(.inr rfl), .inl rfl⟩ ⟨(.inl rfl), .inl rfl⟩ (by decide) (ee_lst ea_nil rfl rfl) (ef_lst ea_nil rfl rfl) (fun _ => rfl) (fun _ => rfl) (fun _ _ => rfl) (fun _ h => by simp only [swappedStores, swapsWithSole, Env.kindOf, Env.blockKind, h]; rfl))
  (ess_cons (es_for rfl (ei_seq (eo_bo rfl (.inl rfl)) rfl rfl) (eg_nm rfl ⟨(.inr rfl), .inl rfl⟩) (ess_cons (es_set rfl ⟨(.inr rfl), .inl rfl⟩ (ee_comp Nat.zero_ne_one (own := [("tone", 17), ("long", 9)]) (ei_seq (eo_ex (ee_var rfl (.inr (.inl rfl)))) rfl rfl) (blkOk_by rfl) (eg_tp (egs_cons (eg_nm rfl ⟨(.inl rfl), .inr rfl⟩) (egs_cons (eg_nm rfl ⟨(.inl rfl), .inr rfl⟩) egs_nil (fun _ => rfl)) (fun _ => rfl)) (fun _ => rfl) (fun _ => rfl)) (bts_of (ets_one (et_notN (eo_ex (ee_var rfl (.inl rfl))) rfl))) (ee_var rfl (.inl rfl)) (by decide) (fun _ _ => rfl)) (fun _ h => sw_f h rfl))
  (ess_cons (es_set rfl ⟨(.inr rfl), .inl rfl⟩ (ee_comp Nat.zero_ne_one (own := [("tone", 17), ("long", 9)]) (ei_seq (eo_ex (ee_var rfl (.inr (.inl rfl)))) rfl rfl) (blkOk_by rfl) (eg_tp (egs_cons (eg_nm rfl ⟨(.inl rfl), .inr rfl⟩) (egs_cons (eg_nm rfl ⟨(.inl rfl), .inr rfl⟩) egs_nil (fun _ => rfl)) (fun _ => rfl)) (fun _ => rfl) (fun _ => rfl)) (bts_of ets_nil) (ee_tup (ea_cons (eo_ex (ee_if (et_isN (eo_ex (ee_var rfl (.inl rfl))) rfl) ee_non (ee_sub (eo_ex (ee_callK E.f__law_halves (Nat.le_add_right k 2) rfl (ea_cons (eo_ex (ee_var rfl (.inl rfl))) ea_nil (Nat.succ_ne_zero _) (fun _ => rfl)) rfl rfl rfl (fun _ => rfl) (fun _ => rfl))) (eo_ex (ee_callK E.f__law_halves (Nat.le_add_right k 2) rfl (ea_cons (eo_ex (ee_ix (eo_ex (ee_var rfl (.inr (.inl rfl)))) (eo_ex ee_int) rfl (fun _ _ => rfl))) ea_nil (Nat.succ_ne_zero _) (fun _ => rfl)) rfl rfl rfl (fun _ => rfl) (fun _ => rfl))) rfl))) (ea_cons (eo_ex (ee_var rfl (.inl rfl))) ea_nil (Nat.succ_ne_zero _) (fun _ => rfl)) (Nat.succ_ne_zero _) (fun _ => rfl)) rfl rfl) (by decide) (fun _ _ => rfl)) (fun _ h => sw_f h rfl))
  (ess_cons (es_if (et_ne (eo_ex (ee_lstOf rfl E.b_list (ea_cons (eo_ex (ee_callK E.f_moved_shape (Nat.le_add_right k 2) rfl (ea_cons (eo_ex (ee_var rfl (.inr (.inl rfl)))) ea_nil (Nat.succ_ne_zero _) (fun _ => rfl)) rfl rfl rfl (fun _ => rfl) (fun _ => rfl))) ea_nil (Nat.succ_ne_zero _) (fun _ => rfl)) (fun _ => rfl))) (eo_ex (ee_var rfl (.inr (.inl rfl)))) rfl) (ess_cons (es_ret ee_bl)
  ess_nil) ess_nil)
  (ess_cons (es_lcSet Nat.zero_ne_one rfl rfl (fun _ h => sw_t h rfl rfl rfl rfl) (own := [("k", 4)]) (ei_range1 rfl E.b_range (ea_cons (eo_ex (ee_len rfl E.b_len (ea_cons (eo_ex (ee_var rfl (.inr (.inl rfl)))) ea_nil (Nat.succ_ne_zero _) (fun _ => rfl)) (fun _ => rfl))) ea_nil (Nat.succ_ne_zero _) (fun _ => rfl)) rfl (fun _ => rfl)) (blkOk_by rfl) (eg_nm rfl ⟨(.inl rfl), .inr rfl⟩) (bts_of (ets_one (ew_pt (ew_or (et_eq (eo_ex (ee_ix (eo_ex (ee_ix (eo_ex (ee_var rfl (.inr (.inl rfl)))) (eo_ex (ee_var rfl (.inl rfl))) rfl (fun _ _ => rfl))) (eo_ex ee_int) rfl (fun _ _ => rfl))) (eo_ex (ee_var rfl (.inr (.inl rfl)))) rfl) (ew_or1 (ew_pt (ew_and (et_ne (eo_ex (ee_var rfl (.inr (.inl rfl)))) (eo_ex (ee_lst ea_nil rfl rfl)) rfl) (ew_and1 (et_eq (eo_ex (ee_ix (eo_ex (ee_ix (eo_ex (ee_var rfl (.inr (.inl rfl)))) (eo_ex (ee_var rfl (.inl rfl))) rfl (fun _ _ => rfl))) (eo_ex ee_int) rfl (fun _ _ => rfl))) (eo_ex (ee_var rfl (.inr (.inl rfl)))) rfl))))))))) (ee_var rfl (.inl rfl)) (by decide) (fun _ _ => rfl))
  (ess_cons (es_app rfl (.inl rfl) (ee_if (et_ne (eo_ex (ee_var rfl (.inl rfl))) (eo_ex (ee_lst ea_nil rfl rfl)) rfl) (ee_add (eo_ex (ee_ix (eo_ex ee_str) (eo_ex (ee_ix (eo_ex (ee_var rfl (.inl rfl))) (eo_ex ee_int) rfl (fun _ _ => rfl))) rfl (fun _ _ => rfl))) (eo_ex (ee_if (et_eq (eo_ex (ee_ix (eo_ex (ee_ix (eo_ex (ee_var rfl (.inr (.inl rfl)))) (eo_ex (ee_ix (eo_ex (ee_var rfl (.inl rfl))) (eo_ex ee_int) rfl (fun _ _ => rfl))) rfl (fun _ _ => rfl))) (eo_ex ee_int) rfl (fun _ _ => rfl))) (eo_ex (ee_var rfl (.inr (.inl rfl)))) rfl) ee_str ee_str)) rfl) (ee_ix (eo_ex ee_str) (eo_ex (ee_len rfl E.b_len (ea_cons (eo_ex (ee_var rfl (.inr (.inl rfl)))) ea_nil (Nat.succ_ne_zero _) (fun _ => rfl)) (fun _ => rfl))) rfl (fun _ _ => rfl))) (fun _ => rfl) (fun _ => rfl) rfl (fun _ _ => rfl))
  (ess_cons (es_set rfl ⟨(.inr rfl), .inl rfl⟩ (ee_add (eo_ex (ee_var rfl (.inr (.inl rfl)))) (eo_ex (ee_mul (eo_ex (ee_lst (ea_cons (eo_ex (ee_tup (ea_cons (eo_ex (ee_var rfl (.inr (.inl rfl)))) (ea_cons (eo_ex (ee_var rfl (.inr (.inl rfl)))) ea_nil (Nat.succ_ne_zero _) (fun _ => rfl)) (Nat.succ_ne_zero _) (fun _ => rfl)) rfl rfl)) ea_nil (Nat.succ_ne_zero _) (fun _ => rfl)) rfl rfl)) (eo_ex (ee_toInt rfl E.b_int (ea_cons (eo_ex (ee_eq (eo_ex (ee_var rfl (.inl rfl))) (eo_ex (ee_lst ea_nil rfl rfl)) rfl)) ea_nil (Nat.succ_ne_zero _) (fun _ => rfl)) (fun _ => rfl))) rfl)) rfl) (fun _ h => rfl))
  ess_nil)))))) (fun _ _ => rfl))
  (ess_cons (es_if (et_ne (eo_ex (ee_lstOf rfl E.b_list (ea_cons (eo_ex (ee_callK E.f_form_letters (Nat.le_add_right k 2) rfl (ea_cons (eo_ex (ee_var rfl (.inl rfl))) ea_nil (Nat.succ_ne_zero _) (fun _ => rfl)) rfl rfl rfl (fun _ => rfl) (fun _ => rfl))) ea_nil (Nat.succ_ne_zero _) (fun _ => rfl)) (fun _ => rfl))) (eo_bo rfl (.inl rfl)) rfl) (ess_cons (es_ret ee_bl)
  ess_nil) ess_nil)
  (ess_cons (es_asg (ee_tup (ea_cons (eo_ex (ee_add (eo_ex ee_int) (eo_ex (ee_callK E.f__law_roll (Nat.le_add_right k 2) rfl (ea_cons (eo_mu rfl (.inl rfl)) (ea_cons (eo_ex ee_int) ea_nil (Nat.succ_ne_zero _) (fun _ => rfl)) (Nat.succ_ne_zero _) (fun _ => rfl)) rfl rfl rfl (fun _ => rfl) (fun _ => rfl))) rfl)) (ea_cons (eo_ex (ee_ix (eo_ex (ee_lst (ea_cons (eo_ex ee_int) (ea_cons (eo_ex ee_int) (ea_cons (eo_ex ee_int) ea_nil (Nat.succ_ne_zero _) (fun _ => rfl)) (Nat.succ_ne_zero _) (fun _ => rfl)) (Nat.succ_ne_zero _) (fun _ => rfl)) rfl rfl)) (eo_ex (ee_callK E.f__law_roll (Nat.le_add_right k 2) rfl (ea_cons (eo_mu rfl (.inl rfl)) (ea_cons (eo_ex ee_int) ea_nil (Nat.succ_ne_zero _) (fun _ => rfl)) (Nat.succ_ne_zero _) (fun _ => rfl)) rfl rfl rfl (fun _ => rfl) (fun _ => rfl))) rfl (fun _ _ => rfl))) ea_nil (Nat.succ_ne_zero _) (fun _ => rfl)) (Nat.succ_ne_zero _) (fun _ => rfl)) rfl rfl) (eg_tp (egs_cons (eg_nm rfl ⟨(.inl rfl), .inl rfl⟩) (egs_cons (eg_nm rfl ⟨(.inr rfl), .inl rfl⟩) egs_nil (fun _ => rfl)) (fun _ => rfl)) (fun _ => rfl) (fun _ => rfl)) (fun _ _ => rfl) (fun _ h => by simp only [swappedStores, swapsWithSole, Env.kindOf, Env.blockKind, h]; rfl) (fun _ => rfl))
  (ess_cons (es_lcSet Nat.zero_ne_one rfl rfl (fun _ h => sw_t h rfl rfl rfl rfl) (own := [("one", 12), ("other", 13)]) (ei_zip rfl E.b_zip (ea_cons (eo_ex (ee_var rfl (.inr (.inl rfl)))) (ea_cons (eo_ex (ee_cutLo (eo_ex (ee_var rfl (.inr (.inl rfl)))) (ee_var rfl (.inl rfl)) rfl rfl)) ea_nil (Nat.succ_ne_zero _) (fun _ => rfl)) (Nat.succ_ne_zero _) (fun _ => rfl)) rfl (fun _ => rfl) (fun _ => rfl)) (blkOk_by rfl) (eg_tp (egs_cons (eg_nm rfl ⟨(.inl rfl), .inr rfl⟩) (egs_cons (eg_nm rfl ⟨(.inl rfl), .inr rfl⟩) egs_nil (fun _ => rfl)) (fun _ => rfl)) (fun _ => rfl) (fun _ => rfl)) (bts_of ets_nil) (ee_tup (ea_cons (eo_ex (ee_var rfl (.inl rfl))) (ea_cons (eo_ex (ee_var rfl (.inl rfl))) ea_nil (Nat.succ_ne_zero _) (fun _ => rfl)) (Nat.succ_ne_zero _) (fun _ => rfl)) rfl rfl) (by decide) (fun _ _ => rfl))
  (ess_cons (es_set rfl ⟨(.inl rfl), .inl rfl⟩ (ee_eq (eo_ex (ee_comp Nat.zero_ne_one (own := [("one", 12), ("other", 13)]) (ei_seq (eo_ex (ee_var rfl (.inl rfl))) rfl rfl) (blkOk_by rfl) (eg_tp (egs_cons (eg_nm rfl ⟨(.inl rfl), .inr rfl⟩) (egs_cons (eg_nm rfl ⟨(.inl rfl), .inr rfl⟩) egs_nil (fun _ => rfl)) (fun _ => rfl)) (fun _ => rfl) (fun _ => rfl)) (bts_of (ets_one (ew_pt (ew_or (et_ne (eo_ex (ee_ix (eo_ex (ee_var rfl (.inl rfl))) (eo_ex ee_int) rfl (fun _ _ => rfl))) (eo_ex (ee_ix (eo_ex (ee_var rfl (.inl rfl))) (eo_ex ee_int) rfl (fun _ _ => rfl))) rfl) (ew_or (et_ne (eo_ex (ee_isN (eo_ex (ee_ix (eo_ex (ee_var rfl (.inl rfl))) (eo_ex ee_int) rfl (fun _ _ => rfl))) rfl)) (eo_ex (ee_isN (eo_ex (ee_ix (eo_ex (ee_var rfl (.inl rfl))) (eo_ex ee_int) rfl (fun _ _ => rfl))) rfl)) rfl) (ew_or1 (ew_pt (ew_and (et_notN (eo_ex (ee_ix (eo_ex (ee_var rfl (.inl rfl))) (eo_ex ee_int) rfl (fun _ _ => rfl))) rfl) (ew_and1 (et_ne (eo_ex (ee_sub (eo_ex (ee_callK E.f__law_halves (Nat.le_add_right k 2) rfl (ea_cons (eo_ex (ee_ix (eo_ex (ee_var rfl (.inl rfl))) (eo_ex ee_int) rfl (fun _ _ => rfl))) ea_nil (Nat.succ_ne_zero _) (fun _ => rfl)) rfl rfl rfl (fun _ => rfl) (fun _ => rfl))) (eo_ex (ee_callK E.f__law_halves (Nat.le_add_right k 2) rfl (ea_cons (eo_ex (ee_ix (eo_ex (ee_var rfl (.inl rfl))) (eo_ex ee_int) rfl (fun _ _ => rfl))) ea_nil (Nat.succ_ne_zero _) (fun _ => rfl)) rfl rfl rfl (fun _ => rfl) (fun _ => rfl))) rfl)) (eo_ex (ee_var rfl (.inr (.inl rfl)))) rfl)))))))))) ee_int (by decide) (fun _ _ => rfl))) (eo_ex (ee_lst ea_nil rfl rfl)) rfl) (fun _ h => rfl))
  (ess_cons (es_if (ew_pt (ew_or (et_ne (eo_ex (ee_callK E.f_is_canon (Nat.le_add_right k 2) rfl (ea_cons (eo_ex (ee_var rfl (.inr (.inl rfl)))) (ea_cons (eo_ex (ee_var rfl (.inl rfl))) (ea_cons (eo_ex (ee_var rfl (.inr (.inl rfl)))) ea_nil (Nat.succ_ne_zero _) (fun _ => rfl)) (Nat.succ_ne_zero _) (fun _ => rfl)) (Nat.succ_ne_zero _) (fun _ => rfl)) rfl rfl rfl (fun _ => rfl) (fun _ => rfl))) (eo_ex (ee_var rfl (.inl rfl))) rfl) (ew_or1 (et_not (et_any (ee_callK E.f_is_canon (Nat.le_add_right k 2) rfl (ea_cons (eo_ex (ee_add (eo_ex (ee_var rfl (.inr (.inl rfl)))) (eo_ex (ee_var rfl (.inr (.inl rfl)))) rfl)) (ea_cons (eo_ex (ee_max2 rfl E.b_max (ea_cons (eo_ex ee_int) (ea_cons (eo_ex (ee_len rfl E.b_len (ea_cons (eo_ex (ee_var rfl (.inr (.inl rfl)))) ea_nil (Nat.succ_ne_zero _) (fun _ => rfl)) (fun _ => rfl))) ea_nil (Nat.succ_ne_zero _) (fun _ => rfl)) (Nat.succ_ne_zero _) (fun _ => rfl)) (fun _ => rfl) (fun _ => rfl))) (ea_cons (eo_ex ee_int) ea_nil (Nat.succ_ne_zero _) (fun _ => rfl)) (Nat.succ_ne_zero _) (fun _ => rfl)) (Nat.succ_ne_zero _) (fun _ => rfl)) rfl rfl rfl (fun _ => rfl) (fun _ => rfl)) (fun _ _ => rfl)))))) (ess_cons (es_ret ee_bl)
  ess_nil) ess_nil)
  ess_nil))))))))))))))))))
theorem d_law (E : Fa G cf k) {c0 : List (Str × Addr)} (hB : G.B.cl = clR LB c0 (qq ++ "<lambda>")) (T : ToldOk G cf fd_law.lams N_law LB told_ks told_ret "_law_told" k) (hL : ∀ (k : Nat) (l : LamLit), LB[k]? = some l → LamS (defScope (topS 26)) l.scope) (hcd : cdv = .ref xa) (tb : LamX.TabB G.base G.mg xa P) (tp : (P, some (qq ++ "<lambda>")) ∈ G.T) (tq : ∀ p ∈ G.T, p.1 = P → p.2 = some (qq ++ "<lambda>")) : ESs G cf (lfOf cf fd_law.lams) { N := N_law, sc := defScope (topS 26), lvl := k + 2, kd := 0, cd := cdv, qual := qq, cells := some c0 } ((defBody (topS 26)).drop 1) b_law :=   (ess_cons (es_set rfl ⟨(.inr rfl), .inl rfl⟩ (ee_tup (ea_cons (eo_ex ee_int) (ea_cons (eo_ex ee_int) (ea_cons (eo_ex ee_int) ea_nil (Nat.succ_ne_zero _) (fun _ => rfl)) (Nat.succ_ne_zero _) (fun _ => rfl)) (Nat.succ_ne_zero _) (fun _ => rfl)) rfl rfl) (fun _ h => rfl))
  (ess_cons (es_set rfl ⟨(.inl rfl), .inl rfl⟩ (ee_lst (ea_cons (eo_ex (ee_lam (l := lit_1) rfl hB rfl rfl rfl hcd tb tp tq (fun _ => rfl) (hL 1 _ rfl).free)) (ea_cons (eo_ex (ee_lam (l := lit_2) rfl hB rfl rfl rfl hcd tb tp tq (fun _ => rfl) (hL 2 _ rfl).free)) (ea_cons (eo_ex (ee_lam (l := lit_3) rfl hB rfl rfl rfl hcd tb tp tq (fun _ => rfl) (hL 3 _ rfl).free)) ea_nil (Nat.succ_ne_zero _) (fun _ => rfl)) (Nat.succ_ne_zero _) (fun _ => rfl)) (Nat.succ_ne_zero _) (fun _ => rfl)) rfl rfl) (fun _ h => rfl))
  (ess_cons (es_if (ew_pt (ew_or (et_ne (eo_ex (ee_comp Nat.zero_ne_one (own := [("f", 30)]) (ei_seq (eo_ex (ee_var rfl (.inl rfl))) rfl rfl) (blkOk_by rfl) (eg_nm rfl ⟨(.inl rfl), .inr rfl⟩) (bts_told T hB rfl hL (hv_by rfl) rfl (Nat.le_refl _) (ee_var rfl (.inl rfl)) (fun _ => rfl)) ee_int (by decide) (fun _ _ => rfl))) (eo_ex (ee_lst ea_nil rfl rfl)) rfl) (ew_or (et_ne (eo_ex (ee_callK E.f_longest_again (Nat.le_add_right k 2) rfl (ea_cons (eo_ex (ee_lst (ea_cons (eo_ex ee_int) (ea_cons (eo_ex ee_int) (ea_cons (eo_ex ee_int) ea_nil (Nat.succ_ne_zero _) (fun _ => rfl)) (Nat.succ_ne_zero _) (fun _ => rfl)) (Nat.succ_ne_zero _) (fun _ => rfl)) rfl rfl)) ea_nil (Nat.succ_ne_zero _) (fun _ => rfl)) rfl rfl rfl (fun _ => rfl) (fun _ => rfl))) (eo_ex (ee_tup (ea_cons (eo_ex ee_int) (ea_cons (eo_ex ee_int) (ea_cons (eo_ex ee_int) ea_nil (Nat.succ_ne_zero _) (fun _ => rfl)) (Nat.succ_ne_zero _) (fun _ => rfl)) (Nat.succ_ne_zero _) (fun _ => rfl)) rfl rfl)) rfl) (ew_or1 (et_ne (eo_ex (ee_callK E.f_longest_again (Nat.le_add_right k 2) rfl (ea_cons (eo_ex (ee_lst (ea_cons (eo_ex ee_int) (ea_cons (eo_ex ee_int) (ea_cons (eo_ex ee_int) (ea_cons (eo_ex ee_int) ea_nil (Nat.succ_ne_zero _) (fun _ => rfl)) (Nat.succ_ne_zero _) (fun _ => rfl)) (Nat.succ_ne_zero _) (fun _ => rfl)) (Nat.succ_ne_zero _) (fun _ => rfl)) rfl rfl)) ea_nil (Nat.succ_ne_zero _) (fun _ => rfl)) rfl rfl rfl (fun _ => rfl) (fun _ => rfl))) (eo_ex (ee_tup (ea_cons (eo_ex ee_int) (ea_cons (eo_ex ee_int) (ea_cons (eo_ex ee_int) ea_nil (Nat.succ_ne_zero _) (fun _ => rfl)) (Nat.succ_ne_zero _) (fun _ => rfl)) (Nat.succ_ne_zero _) (fun _ => rfl)) rfl rfl)) rfl))))) (ess_cons (es_ret ee_bl)
  ess_nil) ess_nil)
  (ess_cons (es_ret (ee_and (ee_eq (eo_ex (ee_callK E.f_form_letters (Nat.le_add_right k 2) rfl (ea_cons (eo_ex (ee_lst (ea_cons (eo_ex (ee_lst (ea_cons (eo_ex (ee_tup (ea_cons (eo_ex (ee_var rfl (.inr (.inl rfl)))) (ea_cons (eo_ex (ee_tup (ea_cons (eo_ex ee_int) (ea_cons (eo_ex ee_int) ea_nil (Nat.succ_ne_zero _) (fun _ => rfl)) (Nat.succ_ne_zero _) (fun _ => rfl)) rfl rfl)) ea_nil (Nat.succ_ne_zero _) (fun _ => rfl)) (Nat.succ_ne_zero _) (fun _ => rfl)) rfl rfl)) ea_nil (Nat.succ_ne_zero _) (fun _ => rfl)) rfl rfl)) (ea_cons (eo_ex (ee_lst (ea_cons (eo_ex (ee_tup (ea_cons (eo_ex (ee_tup (ea_cons (eo_ex ee_int) (ea_cons (eo_ex ee_int) (ea_cons (eo_ex ee_int) ea_nil (Nat.succ_ne_zero _) (fun _ => rfl)) (Nat.succ_ne_zero _) (fun _ => rfl)) (Nat.succ_ne_zero _) (fun _ => rfl)) rfl rfl)) (ea_cons (eo_ex (ee_tup (ea_cons (eo_ex ee_int) (ea_cons (eo_ex ee_int) ea_nil (Nat.succ_ne_zero _) (fun _ => rfl)) (Nat.succ_ne_zero _) (fun _ => rfl)) rfl rfl)) ea_nil (Nat.succ_ne_zero _) (fun _ => rfl)) (Nat.succ_ne_zero _) (fun _ => rfl)) rfl rfl)) ea_nil (Nat.succ_ne_zero _) (fun _ => rfl)) rfl rfl)) (ea_cons (eo_ex (ee_lst ea_nil rfl rfl)) ea_nil (Nat.succ_ne_zero _) (fun _ => rfl)) (Nat.succ_ne_zero _) (fun _ => rfl)) (Nat.succ_ne_zero _) (fun _ => rfl)) rfl rfl)) ea_nil (Nat.succ_ne_zero _) (fun _ => rfl)) rfl rfl rfl (fun _ => rfl) (fun _ => rfl))) (eo_ex (ee_tup (ea_cons (eo_ex ee_str) (ea_cons (eo_ex ee_str) (ea_cons (eo_ex ee_str) ea_nil (Nat.succ_ne_zero _) (fun _ => rfl)) (Nat.succ_ne_zero _) (fun _ => rfl)) (Nat.succ_ne_zero _) (fun _ => rfl)) rfl rfl)) rfl) (ee_and (ee_callK E.f_is_canon (Nat.le_add_right k 2) rfl (ea_cons (eo_ex (ee_lst (ea_cons (eo_ex (ee_tup (ea_cons (eo_ex (ee_var rfl (.inr (.inl rfl)))) (ea_cons (eo_ex (ee_tup (ea_cons (eo_ex ee_int) (ea_cons (eo_ex ee_int) ea_nil (Nat.succ_ne_zero _) (fun _ => rfl)) (Nat.succ_ne_zero _) (fun _ => rfl)) rfl rfl)) ea_nil (Nat.succ_ne_zero _) (fun _ => rfl)) (Nat.succ_ne_zero _) (fun _ => rfl)) rfl rfl)) (ea_cons (eo_ex (ee_tup (ea_cons (eo_ex (ee_tup (ea_cons (eo_ex ee_int) (ea_cons (eo_ex ee_int) (ea_cons (eo_ex ee_int) ea_nil (Nat.succ_ne_zero _) (fun _ => rfl)) (Nat.succ_ne_zero _) (fun _ => rfl)) (Nat.succ_ne_zero _) (fun _ => rfl)) rfl rfl)) (ea_cons (eo_ex (ee_tup (ea_cons (eo_ex ee_int) (ea_cons (eo_ex ee_int) ea_nil (Nat.succ_ne_zero _) (fun _ => rfl)) (Nat.succ_ne_zero _) (fun _ => rfl)) rfl rfl)) ea_nil (Nat.succ_ne_zero _) (fun _ => rfl)) (Nat.succ_ne_zero _) (fun _ => rfl)) rfl rfl)) (ea_cons (eo_ex (ee_tup (ea_cons (eo_ex (ee_tup (ea_cons (eo_ex ee_int) (ea_cons (eo_ex ee_int) (ea_cons (eo_ex ee_int) ea_nil (Nat.succ_ne_zero _) (fun _ => rfl)) (Nat.succ_ne_zero _) (fun _ => rfl)) (Nat.succ_ne_zero _) (fun _ => rfl)) rfl rfl)) (ea_cons (eo_ex (ee_tup (ea_cons (eo_ex ee_int) (ea_cons (eo_ex ee_int) ea_nil (Nat.succ_ne_zero _) (fun _ => rfl)) (Nat.succ_ne_zero _) (fun _ => rfl)) rfl rfl)) ea_nil (Nat.succ_ne_zero _) (fun _ => rfl)) (Nat.succ_ne_zero _) (fun _ => rfl)) rfl rfl)) ea_nil (Nat.succ_ne_zero _) (fun _ => rfl)) (Nat.succ_ne_zero _) (fun _ => rfl)) (Nat.succ_ne_zero _) (fun _ => rfl)) rfl rfl)) (ea_cons (eo_ex ee_int) (ea_cons (eo_ex ee_int) ea_nil (Nat.succ_ne_zero _) (fun _ => rfl)) (Nat.succ_ne_zero _) (fun _ => rfl)) (Nat.succ_ne_zero _) (fun _ => rfl)) rfl rfl rfl (fun _ => rfl) (fun _ => rfl)) (ee_one (ee_eq (eo_ex (ee_callK E.f_places_of (Nat.le_add_right k 2) rfl (ea_cons (eo_ex (ee_lst (ea_cons (eo_ex ee_int) (ea_cons (eo_ex ee_int) (ea_cons (eo_ex ee_int) ea_nil (Nat.succ_ne_zero _) (fun _ => rfl)) (Nat.succ_ne_zero _) (fun _ => rfl)) (Nat.succ_ne_zero _) (fun _ => rfl)) rfl rfl)) (ea_cons (eo_ex (ee_lst (ea_cons (eo_ex ee_int) (ea_cons (eo_ex ee_int) ea_nil (Nat.succ_ne_zero _) (fun _ => rfl)) (Nat.succ_ne_zero _) (fun _ => rfl)) rfl rfl)) ea_nil (Nat.succ_ne_zero _) (fun _ => rfl)) (Nat.succ_ne_zero _) (fun _ => rfl)) rfl rfl rfl (fun _ => rfl) (fun _ => rfl))) (eo_ex (ee_tup (ea_cons (eo_ex ee_int) (ea_cons (eo_ex ee_int) ea_nil (Nat.succ_ne_zero _) (fun _ => rfl)) (Nat.succ_ne_zero _) (fun _ => rfl)) rfl rfl)) rfl)))))
  ess_nil))))
end
/-- what the head tells -/
structure Hd (G : Gb) : Prop where
  b_abs : G.mg "abs" = none
  b_enumerate : G.mg "enumerate" = none
  b_int : G.mg "int" = none
  b_len : G.mg "len" = none
  b_list : G.mg "list" = none
  b_max : G.mg "max" = none
  b_min : G.mg "min" = none
  b_range : G.mg "range" = none
  b_tuple : G.mg "tuple" = none
  b_zip : G.mg "zip" = none
  con_MOST_TONES : ConOk G "MOST_TONES" c_MOST_TONES
  con_STEPS : ConOk G "STEPS" c_STEPS
  x_PitchError : ExcOk G 1 "PitchError"
  x_ScoreError : ExcOk G 2 "ScoreError"
  nostop : NoStop G
  t__law_halves : ∃ cdv, DefAt G "_law_halves" (topS 24) cdv
  t__law_notes : ∃ cdv, DefAt G "_law_notes" (topS 25) cdv
  t__law_roll : ∃ cdv, DefAt G "_law_roll" (topS 20) cdv
  t__law_tone : ∃ cdv, DefAt G "_law_tone" (topS 23) cdv
  t_form_letters : ∃ cdv, DefAt G "form_letters" (topS 15) cdv
  t_half_steps : ∃ cdv, DefAt G "half_steps" (topS 7) cdv
  t_is_canon : ∃ cdv, DefAt G "is_canon" (topS 17) cdv
  t_longest_again : ∃ cdv, DefAt G "longest_again" (topS 13) cdv
  t_moved_by : ∃ cdv, DefAt G "moved_by" (topS 9) cdv
  t_moved_shape : ∃ xa P, DefAt G "moved_shape" (topS 16) (.ref xa) ∧ TabIs G xa P none
  t_pitch : ∃ cdv, DefAt G "pitch" (topS 6) cdv
  t_place_in : ∃ cdv, DefAt G "place_in" (topS 8) cdv
  t_places_of : ∃ xa P, DefAt G "places_of" (topS 14) (.ref xa) ∧ TabIs G xa P none
  t_shape_of : ∃ cdv, DefAt G "shape_of" (topS 12) cdv
theorem bd__law_halves : BindsD "_law_halves" (topS 24) ["tone"] := fun _ _ _ _ _ _ us hl => match us, hl with | [_], _ => rfl
theorem sc__law_halves : FnScope N__law_halves ["tone"] (defScope (topS 24)) := ⟨rfl, rfl, rfl, by decide +kernel, rfl, by decide +kernel, by decide +kernel⟩
theorem bd__law_notes : BindsD "_law_notes" (topS 25) ["dice", "most"] := fun _ _ _ _ _ _ us hl => match us, hl with | [_, _], _ => rfl
theorem sc__law_notes : FnScope N__law_notes ["dice", "most"] (defScope (topS 25)) := ⟨rfl, rfl, rfl, by decide +kernel, rfl, by decide +kernel, by decide +kernel⟩
theorem bd__law_roll : BindsD "_law_roll" (topS 20) ["dice", "many"] := fun _ _ _ _ _ _ us hl => match us, hl with | [_, _], _ => rfl
theorem sc__law_roll : FnScope N__law_roll ["dice", "many"] (defScope (topS 20)) := ⟨rfl, rfl, rfl, by decide +kernel, rfl, by decide +kernel, by decide +kernel⟩
theorem bd__law_tone : BindsD "_law_tone" (topS 23) ["dice"] := fun _ _ _ _ _ _ us hl => match us, hl with | [_], _ => rfl
theorem sc__law_tone : FnScope N__law_tone ["dice"] (defScope (topS 23)) := ⟨rfl, rfl, rfl, by decide +kernel, rfl, by decide +kernel, by decide +kernel⟩
theorem bd_form_letters : BindsD "form_letters" (topS 15) ["parts"] := fun _ _ _ _ _ _ us hl => match us, hl with | [_], _ => rfl
theorem sc_form_letters : FnScope N_form_letters ["parts"] (defScope (topS 15)) := ⟨rfl, rfl, rfl, by decide +kernel, rfl, by decide +kernel, by decide +kernel⟩
theorem bd_half_steps : BindsD "half_steps" (topS 7) ["tone"] := fun _ _ _ _ _ _ us hl => match us, hl with | [_], _ => rfl
theorem sc_half_steps : FnScope N_half_steps ["tone"] (defScope (topS 7)) := ⟨rfl, rfl, rfl, by decide +kernel, rfl, by decide +kernel, by decide +kernel⟩
theorem bd_is_canon : BindsD "is_canon" (topS 17) ["notes", "places", "halves"] := fun _ _ _ _ _ _ us hl => match us, hl with | [_, _, _], _ => rfl
theorem sc_is_canon : FnScope N_is_canon ["notes", "places", "halves"] (defScope (topS 17)) := ⟨rfl, rfl, rfl, by decide +kernel, rfl, by decide +kernel, by decide +kernel⟩
theorem bd_longest_again : BindsD "longest_again" (topS 13) ["rows"] := fun _ _ _ _ _ _ us hl => match us, hl with | [_], _ => rfl
theorem sc_longest_again : FnScope N_longest_again ["rows"] (defScope (topS 13)) := ⟨rfl, rfl, rfl, by decide +kernel, rfl, by decide +kernel, by decide +kernel⟩
theorem bd_moved_by : BindsD "moved_by" (topS 9) ["tone", "step"] := fun _ _ _ _ _ _ us hl => match us, hl with | [_, _], _ => rfl
theorem sc_moved_by : FnScope N_moved_by ["tone", "step"] (defScope (topS 9)) := ⟨rfl, rfl, rfl, by decide +kernel, rfl, by decide +kernel, by decide +kernel⟩
theorem bd_moved_shape : BindsD "moved_shape" (topS 16) ["notes"] := fun _ _ _ _ _ _ us hl => match us, hl with | [_], _ => rfl
theorem sc_moved_shape : FnScope N_moved_shape ["notes"] (defScope (topS 16)) := ⟨rfl, rfl, rfl, by decide +kernel, rfl, by decide +kernel, by decide +kernel⟩
theorem bd_pitch : BindsD "pitch" (topS 6) ["letter", "alter", "octave"] := fun _ _ _ _ _ _ us hl => match us, hl with | [_, _, _], _ => rfl
theorem sc_pitch : FnScope N_pitch ["letter", "alter", "octave"] (defScope (topS 6)) := ⟨rfl, rfl, rfl, by decide +kernel, rfl, by decide +kernel, by decide +kernel⟩
theorem bd_place_in : BindsD "place_in" (topS 8) ["tone"] := fun _ _ _ _ _ _ us hl => match us, hl with | [_], _ => rfl
theorem sc_place_in : FnScope N_place_in ["tone"] (defScope (topS 8)) := ⟨rfl, rfl, rfl, by decide +kernel, rfl, by decide +kernel, by decide +kernel⟩
theorem bd_places_of : BindsD "places_of" (topS 14) ["rows", "wanted"] := fun _ _ _ _ _ _ us hl => match us, hl with | [_, _], _ => rfl
theorem sc_places_of : FnScope N_places_of ["rows", "wanted"] (defScope (topS 14)) := ⟨rfl, rfl, rfl, by decide +kernel, rfl, by decide +kernel, by decide +kernel⟩
theorem bd_shape_of : BindsD "shape_of" (topS 12) ["notes"] := fun _ _ _ _ _ _ us hl => match us, hl with | [_], _ => rfl
theorem sc_shape_of : FnScope N_shape_of ["notes"] (defScope (topS 12)) := ⟨rfl, rfl, rfl, by decide +kernel, rfl, by decide +kernel, by decide +kernel⟩
theorem fa_all {G : Gb} (T : Hd G) : ∀ n, Fa G (callF fds n) (3 * n)
  | 0 => {
    b_abs := T.b_abs
    b_enumerate := T.b_enumerate
    b_int := T.b_int
    b_len := T.b_len
    b_list := T.b_list
    b_max := T.b_max
    b_min := T.b_min
    b_range := T.b_range
    b_tuple := T.b_tuple
    b_zip := T.b_zip
    con_MOST_TONES := T.con_MOST_TONES
    con_STEPS := T.con_STEPS
    x_PitchError := T.x_PitchError
    x_ScoreError := T.x_ScoreError
    nostop := T.nostop
    f__law_halves := T.t__law_halves.elim fun cdv z => call_zero z bd__law_halves rfl
    f__law_notes := T.t__law_notes.elim fun cdv z => call_zero z bd__law_notes rfl
    f__law_roll := T.t__law_roll.elim fun cdv z => call_zero z bd__law_roll rfl
    f__law_tone := T.t__law_tone.elim fun cdv z => call_zero z bd__law_tone rfl
    f_form_letters := T.t_form_letters.elim fun cdv z => call_zero z bd_form_letters rfl
    f_half_steps := T.t_half_steps.elim fun cdv z => call_zero z bd_half_steps rfl
    f_is_canon := T.t_is_canon.elim fun cdv z => call_zero z bd_is_canon rfl
    f_longest_again := T.t_longest_again.elim fun cdv z => call_zero z bd_longest_again rfl
    f_moved_by := T.t_moved_by.elim fun cdv z => call_zero z bd_moved_by rfl
    f_moved_shape := T.t_moved_shape.elim fun xa z => z.elim fun P z => call_zero z.1 bd_moved_shape rfl
    f_pitch := T.t_pitch.elim fun cdv z => call_zero z bd_pitch rfl
    f_place_in := T.t_place_in.elim fun cdv z => call_zero z bd_place_in rfl
    f_places_of := T.t_places_of.elim fun xa z => z.elim fun P z => call_zero z.1 bd_places_of rfl
    f_shape_of := T.t_shape_of.elim fun cdv z => call_zero z bd_shape_of rfl }
  | n + 1 => by
    have E := fa_all T n
    exact {
    b_abs := T.b_abs
    b_enumerate := T.b_enumerate
    b_int := T.b_int
    b_len := T.b_len
    b_list := T.b_list
    b_max := T.b_max
    b_min := T.b_min
    b_range := T.b_range
    b_tuple := T.b_tuple
    b_zip := T.b_zip
    con_MOST_TONES := T.con_MOST_TONES
    con_STEPS := T.con_STEPS
    x_PitchError := T.x_PitchError
    x_ScoreError := T.x_ScoreError
    nostop := T.nostop
    f__law_halves := T.t__law_halves.elim fun cdv z => call_up (f := 15) z bd__law_halves sc__law_halves rfl rfl (by decide) rfl (d__law_halves E)
    f__law_notes := T.t__law_notes.elim fun cdv z => call_up (f := 16) z bd__law_notes sc__law_notes rfl rfl (by decide) rfl (d__law_notes E)
    f__law_roll := T.t__law_roll.elim fun cdv z => call_up (f := 11) z bd__law_roll sc__law_roll rfl rfl (by decide) rfl (d__law_roll E)
    f__law_tone := T.t__law_tone.elim fun cdv z => call_up (f := 14) z bd__law_tone sc__law_tone rfl rfl (by decide) rfl (d__law_tone E)
    f_form_letters := T.t_form_letters.elim fun cdv z => call_up (f := 7) z bd_form_letters sc_form_letters rfl rfl (by decide) rfl (d_form_letters E)
    f_half_steps := T.t_half_steps.elim fun cdv z => call_up (f := 1) z bd_half_steps sc_half_steps rfl rfl (by decide) rfl (d_half_steps E)
    f_is_canon := T.t_is_canon.elim fun cdv z => call_up (f := 9) z bd_is_canon sc_is_canon rfl rfl (by decide) rfl (d_is_canon E)
    f_longest_again := T.t_longest_again.elim fun cdv z => call_up (f := 5) z bd_longest_again sc_longest_again rfl rfl (by decide) rfl (d_longest_again E)
    f_moved_by := T.t_moved_by.elim fun cdv z => call_up (f := 3) z bd_moved_by sc_moved_by rfl rfl (by decide) rfl (d_moved_by E)
    f_moved_shape := T.t_moved_shape.elim fun xa z => z.elim fun P z => call_up (f := 8) z.1 bd_moved_shape sc_moved_shape rfl rfl (by decide) rfl (d_moved_shape E rfl z.2.tb z.2.tp z.2.tq)
    f_pitch := T.t_pitch.elim fun cdv z => call_up (f := 0) z bd_pitch sc_pitch rfl rfl (by decide) rfl (d_pitch E)
    f_place_in := T.t_place_in.elim fun cdv z => call_up (f := 2) z bd_place_in sc_place_in rfl rfl (by decide) rfl (d_place_in E)
    f_places_of := T.t_places_of.elim fun xa z => z.elim fun P z => call_up (f := 6) z.1 bd_places_of sc_places_of rfl rfl (by decide) rfl (d_places_of E rfl z.2.tb z.2.tp z.2.tq)
    f_shape_of := T.t_shape_of.elim fun cdv z => call_up (f := 4) z bd_shape_of sc_shape_of rfl rfl (by decide) rfl (d_shape_of E) }
end K11
end
section
set_option maxRecDepth 100000
set_option maxHeartbeats 2000000
namespace MZ
open PySem PySem.Spec PyProof.Rows L2 LamX MX
/-- the end where any def of the text may hold a generator expression or a lambda: each def's table is empty at the head -/
theorem walk_ofAll {l : PySem.W.OpenLaw} {n k : Nat} {q : Program} {loose : List Str} {XP : (Str → Option Value) → Heap → Prop} {YP : World → Heap → Prop} {d : DefRec} {K : Params → PySem.W.Frag} {CX : World → CXT} {x : Str}
    (hn : l.most = some n) (hn2 : n ≤ sizeLine) (hdf : d.params.defaults = []) (hr : Room k callerA) (hY : ∀ (w : World) (h : Heap), YP w h → (K w.params).In h)
    (F : ∀ (w : World) (mg : Str → Option Value) (fa : Addr) (h : Heap), YP w h → (K w.params).In h → h.Ns mainGlobals mg → mg d.name = some (.ref fa) →
      (∀ (y : Str) (ya : Addr), ((recsOf q).any fun e => e.name == y) = true → mg y = some (.ref ya) → OwnTab (K w.params) ya h) → LawAtS l w (K w.params) (CX w) k n x mg fa h)
    (hCX : ∀ (w : World) (H : Hp) (s : Shared) (e : Value) (s' : Shared), CX w [] H s (fun _ _ _ => False) e s' → False) :
    PySem.W.WalkO q loose XP YP l.row.toRowW d [] (fun f vs => PySem.call f vs) := by
  refine Att.attach_callB hn hdf fun w s₀ s₁ mg mb fa o pm cd doc a vs ns G Y ho hd hcd hmg hobj hints hlen hbits hg => ?_
  have KX := hY w _ Y
  have own : ∀ (y : Str) (ya : Addr), ((recsOf q).any fun e => e.name == y) = true → mg y = some (.ref ya) → OwnTab (K w.params) ya s₁.heap := fun y ya hrec hmy c P o1 fd1 e dd vs1 sl k1 k2 k3 k4 k5 => by
    obtain ⟨dL, hm, hn1⟩ := List.any_eq_true.mp hrec
    have hn2 : dL.name = y := beq_iff_eq.mp hn1
    obtain ⟨a', o', fd', c', P', h1, h2, h3, h4, h5, h6⟩ := G.T.tab dL hm
    rw [hn2, hmy] at h1
    cases h1
    rw [KX _ _ k1] at h2
    cases h2
    rw [k2] at h3
    cases h3
    rw [k3] at h4
    cases h4
    obtain ⟨⟨oc, vc, e1, _, e3, e4⟩, hP⟩ := h6
    rw [KX _ _ k4] at e1
    cases e1
    cases e3
    rw [k5] at e4
    cases e4
    exact hP
  obtain ⟨fd, cs, sp, hT, nT, C, hb, hsp, hF⟩ := F w mg fa _ Y KX G.T.g hmg own
  exact law_callTs KX G.T.g G.T.b G.T.builtins G.T.nolimit hg hT nT C G.T.bmain hobj hints (Nat.le_trans hlen hn2) hr hF hb (fun H hH hS => hsp H a ns hlen hbits hH hS) fun H e s' => hCX w H s₁ e s'
end MZ
end
section
set_option maxRecDepth 100000
set_option maxHeartbeats 2000000
namespace MZ
open PySem PySem.Spec PyProof.Rows L2 LamX MX
/-! ### a module's constant against the written part -/
mutual
def repK (K : PySem.W.Frag) : Nat → D → Value → Bool
  | _, .non, .none => true
  | _, .bl b, .bool c => b == c
  | _, .int i, .int j _ => i == j
  | _, .str x, .str y _ => decide (x = y)
  | n + 1, .tup l, .ref a => match K.lookup a with
    | some ⟨.type "tuple", _, .seq its _, _⟩ => decide (its.size ≤ line) && repKs K n l its.toList
    | _ => false
  | _, _, _ => false
def repKs (K : PySem.W.Frag) : Nat → List D → List Value → Bool
  | _, [], [] => true
  | n, d :: ds, u :: us => repK K n d u && repKs K n ds us
  | _, _, _ => false
end
mutual
theorem repK_ok {K : PySem.W.Frag} : ∀ {n : Nat} {d : D} {u : Value}, repK K n d u = true → ∃ v, RelV v u ∧ ∀ (B : RB) (H : Hp), B.K = K → Rep B H d v
  | n, .non, u, h => by cases u <;> simp [repK] at h; exact ⟨.non, rfl, fun B H _ => rep_non⟩
  | n, .bl b, u, h => by cases u <;> simp [repK] at h; subst h; exact ⟨.bl b, rfl, fun B H _ => rep_bl⟩
  | n, .int i, u, h => by cases u <;> simp [repK] at h; subst h; exact ⟨.int i, ⟨_, rfl⟩, fun B H _ => rep_int⟩
  | n, .str x, u, h => by cases u <;> simp [repK] at h; subst h; exact ⟨.str x, ⟨_, rfl⟩, fun B H _ => rep_str⟩
  | n + 1, .tup l, u, h => by
    cases u <;> try (simp [repK] at h; done)
    rename_i a
    rw [repK] at h
    split at h
    · rename_i its m _ hk
      obtain ⟨h1, h2⟩ := Bool.and_eq_true_iff.mp h
      obtain ⟨vs, r, q⟩ := repKs_ok h2
      refine ⟨.ref a, rfl, fun B H hB => ?_⟩
      simp only [Rep]
      exact ⟨a, vs, rfl, .inr ⟨_, its, m, by rw [hB]; exact hk, rfl, rfl, by rw [line_is]; exact of_decide_eq_true h1, r⟩, q B H hB⟩
    · cases h
  | 0, .tup l, u, h => by cases u <;> simp [repK] at h
  | n, .lst l, u, h => by cases n <;> cases u <;> simp [repK] at h
  | n, .dic _ _, u, h => by cases n <;> cases u <;> simp [repK] at h
  | n, .obj _ _, u, h => by cases n <;> cases u <;> simp [repK] at h
  | n, .clo _, u, h => by cases n <;> cases u <;> simp [repK] at h
theorem repKs_ok {K : PySem.W.Frag} : ∀ {n : Nat} {ds : List D} {us : List Value}, repKs K n ds us = true → ∃ vs, Vals vs us ∧ ∀ (B : RB) (H : Hp), B.K = K → RepL B H ds vs
  | n, [], [], _ => ⟨[], .nil, fun B H _ => RepL.nil.mpr rfl⟩
  | n, d :: ds, u :: us, h => by
    rw [repKs] at h
    obtain ⟨h1, h2⟩ := Bool.and_eq_true_iff.mp h
    obtain ⟨v, r, q⟩ := repK_ok h1
    obtain ⟨vs, r2, q2⟩ := repKs_ok h2
    exact ⟨v :: vs, .cons r r2, fun B H hB => RepL.cons (q B H hB) (q2 B H hB)⟩
  | n, [], _ :: _, h => by simp [repKs] at h
  | n, _ :: _, [], h => by simp [repKs] at h
end
section
variable {G : Gb} {h : Heap} {x : Str}
theorem con_mk {d : D} {u : Value} {n : Nat} (X : G.K.In h) (Gn : h.Ns mainGlobals G.mg) (a : PySem.W.nsIn G.K mainGlobals x = some (some u)) (r : repK G.K n d u = true) (db : (x == ("__debug__" : Str)) = false := by decide) : ConOk G x d := by
  obtain ⟨v, r1, r2⟩ := repK_ok r
  exact ⟨⟨v, u, PySem.W.mg_of X Gn a, r1, fun H => r2 G.B H G.hK⟩, db⟩
theorem def_mk {st : Stmt} {f : Addr} {oc kV doc pm cdv ct : Value} {od an : Option Addr} {osl : Array (Option Value)} (X : G.K.In h) (Gn : h.Ns mainGlobals G.mg) (a : PySem.W.nsIn G.K mainGlobals x = some (some (.ref f)))
    (l : G.K.lookup f = some ⟨oc, od, .func (PySem.W.fnOf x x (defArgs st) (defBody st) (defScope st) .none kV doc pm an cdv ct), osl⟩) (c : PySem.W.codeIn G.K cdv x = true) (k : PySem.W.keepIn G.K (.ref f) = true) : DefAt G x st cdv :=
  ⟨⟨f, oc, kV, doc, pm, ct, od, an, osl, PySem.W.mg_of X Gn a, k, l, c⟩⟩
theorem exc_mk {k : Nat} {C : Addr} {bmB : List Value} {B newId initId : String} (X : G.K.In h) (Gn : h.Ns mainGlobals G.mg) (a : PySem.W.nsIn G.K mainGlobals x = some (some (.ref C))) (F : ExcBaseFacts B newId initId bmB) (e : PySem.W.excIn G.K C bmB newId = true) (kp : PySem.W.keepIn G.K (.ref C) = true)
    (s : PySem.W.subIn G.K (.ref C) (.type "BaseException") = some true) (t : PySem.W.typeIn G.K (.ref C) = some (.type "type")) (hx : G.xc k = .ref C) (db : (x == ("__debug__" : Str)) = false := by decide) : ExcOk G k x :=
  ⟨⟨C, bmB, B, newId, initId, F, e, PySem.W.mg_of X Gn a, kp, s, t, hx⟩, db⟩
end
end MZ
namespace MZ
open PySem PySem.Spec PyProof.Rows L2 LamX MX
/-- an error of the class at E is one of the class at C -/
theorem exm_mk {K : PySem.W.Frag} {E C : Addr} (h1 : PySem.W.subIn K (.ref C) (.type "BaseException") = some true) (h2 : PySem.W.isClsIn K C = true) (h3 : PySem.W.typeIn K (.ref C) = some (.type "type")) (h4 : PySem.W.subIn K (.ref E) (.ref C) = some true) :
    PySem.W.exmOne K (.ref E) (.ref C) = some true := by
  have e1 : (PySem.W.subIn K (.ref C) (.type "BaseException") == some true) = true := by rw [h1] <;> rfl
  have e2 : ((PySem.W.clsIn K C).isSome && PySem.W.typeIn K (.ref C) == some (.type "type")) = true := by
    have h2' : (PySem.W.clsIn K C).isSome = true := h2
    rw [h2', h3] <;> rfl
  show (if (PySem.W.subIn K (.ref C) (.type "BaseException") == some true) = true then (if ((PySem.W.clsIn K C).isSome && PySem.W.typeIn K (.ref C) == some (.type "type")) = true then PySem.W.subIn K (.ref E) (.ref C) else none) else none) = some true
  rw [if_pos e1, if_pos e2]
  exact h4
/-- a code object whose table is at P -/
theorem codeHd_mk {K : PySem.W.Frag} {c P : Addr} {od : Option Addr} {vs : Array Value} {sl : Array (Option Value)} (l : K.lookup c = some ⟨.type "code", od, .fields vs, sl⟩) (g : vs[11]? = some (.ref P))
    (h : ((match vs.getD 18 .none with | .str _ _ => true | _ => false) && (match vs.getD 7 .none with | .int _ _ => true | _ => false) && (match vs.getD 9 .none with | .bool _ => true | _ => false) && (match vs.getD 10 .none with | .int _ _ => true | _ => false) && c != P) = true) :
    PySem.W.codeHdIn K c P = true := by
  simp only [Bool.and_eq_true] at h
  obtain ⟨⟨⟨⟨h1, h2⟩, h3⟩, h4⟩, h5⟩ := h
  unfold PySem.W.codeHdIn
  rw [l]
  simp only [g]
  simp only [Bool.and_eq_true, beq_self_eq_true, true_and]
  exact ⟨⟨⟨⟨h1, h2⟩, h3⟩, h4⟩, h5⟩
end MZ
end
section
set_option maxRecDepth 100000
set_option maxHeartbeats 2000000
namespace MZ
open PySem PySem.Spec PyProof.Rows L2 LamX MX
/-- the law of promise spL at the end: its tables, each with the name that its code objects bear (none: a generator expression's) -/
def gbOf (l : PySem.W.OpenLaw) (w : World) (K : PySem.W.Frag) (mg : Str → Option Value) (base : Heap) (T : List (Addr × Option Str)) (xc : Nat → Value) : Gb := { prog := l.prog, w := w, K := K, mg := mg, base := base, B := rb0 K, hK := rfl, T := T, xc := xc }
/-- as spL, the base left out -/
def spA (K : PySem.W.Frag) (T : List (Addr × Option Str)) : Sp := fun vs H Q E => ∃ (a : Addr) (ns : List Int), vs = [.ref a] ∧ SqL K H a (ns.map V.int) ∧ (∀ z ∈ ns, Builtin.Int.intBits z ≤ 1048576) ∧ (∀ p ∈ T, TabOk H p) ∧ ∀ H', Q (.bl true) H'
theorem law_at {l : PySem.W.OpenLaw} {w : World} {K : PySem.W.Frag} {k n : Nat} {mg : Str → Option Value} {fa : Addr} {h : Heap} {x : Str} {fd : FuncData} {ts : List (Addr × Addr × Option Str)} {xc : Nat → Value} (hx : x = "script")
    (hT : ∀ p ∈ ts, h.get? p.2.1 = some { cls := .none, data := .fields #[] }) (nT : ∀ p ∈ ts, K.lookup p.2.1 = none) (hC : ∀ p ∈ ts, PySem.W.codeHdIn K p.1 p.2.1 = true) (X : K.In h)
    (hb : ∀ (s : Shared) (u : Value), BindsTo s fd ⟨[u], []⟩ [(x, u)])
    (F : ∀ base : Heap, K.In base → base.Ns mainGlobals mg → (∀ p ∈ ts, LamX.TabB base mg p.1 p.2.1) → FnOk l.prog w K mg base (L2.CX l.prog w) k fa fd [x]
      (spL (gbOf l w K mg base (ts.map fun p => p.2) xc))) :
    LawAtS l w K (L2.CX l.prog w) k n x mg fa h := by
  refine ⟨fd, ts.map fun p => (p.1, p.2.1), spA K (ts.map fun (p : Addr × Addr × Option Str) => p.2), fun p m => ?_, fun p m => ?_, fun p m => ?_, hb, fun H a ns hl hbits hH hS => ⟨a, ns, rfl, hS, hbits, fun p m => ?_, fun H' => rfl⟩, fun base Xb Gb tb => F base Xb Gb fun p m => tb (p.1, p.2.1) (List.mem_map.mpr ⟨p, m, rfl⟩)⟩
  · obtain ⟨p', m', rfl⟩ := List.mem_map.mp m
    exact hT p' m'
  · obtain ⟨p', m', rfl⟩ := List.mem_map.mp m
    exact nT p' m'
  · obtain ⟨p', m', rfl⟩ := List.mem_map.mp m
    exact PySem.W.codeHd_of_K X (hC p' m')
  · obtain ⟨p', m', rfl⟩ := List.mem_map.mp m
    have e := hH (p'.1, p'.2.1) (List.mem_map.mpr ⟨p', m', rfl⟩)
    unfold TabOk
    split
    · exact ⟨#[], e, trivial⟩
    · exact ⟨#[], e, trivial, fun pos cv z => by simp [codeAmong] at z⟩
/-- a def's table is empty at the head -/
theorem tab_of {K : PySem.W.Frag} {h : Heap} {f xa P : Addr} {oc : Value} {od : Option Addr} {osl : Array (Option Value)} {fd : FuncData} (own : OwnTab K f h) (l : K.lookup f = some ⟨oc, od, .func fd, osl⟩) (hc : fd.code = .ref xa) (d : PySem.W.codeHdIn K xa P = true) : h.get? P = some { cls := .none, data := .fields #[] } := by
  unfold PySem.W.codeHdIn at d
  split at d
  · rename_i dd vs sl hk
    simp only [Bool.and_eq_true] at d
    have d1 := d.1.1.1.1.1
    split at d1
    · rename_i P' hv
      have : P' = P := by simpa using d1
      subst this
      exact own xa P' _ fd _ dd vs sl l rfl hc hk hv
    · cases d1
  · cases d
end MZ
end
section
set_option maxRecDepth 100000
set_option maxHeartbeats 4000000
open PySem PySem.Spec PyProof.Rows L2 MX LamX
namespace K11
open MZ
def xcOf (C_MusicError C_PitchError C_ScoreError : Addr) : Nat → Value := fun k => match k with
  | 0 => .ref C_MusicError
  | 1 => .ref C_PitchError
  | _ => .ref C_ScoreError
theorem hd_mk {K : PySem.W.Frag} {mg : Str → Option Value} {h : Heap} {G : Gb} {f__law_halves : Addr} {oc__law_halves kV__law_halves doc__law_halves pm__law_halves cd__law_halves ct__law_halves : Value} {od__law_halves an__law_halves : Option Addr} {sl__law_halves : Array (Option Value)}
  {f__law_notes : Addr} {oc__law_notes kV__law_notes doc__law_notes pm__law_notes cd__law_notes ct__law_notes : Value} {od__law_notes an__law_notes : Option Addr} {sl__law_notes : Array (Option Value)}
  {f__law_roll : Addr} {oc__law_roll kV__law_roll doc__law_roll pm__law_roll cd__law_roll ct__law_roll : Value} {od__law_roll an__law_roll : Option Addr} {sl__law_roll : Array (Option Value)}
  {f__law_tone : Addr} {oc__law_tone kV__law_tone doc__law_tone pm__law_tone cd__law_tone ct__law_tone : Value} {od__law_tone an__law_tone : Option Addr} {sl__law_tone : Array (Option Value)}
  {f_form_letters : Addr} {oc_form_letters kV_form_letters doc_form_letters pm_form_letters cd_form_letters ct_form_letters : Value} {od_form_letters an_form_letters : Option Addr} {sl_form_letters : Array (Option Value)}
  {f_half_steps : Addr} {oc_half_steps kV_half_steps doc_half_steps pm_half_steps cd_half_steps ct_half_steps : Value} {od_half_steps an_half_steps : Option Addr} {sl_half_steps : Array (Option Value)}
  {f_is_canon : Addr} {oc_is_canon kV_is_canon doc_is_canon pm_is_canon cd_is_canon ct_is_canon : Value} {od_is_canon an_is_canon : Option Addr} {sl_is_canon : Array (Option Value)}
  {f_longest_again : Addr} {oc_longest_again kV_longest_again doc_longest_again pm_longest_again cd_longest_again ct_longest_again : Value} {od_longest_again an_longest_again : Option Addr} {sl_longest_again : Array (Option Value)}
  {f_moved_by : Addr} {oc_moved_by kV_moved_by doc_moved_by pm_moved_by cd_moved_by ct_moved_by : Value} {od_moved_by an_moved_by : Option Addr} {sl_moved_by : Array (Option Value)}
  {f_moved_shape : Addr} {oc_moved_shape kV_moved_shape doc_moved_shape pm_moved_shape cd_moved_shape ct_moved_shape : Value} {od_moved_shape an_moved_shape : Option Addr} {sl_moved_shape : Array (Option Value)}
  {f_pitch : Addr} {oc_pitch kV_pitch doc_pitch pm_pitch cd_pitch ct_pitch : Value} {od_pitch an_pitch : Option Addr} {sl_pitch : Array (Option Value)}
  {f_place_in : Addr} {oc_place_in kV_place_in doc_place_in pm_place_in cd_place_in ct_place_in : Value} {od_place_in an_place_in : Option Addr} {sl_place_in : Array (Option Value)}
  {f_places_of : Addr} {oc_places_of kV_places_of doc_places_of pm_places_of cd_places_of ct_places_of : Value} {od_places_of an_places_of : Option Addr} {sl_places_of : Array (Option Value)}
  {f_shape_of : Addr} {oc_shape_of kV_shape_of doc_shape_of pm_shape_of cd_shape_of ct_shape_of : Value} {od_shape_of an_shape_of : Option Addr} {sl_shape_of : Array (Option Value)}
  {f__law_dice : Addr} {oc__law_dice kV__law_dice doc__law_dice pm__law_dice cd__law_dice ct__law_dice : Value} {od__law_dice an__law_dice : Option Addr} {sl__law_dice : Array (Option Value)}
  {f__law_rounds : Addr} {oc__law_rounds kV__law_rounds doc__law_rounds pm__law_rounds cd__law_rounds ct__law_rounds : Value} {od__law_rounds an__law_rounds : Option Addr} {sl__law_rounds : Array (Option Value)}
  {f__law_told : Addr} {oc__law_told kV__law_told doc__law_told pm__law_told cd__law_told ct__law_told : Value} {od__law_told an__law_told : Option Addr} {sl__law_told : Array (Option Value)}
  {f_law : Addr} {oc_law kV_law doc_law pm_law cd_law ct_law : Value} {od_law an_law : Option Addr} {sl_law : Array (Option Value)}
  {x_moved_shape p_moved_shape : Addr}
  {x_places_of p_places_of : Addr}
  {x_law p_law : Addr}
  {u_MOST_TONES : Value}
  {u_STEPS : Value}
  {C_MusicError : Addr}
  {C_PitchError : Addr}
  {C_ScoreError : Addr} (X : K.In h) (Gn : h.Ns mainGlobals mg) (a__law_halves : PySem.W.nsIn K mainGlobals "_law_halves" = some (some (.ref f__law_halves)))
  (l__law_halves : K.lookup f__law_halves = some ⟨oc__law_halves, od__law_halves, .func (PySem.W.fnOf "_law_halves" "_law_halves" (defArgs (topS 24)) (defBody (topS 24)) (defScope (topS 24)) .none kV__law_halves doc__law_halves pm__law_halves an__law_halves cd__law_halves ct__law_halves), sl__law_halves⟩)
  (c__law_halves : PySem.W.codeIn K cd__law_halves "_law_halves" = true)
  (k__law_halves : PySem.W.keepIn K (.ref f__law_halves) = true)
  (a__law_notes : PySem.W.nsIn K mainGlobals "_law_notes" = some (some (.ref f__law_notes)))
  (l__law_notes : K.lookup f__law_notes = some ⟨oc__law_notes, od__law_notes, .func (PySem.W.fnOf "_law_notes" "_law_notes" (defArgs (topS 25)) (defBody (topS 25)) (defScope (topS 25)) .none kV__law_notes doc__law_notes pm__law_notes an__law_notes cd__law_notes ct__law_notes), sl__law_notes⟩)
  (c__law_notes : PySem.W.codeIn K cd__law_notes "_law_notes" = true)
  (k__law_notes : PySem.W.keepIn K (.ref f__law_notes) = true)
  (a__law_roll : PySem.W.nsIn K mainGlobals "_law_roll" = some (some (.ref f__law_roll)))
  (l__law_roll : K.lookup f__law_roll = some ⟨oc__law_roll, od__law_roll, .func (PySem.W.fnOf "_law_roll" "_law_roll" (defArgs (topS 20)) (defBody (topS 20)) (defScope (topS 20)) .none kV__law_roll doc__law_roll pm__law_roll an__law_roll cd__law_roll ct__law_roll), sl__law_roll⟩)
  (c__law_roll : PySem.W.codeIn K cd__law_roll "_law_roll" = true)
  (k__law_roll : PySem.W.keepIn K (.ref f__law_roll) = true)
  (a__law_tone : PySem.W.nsIn K mainGlobals "_law_tone" = some (some (.ref f__law_tone)))
  (l__law_tone : K.lookup f__law_tone = some ⟨oc__law_tone, od__law_tone, .func (PySem.W.fnOf "_law_tone" "_law_tone" (defArgs (topS 23)) (defBody (topS 23)) (defScope (topS 23)) .none kV__law_tone doc__law_tone pm__law_tone an__law_tone cd__law_tone ct__law_tone), sl__law_tone⟩)
  (c__law_tone : PySem.W.codeIn K cd__law_tone "_law_tone" = true)
  (k__law_tone : PySem.W.keepIn K (.ref f__law_tone) = true)
  (a_form_letters : PySem.W.nsIn K mainGlobals "form_letters" = some (some (.ref f_form_letters)))
  (l_form_letters : K.lookup f_form_letters = some ⟨oc_form_letters, od_form_letters, .func (PySem.W.fnOf "form_letters" "form_letters" (defArgs (topS 15)) (defBody (topS 15)) (defScope (topS 15)) .none kV_form_letters doc_form_letters pm_form_letters an_form_letters cd_form_letters ct_form_letters), sl_form_letters⟩)
  (c_form_letters : PySem.W.codeIn K cd_form_letters "form_letters" = true)
  (k_form_letters : PySem.W.keepIn K (.ref f_form_letters) = true)
  (a_half_steps : PySem.W.nsIn K mainGlobals "half_steps" = some (some (.ref f_half_steps)))
  (l_half_steps : K.lookup f_half_steps = some ⟨oc_half_steps, od_half_steps, .func (PySem.W.fnOf "half_steps" "half_steps" (defArgs (topS 7)) (defBody (topS 7)) (defScope (topS 7)) .none kV_half_steps doc_half_steps pm_half_steps an_half_steps cd_half_steps ct_half_steps), sl_half_steps⟩)
  (c_half_steps : PySem.W.codeIn K cd_half_steps "half_steps" = true)
  (k_half_steps : PySem.W.keepIn K (.ref f_half_steps) = true)
  (a_is_canon : PySem.W.nsIn K mainGlobals "is_canon" = some (some (.ref f_is_canon)))
  (l_is_canon : K.lookup f_is_canon = some ⟨oc_is_canon, od_is_canon, .func (PySem.W.fnOf "is_canon" "is_canon" (defArgs (topS 17)) (defBody (topS 17)) (defScope (topS 17)) .none kV_is_canon doc_is_canon pm_is_canon an_is_canon cd_is_canon ct_is_canon), sl_is_canon⟩)
  (c_is_canon : PySem.W.codeIn K cd_is_canon "is_canon" = true)
  (k_is_canon : PySem.W.keepIn K (.ref f_is_canon) = true)
  (a_longest_again : PySem.W.nsIn K mainGlobals "longest_again" = some (some (.ref f_longest_again)))
  (l_longest_again : K.lookup f_longest_again = some ⟨oc_longest_again, od_longest_again, .func (PySem.W.fnOf "longest_again" "longest_again" (defArgs (topS 13)) (defBody (topS 13)) (defScope (topS 13)) .none kV_longest_again doc_longest_again pm_longest_again an_longest_again cd_longest_again ct_longest_again), sl_longest_again⟩)
  (c_longest_again : PySem.W.codeIn K cd_longest_again "longest_again" = true)
  (k_longest_again : PySem.W.keepIn K (.ref f_longest_again) = true)
  (a_moved_by : PySem.W.nsIn K mainGlobals "moved_by" = some (some (.ref f_moved_by)))
  (l_moved_by : K.lookup f_moved_by = some ⟨oc_moved_by, od_moved_by, .func (PySem.W.fnOf "moved_by" "moved_by" (defArgs (topS 9)) (defBody (topS 9)) (defScope (topS 9)) .none kV_moved_by doc_moved_by pm_moved_by an_moved_by cd_moved_by ct_moved_by), sl_moved_by⟩)
  (c_moved_by : PySem.W.codeIn K cd_moved_by "moved_by" = true)
  (k_moved_by : PySem.W.keepIn K (.ref f_moved_by) = true)
  (a_moved_shape : PySem.W.nsIn K mainGlobals "moved_shape" = some (some (.ref f_moved_shape)))
  (l_moved_shape : K.lookup f_moved_shape = some ⟨oc_moved_shape, od_moved_shape, .func (PySem.W.fnOf "moved_shape" "moved_shape" (defArgs (topS 16)) (defBody (topS 16)) (defScope (topS 16)) .none kV_moved_shape doc_moved_shape pm_moved_shape an_moved_shape cd_moved_shape ct_moved_shape), sl_moved_shape⟩)
  (c_moved_shape : PySem.W.codeIn K cd_moved_shape "moved_shape" = true)
  (k_moved_shape : PySem.W.keepIn K (.ref f_moved_shape) = true)
  (a_pitch : PySem.W.nsIn K mainGlobals "pitch" = some (some (.ref f_pitch)))
  (l_pitch : K.lookup f_pitch = some ⟨oc_pitch, od_pitch, .func (PySem.W.fnOf "pitch" "pitch" (defArgs (topS 6)) (defBody (topS 6)) (defScope (topS 6)) .none kV_pitch doc_pitch pm_pitch an_pitch cd_pitch ct_pitch), sl_pitch⟩)
  (c_pitch : PySem.W.codeIn K cd_pitch "pitch" = true)
  (k_pitch : PySem.W.keepIn K (.ref f_pitch) = true)
  (a_place_in : PySem.W.nsIn K mainGlobals "place_in" = some (some (.ref f_place_in)))
  (l_place_in : K.lookup f_place_in = some ⟨oc_place_in, od_place_in, .func (PySem.W.fnOf "place_in" "place_in" (defArgs (topS 8)) (defBody (topS 8)) (defScope (topS 8)) .none kV_place_in doc_place_in pm_place_in an_place_in cd_place_in ct_place_in), sl_place_in⟩)
  (c_place_in : PySem.W.codeIn K cd_place_in "place_in" = true)
  (k_place_in : PySem.W.keepIn K (.ref f_place_in) = true)
  (a_places_of : PySem.W.nsIn K mainGlobals "places_of" = some (some (.ref f_places_of)))
  (l_places_of : K.lookup f_places_of = some ⟨oc_places_of, od_places_of, .func (PySem.W.fnOf "places_of" "places_of" (defArgs (topS 14)) (defBody (topS 14)) (defScope (topS 14)) .none kV_places_of doc_places_of pm_places_of an_places_of cd_places_of ct_places_of), sl_places_of⟩)
  (c_places_of : PySem.W.codeIn K cd_places_of "places_of" = true)
  (k_places_of : PySem.W.keepIn K (.ref f_places_of) = true)
  (a_shape_of : PySem.W.nsIn K mainGlobals "shape_of" = some (some (.ref f_shape_of)))
  (l_shape_of : K.lookup f_shape_of = some ⟨oc_shape_of, od_shape_of, .func (PySem.W.fnOf "shape_of" "shape_of" (defArgs (topS 12)) (defBody (topS 12)) (defScope (topS 12)) .none kV_shape_of doc_shape_of pm_shape_of an_shape_of cd_shape_of ct_shape_of), sl_shape_of⟩)
  (c_shape_of : PySem.W.codeIn K cd_shape_of "shape_of" = true)
  (k_shape_of : PySem.W.keepIn K (.ref f_shape_of) = true)
  (a__law_dice : PySem.W.nsIn K mainGlobals "_law_dice" = some (some (.ref f__law_dice)))
  (l__law_dice : K.lookup f__law_dice = some ⟨oc__law_dice, od__law_dice, .func (PySem.W.fnOf "_law_dice" "_law_dice" (defArgs (topS 19)) (defBody (topS 19)) (defScope (topS 19)) .none kV__law_dice doc__law_dice pm__law_dice an__law_dice cd__law_dice ct__law_dice), sl__law_dice⟩)
  (c__law_dice : PySem.W.codeIn K cd__law_dice "_law_dice" = true)
  (k__law_dice : PySem.W.keepIn K (.ref f__law_dice) = true)
  (a__law_rounds : PySem.W.nsIn K mainGlobals "_law_rounds" = some (some (.ref f__law_rounds)))
  (l__law_rounds : K.lookup f__law_rounds = some ⟨oc__law_rounds, od__law_rounds, .func (PySem.W.fnOf "_law_rounds" "_law_rounds" (defArgs (topS 21)) (defBody (topS 21)) (defScope (topS 21)) .none kV__law_rounds doc__law_rounds pm__law_rounds an__law_rounds cd__law_rounds ct__law_rounds), sl__law_rounds⟩)
  (c__law_rounds : PySem.W.codeIn K cd__law_rounds "_law_rounds" = true)
  (k__law_rounds : PySem.W.keepIn K (.ref f__law_rounds) = true)
  (a__law_told : PySem.W.nsIn K mainGlobals "_law_told" = some (some (.ref f__law_told)))
  (l__law_told : K.lookup f__law_told = some ⟨oc__law_told, od__law_told, .func (PySem.W.fnOf "_law_told" "_law_told" (defArgs (topS 22)) (defBody (topS 22)) (defScope (topS 22)) .none kV__law_told doc__law_told pm__law_told an__law_told cd__law_told ct__law_told), sl__law_told⟩)
  (c__law_told : PySem.W.codeIn K cd__law_told "_law_told" = true)
  (k__law_told : PySem.W.keepIn K (.ref f__law_told) = true)
  (a_law : PySem.W.nsIn K mainGlobals "law" = some (some (.ref f_law)))
  (l_law : K.lookup f_law = some ⟨oc_law, od_law, .func (PySem.W.fnOf "law" "law" (defArgs (topS 26)) (defBody (topS 26)) (defScope (topS 26)) .none kV_law doc_law pm_law an_law cd_law ct_law), sl_law⟩)
  (c_law : PySem.W.codeIn K cd_law "law" = true)
  (k_law : PySem.W.keepIn K (.ref f_law) = true)
  (e_moved_shape : cd_moved_shape = .ref x_moved_shape)
  (d_moved_shape : PySem.W.codeHdIn K x_moved_shape p_moved_shape = true)
  (n_moved_shape : K.lookup p_moved_shape = none)
  (e_places_of : cd_places_of = .ref x_places_of)
  (d_places_of : PySem.W.codeHdIn K x_places_of p_places_of = true)
  (n_places_of : K.lookup p_places_of = none)
  (e_law : cd_law = .ref x_law)
  (d_law : PySem.W.codeHdIn K x_law p_law = true)
  (n_law : K.lookup p_law = none)
  (a_MOST_TONES : PySem.W.nsIn K mainGlobals "MOST_TONES" = some (some u_MOST_TONES))
  (r_MOST_TONES : repK K 9 c_MOST_TONES u_MOST_TONES = true)
  (a_STEPS : PySem.W.nsIn K mainGlobals "STEPS" = some (some u_STEPS))
  (r_STEPS : repK K 9 c_STEPS u_STEPS = true)
  (a_MusicError : PySem.W.nsIn K mainGlobals "MusicError" = some (some (.ref C_MusicError)))
  (xF_MusicError : PySem.W.excIn K C_MusicError [.type "ValueError", .type "Exception", .type "BaseException", .type "object"] "ValueError.__new__" = true)
  (kF_MusicError : PySem.W.keepIn K (.ref C_MusicError) = true)
  (bF_MusicError : PySem.W.subIn K (.ref C_MusicError) (.type "BaseException") = some true)
  (tF_MusicError : PySem.W.typeIn K (.ref C_MusicError) = some (.type "type"))
  (sF_MusicError : PySem.W.subIn K (.ref C_MusicError) (.type "StopIteration") = some false)
  (mF_MusicError : PySem.W.exmOne K (.ref C_MusicError) (.ref C_MusicError) = some true)
  (a_PitchError : PySem.W.nsIn K mainGlobals "PitchError" = some (some (.ref C_PitchError)))
  (xF_PitchError : PySem.W.excIn K C_PitchError [.type "ValueError", .type "Exception", .type "BaseException", .type "object"] "ValueError.__new__" = true)
  (kF_PitchError : PySem.W.keepIn K (.ref C_PitchError) = true)
  (bF_PitchError : PySem.W.subIn K (.ref C_PitchError) (.type "BaseException") = some true)
  (tF_PitchError : PySem.W.typeIn K (.ref C_PitchError) = some (.type "type"))
  (sF_PitchError : PySem.W.subIn K (.ref C_PitchError) (.type "StopIteration") = some false)
  (mF_PitchError : PySem.W.exmOne K (.ref C_PitchError) (.ref C_MusicError) = some true)
  (a_ScoreError : PySem.W.nsIn K mainGlobals "ScoreError" = some (some (.ref C_ScoreError)))
  (xF_ScoreError : PySem.W.excIn K C_ScoreError [.type "ValueError", .type "Exception", .type "BaseException", .type "object"] "ValueError.__new__" = true)
  (kF_ScoreError : PySem.W.keepIn K (.ref C_ScoreError) = true)
  (bF_ScoreError : PySem.W.subIn K (.ref C_ScoreError) (.type "BaseException") = some true)
  (tF_ScoreError : PySem.W.typeIn K (.ref C_ScoreError) = some (.type "type"))
  (sF_ScoreError : PySem.W.subIn K (.ref C_ScoreError) (.type "StopIteration") = some false)
  (mF_ScoreError : PySem.W.exmOne K (.ref C_ScoreError) (.ref C_MusicError) = some true)
  (z_abs : PySem.W.nsIn K mainGlobals "abs" = some none)
  (z_enumerate : PySem.W.nsIn K mainGlobals "enumerate" = some none)
  (z_int : PySem.W.nsIn K mainGlobals "int" = some none)
  (z_len : PySem.W.nsIn K mainGlobals "len" = some none)
  (z_list : PySem.W.nsIn K mainGlobals "list" = some none)
  (z_max : PySem.W.nsIn K mainGlobals "max" = some none)
  (z_min : PySem.W.nsIn K mainGlobals "min" = some none)
  (z_range : PySem.W.nsIn K mainGlobals "range" = some none)
  (z_tuple : PySem.W.nsIn K mainGlobals "tuple" = some none)
  (z_zip : PySem.W.nsIn K mainGlobals "zip" = some none)
  (ne_moved_shape : p_moved_shape ≠ p_law)
  (ne_places_of : p_places_of ≠ p_law)
  (hK : G.K = K) (hm : G.mg = mg) (hx : G.xc = xcOf C_MusicError C_PitchError C_ScoreError) (hT : G.T = ([(x_moved_shape, p_moved_shape, none), (x_places_of, p_places_of, none), (x_law, p_law, some "law.<locals>.<lambda>")] : List (Addr × Addr × Option Str)).map fun p => p.2) (tb : ∀ p ∈ ([(x_moved_shape, p_moved_shape, none), (x_places_of, p_places_of, none), (x_law, p_law, some "law.<locals>.<lambda>")] : List (Addr × Addr × Option Str)), LamX.TabB G.base mg p.1 p.2.1) : Hd G := by
  subst hK hm e_moved_shape e_places_of e_law
  have tab : ∀ xa P q, (xa, P, q) ∈ ([(x_moved_shape, p_moved_shape, none), (x_places_of, p_places_of, none), (x_law, p_law, some "law.<locals>.<lambda>")] : List (Addr × Addr × Option Str)) → (∀ p ∈ ([(x_moved_shape, p_moved_shape, none), (x_places_of, p_places_of, none), (x_law, p_law, some "law.<locals>.<lambda>")] : List (Addr × Addr × Option Str)), p.2.1 = P → p.2.2 = q) → TabIs G xa P q := fun xa P q m u => ⟨⟨(tb _ m).code, (tb _ m).bm, (tb _ m).gP⟩, by rw [hT]; exact List.mem_map.mpr ⟨_, m, rfl⟩, fun p mp e => by rw [hT] at mp; obtain ⟨p2, m2, rfl⟩ := List.mem_map.mp mp; exact u p2 m2 e⟩
  exact {
    b_abs := PySem.W.mg_none_of X Gn z_abs
    b_enumerate := PySem.W.mg_none_of X Gn z_enumerate
    b_int := PySem.W.mg_none_of X Gn z_int
    b_len := PySem.W.mg_none_of X Gn z_len
    b_list := PySem.W.mg_none_of X Gn z_list
    b_max := PySem.W.mg_none_of X Gn z_max
    b_min := PySem.W.mg_none_of X Gn z_min
    b_range := PySem.W.mg_none_of X Gn z_range
    b_tuple := PySem.W.mg_none_of X Gn z_tuple
    b_zip := PySem.W.mg_none_of X Gn z_zip
    con_MOST_TONES := con_mk X Gn a_MOST_TONES r_MOST_TONES
    con_STEPS := con_mk X Gn a_STEPS r_STEPS
    x_PitchError := exc_mk X Gn a_PitchError PySem.F.excBase_ValueError xF_PitchError kF_PitchError bF_PitchError tF_PitchError (by rw [hx]; rfl)
    x_ScoreError := exc_mk X Gn a_ScoreError PySem.F.excBase_ValueError xF_ScoreError kF_ScoreError bF_ScoreError tF_ScoreError (by rw [hx]; rfl)
    nostop := fun k => by rw [hx]; unfold xcOf; split <;> first | exact sF_MusicError | exact sF_PitchError | exact sF_ScoreError
    t__law_halves := ⟨_, def_mk X Gn a__law_halves l__law_halves c__law_halves k__law_halves⟩
    t__law_notes := ⟨_, def_mk X Gn a__law_notes l__law_notes c__law_notes k__law_notes⟩
    t__law_roll := ⟨_, def_mk X Gn a__law_roll l__law_roll c__law_roll k__law_roll⟩
    t__law_tone := ⟨_, def_mk X Gn a__law_tone l__law_tone c__law_tone k__law_tone⟩
    t_form_letters := ⟨_, def_mk X Gn a_form_letters l_form_letters c_form_letters k_form_letters⟩
    t_half_steps := ⟨_, def_mk X Gn a_half_steps l_half_steps c_half_steps k_half_steps⟩
    t_is_canon := ⟨_, def_mk X Gn a_is_canon l_is_canon c_is_canon k_is_canon⟩
    t_longest_again := ⟨_, def_mk X Gn a_longest_again l_longest_again c_longest_again k_longest_again⟩
    t_moved_by := ⟨_, def_mk X Gn a_moved_by l_moved_by c_moved_by k_moved_by⟩
    t_moved_shape := ⟨x_moved_shape, p_moved_shape, def_mk X Gn a_moved_shape l_moved_shape c_moved_shape k_moved_shape, tab _ _ _ (by simp) (by simp [ne_moved_shape, Ne.symm ne_moved_shape])⟩
    t_pitch := ⟨_, def_mk X Gn a_pitch l_pitch c_pitch k_pitch⟩
    t_place_in := ⟨_, def_mk X Gn a_place_in l_place_in c_place_in k_place_in⟩
    t_places_of := ⟨x_places_of, p_places_of, def_mk X Gn a_places_of l_places_of c_places_of k_places_of, tab _ _ _ (by simp) (by simp [ne_places_of, Ne.symm ne_places_of])⟩
    t_shape_of := ⟨_, def_mk X Gn a_shape_of l_shape_of c_shape_of k_shape_of⟩ }
end K11
end
section
set_option maxRecDepth 100000
set_option maxHeartbeats 2000000
namespace MZ
open PySem PySem.Spec PyProof.Rows L2 LamX MX
/-- the dice's data: told alike at any heap -/
theorem diceL_any {B : RB} (c : Int) (H H' : Hp) (xs : List V) (h : RepL B H (diceL c) xs) : RepL B H' (diceL c) xs := by
  unfold diceL at h ⊢
  split at h <;> rename_i z
  · rw [if_pos z]
    obtain ⟨v, r, rfl, h1, h⟩ := h.uncons
    obtain ⟨w, r, rfl, h2, h⟩ := h.uncons
    obtain ⟨u, r, rfl, h3, h⟩ := h.uncons
    simp only [Rep] at h1 h2 h3
    rw [RepL.nil.mp h, h1, h2, h3]
    exact RepL.cons rep_int (RepL.cons rep_int (RepL.cons rep_int (RepL.nil.mpr rfl)))
  · rw [if_neg z]
    obtain ⟨v, r, rfl, h1, h⟩ := h.uncons
    obtain ⟨w, r, rfl, h2, h⟩ := h.uncons
    obtain ⟨u, r, rfl, h3, h⟩ := h.uncons
    simp only [Rep] at h1 h2 h3
    rw [RepL.nil.mp h, h1, h2, h3]
    exact RepL.cons rep_int (RepL.cons rep_int (RepL.cons rep_int (RepL.nil.mpr rfl)))
def diceG (ds : List D) : Option (List D) := match ds with
  | [.int c] => some (diceL c)
  | _ => none
end MZ
end
section
set_option maxRecDepth 100000
set_option maxHeartbeats 4000000
open PySem PySem.Spec PyProof.Rows L2 MX LamX
namespace K11
open MZ
theorem dice_run (cf : FnI) (ds : List D) (l : List D) (hl : ds.length = fd__law_dice.np) (h : diceG ds = some l) : ∃ ρ, evalSL cf (lamsF cf fd__law_dice) fd__law_dice.body (entry fd__law_dice ds) = .ret (.lst l) ρ := by
  unfold diceG at h
  split at h <;> cases h
  rename_i c
  unfold diceL
  by_cases z : -10 < c ∧ c < 10
  · rw [if_pos z]
    refine ⟨[.pu (.int c)], ?_⟩
    have z1 : -10 < c := z.1
    have z2 : c < 10 := z.2
    simp [fd__law_dice, b__law_dice, entry, evalSL, evalS, evalE, evalX, MZ.fill, Out.bind, Out.rs, Rs.seq, lift, primR, subR, ltR, ltD, absR, geR, addR, modR, powR, toIntR, truD, line, z1, z2, big]
  · rw [if_neg z]
    refine ⟨[.pu (.int c)], ?_⟩
    by_cases z1 : -10 < c
    · have z2 : ¬ c < 10 := fun y => z ⟨z1, y⟩
      simp [fd__law_dice, b__law_dice, entry, evalSL, evalS, evalE, evalX, MZ.fill, Out.bind, Out.rs, Rs.seq, lift, primR, subR, ltR, ltD, absR, geR, addR, modR, powR, toIntR, truD, line, z1, z2, big]
    · simp [fd__law_dice, b__law_dice, entry, evalSL, evalS, evalE, evalX, MZ.fill, Out.bind, Out.rs, Rs.seq, lift, primR, subR, ltR, ltD, absR, geR, addR, modR, powR, toIntR, truD, line, z1, big]
end K11
end
section
set_option maxRecDepth 100000
set_option maxHeartbeats 4000000
open PySem PySem.Spec PyProof.Rows L2 MX LamX
namespace K11
open MZ
theorem sc_law : FnScope N_law ["script"] (defScope (topS 26)) := ⟨rfl, rfl, rfl, by decide +kernel, rfl, by decide +kernel, by decide +kernel⟩
theorem bd_law : BindsD "law" (topS 26) ["script"] := fun _ _ _ _ _ _ us hl => match us, hl with | [_], _ => rfl
theorem sc__law_dice : FnScope N__law_dice ["cell"] (defScope (topS 19)) := ⟨rfl, rfl, rfl, by decide +kernel, rfl, by decide +kernel, by decide +kernel⟩
theorem bd__law_dice : BindsD "_law_dice" (topS 19) ["cell"] := fun _ _ _ _ _ _ us hl => match us, hl with | [_], _ => rfl
theorem sc__law_rounds : FnScope N__law_rounds ["script", "most"] (defScope (topS 21)) := ⟨rfl, rfl, rfl, by decide +kernel, rfl, by decide +kernel, by decide +kernel⟩
theorem bd__law_rounds : BindsD "_law_rounds" (topS 21) ["script", "most"] := fun _ _ _ _ _ _ us hl => match us, hl with | [_, _], _ => rfl
theorem sc__law_told : FnScope N__law_told ["what"] (defScope (topS 22)) := ⟨rfl, rfl, rfl, by decide +kernel, rfl, by decide +kernel, by decide +kernel⟩
theorem bd__law_told : BindsD "_law_told" (topS 22) ["what"] := fun _ _ _ _ _ _ us hl => match us, hl with | [_], _ => rfl
theorem lamName : (("law" : Str) ++ ".<locals>.") ++ "<lambda>" = "law.<locals>.<lambda>" := by decide +kernel
theorem end_mk {w : World} {K : PySem.W.Frag} {mg : Str → Option Value} {h : Heap} {fa : Addr} {n : Nat} {f__law_halves : Addr} {oc__law_halves kV__law_halves doc__law_halves pm__law_halves cd__law_halves ct__law_halves : Value} {od__law_halves an__law_halves : Option Addr} {sl__law_halves : Array (Option Value)}
  {f__law_notes : Addr} {oc__law_notes kV__law_notes doc__law_notes pm__law_notes cd__law_notes ct__law_notes : Value} {od__law_notes an__law_notes : Option Addr} {sl__law_notes : Array (Option Value)}
  {f__law_roll : Addr} {oc__law_roll kV__law_roll doc__law_roll pm__law_roll cd__law_roll ct__law_roll : Value} {od__law_roll an__law_roll : Option Addr} {sl__law_roll : Array (Option Value)}
  {f__law_tone : Addr} {oc__law_tone kV__law_tone doc__law_tone pm__law_tone cd__law_tone ct__law_tone : Value} {od__law_tone an__law_tone : Option Addr} {sl__law_tone : Array (Option Value)}
  {f_form_letters : Addr} {oc_form_letters kV_form_letters doc_form_letters pm_form_letters cd_form_letters ct_form_letters : Value} {od_form_letters an_form_letters : Option Addr} {sl_form_letters : Array (Option Value)}
  {f_half_steps : Addr} {oc_half_steps kV_half_steps doc_half_steps pm_half_steps cd_half_steps ct_half_steps : Value} {od_half_steps an_half_steps : Option Addr} {sl_half_steps : Array (Option Value)}
  {f_is_canon : Addr} {oc_is_canon kV_is_canon doc_is_canon pm_is_canon cd_is_canon ct_is_canon : Value} {od_is_canon an_is_canon : Option Addr} {sl_is_canon : Array (Option Value)}
  {f_longest_again : Addr} {oc_longest_again kV_longest_again doc_longest_again pm_longest_again cd_longest_again ct_longest_again : Value} {od_longest_again an_longest_again : Option Addr} {sl_longest_again : Array (Option Value)}
  {f_moved_by : Addr} {oc_moved_by kV_moved_by doc_moved_by pm_moved_by cd_moved_by ct_moved_by : Value} {od_moved_by an_moved_by : Option Addr} {sl_moved_by : Array (Option Value)}
  {f_moved_shape : Addr} {oc_moved_shape kV_moved_shape doc_moved_shape pm_moved_shape cd_moved_shape ct_moved_shape : Value} {od_moved_shape an_moved_shape : Option Addr} {sl_moved_shape : Array (Option Value)}
  {f_pitch : Addr} {oc_pitch kV_pitch doc_pitch pm_pitch cd_pitch ct_pitch : Value} {od_pitch an_pitch : Option Addr} {sl_pitch : Array (Option Value)}
  {f_place_in : Addr} {oc_place_in kV_place_in doc_place_in pm_place_in cd_place_in ct_place_in : Value} {od_place_in an_place_in : Option Addr} {sl_place_in : Array (Option Value)}
  {f_places_of : Addr} {oc_places_of kV_places_of doc_places_of pm_places_of cd_places_of ct_places_of : Value} {od_places_of an_places_of : Option Addr} {sl_places_of : Array (Option Value)}
  {f_shape_of : Addr} {oc_shape_of kV_shape_of doc_shape_of pm_shape_of cd_shape_of ct_shape_of : Value} {od_shape_of an_shape_of : Option Addr} {sl_shape_of : Array (Option Value)}
  {f__law_dice : Addr} {oc__law_dice kV__law_dice doc__law_dice pm__law_dice cd__law_dice ct__law_dice : Value} {od__law_dice an__law_dice : Option Addr} {sl__law_dice : Array (Option Value)}
  {f__law_rounds : Addr} {oc__law_rounds kV__law_rounds doc__law_rounds pm__law_rounds cd__law_rounds ct__law_rounds : Value} {od__law_rounds an__law_rounds : Option Addr} {sl__law_rounds : Array (Option Value)}
  {f__law_told : Addr} {oc__law_told kV__law_told doc__law_told pm__law_told cd__law_told ct__law_told : Value} {od__law_told an__law_told : Option Addr} {sl__law_told : Array (Option Value)}
  {f_law : Addr} {oc_law kV_law doc_law pm_law cd_law ct_law : Value} {od_law an_law : Option Addr} {sl_law : Array (Option Value)}
  {x_moved_shape p_moved_shape : Addr}
  {x_places_of p_places_of : Addr}
  {x_law p_law : Addr}
  {u_MOST_TONES : Value}
  {u_STEPS : Value}
  {C_MusicError : Addr}
  {C_PitchError : Addr}
  {C_ScoreError : Addr} (X : K.In h) (Gn : h.Ns mainGlobals mg) (hfa : mg "law" = some (.ref fa)) (o_moved_shape : OwnTab K f_moved_shape h) (o_places_of : OwnTab K f_places_of h) (o_law : OwnTab K f_law h) (a__law_halves : PySem.W.nsIn K mainGlobals "_law_halves" = some (some (.ref f__law_halves)))
  (l__law_halves : K.lookup f__law_halves = some ⟨oc__law_halves, od__law_halves, .func (PySem.W.fnOf "_law_halves" "_law_halves" (defArgs (topS 24)) (defBody (topS 24)) (defScope (topS 24)) .none kV__law_halves doc__law_halves pm__law_halves an__law_halves cd__law_halves ct__law_halves), sl__law_halves⟩)
  (c__law_halves : PySem.W.codeIn K cd__law_halves "_law_halves" = true)
  (k__law_halves : PySem.W.keepIn K (.ref f__law_halves) = true)
  (a__law_notes : PySem.W.nsIn K mainGlobals "_law_notes" = some (some (.ref f__law_notes)))
  (l__law_notes : K.lookup f__law_notes = some ⟨oc__law_notes, od__law_notes, .func (PySem.W.fnOf "_law_notes" "_law_notes" (defArgs (topS 25)) (defBody (topS 25)) (defScope (topS 25)) .none kV__law_notes doc__law_notes pm__law_notes an__law_notes cd__law_notes ct__law_notes), sl__law_notes⟩)
  (c__law_notes : PySem.W.codeIn K cd__law_notes "_law_notes" = true)
  (k__law_notes : PySem.W.keepIn K (.ref f__law_notes) = true)
  (a__law_roll : PySem.W.nsIn K mainGlobals "_law_roll" = some (some (.ref f__law_roll)))
  (l__law_roll : K.lookup f__law_roll = some ⟨oc__law_roll, od__law_roll, .func (PySem.W.fnOf "_law_roll" "_law_roll" (defArgs (topS 20)) (defBody (topS 20)) (defScope (topS 20)) .none kV__law_roll doc__law_roll pm__law_roll an__law_roll cd__law_roll ct__law_roll), sl__law_roll⟩)
  (c__law_roll : PySem.W.codeIn K cd__law_roll "_law_roll" = true)
  (k__law_roll : PySem.W.keepIn K (.ref f__law_roll) = true)
  (a__law_tone : PySem.W.nsIn K mainGlobals "_law_tone" = some (some (.ref f__law_tone)))
  (l__law_tone : K.lookup f__law_tone = some ⟨oc__law_tone, od__law_tone, .func (PySem.W.fnOf "_law_tone" "_law_tone" (defArgs (topS 23)) (defBody (topS 23)) (defScope (topS 23)) .none kV__law_tone doc__law_tone pm__law_tone an__law_tone cd__law_tone ct__law_tone), sl__law_tone⟩)
  (c__law_tone : PySem.W.codeIn K cd__law_tone "_law_tone" = true)
  (k__law_tone : PySem.W.keepIn K (.ref f__law_tone) = true)
  (a_form_letters : PySem.W.nsIn K mainGlobals "form_letters" = some (some (.ref f_form_letters)))
  (l_form_letters : K.lookup f_form_letters = some ⟨oc_form_letters, od_form_letters, .func (PySem.W.fnOf "form_letters" "form_letters" (defArgs (topS 15)) (defBody (topS 15)) (defScope (topS 15)) .none kV_form_letters doc_form_letters pm_form_letters an_form_letters cd_form_letters ct_form_letters), sl_form_letters⟩)
  (c_form_letters : PySem.W.codeIn K cd_form_letters "form_letters" = true)
  (k_form_letters : PySem.W.keepIn K (.ref f_form_letters) = true)
  (a_half_steps : PySem.W.nsIn K mainGlobals "half_steps" = some (some (.ref f_half_steps)))
  (l_half_steps : K.lookup f_half_steps = some ⟨oc_half_steps, od_half_steps, .func (PySem.W.fnOf "half_steps" "half_steps" (defArgs (topS 7)) (defBody (topS 7)) (defScope (topS 7)) .none kV_half_steps doc_half_steps pm_half_steps an_half_steps cd_half_steps ct_half_steps), sl_half_steps⟩)
  (c_half_steps : PySem.W.codeIn K cd_half_steps "half_steps" = true)
  (k_half_steps : PySem.W.keepIn K (.ref f_half_steps) = true)
  (a_is_canon : PySem.W.nsIn K mainGlobals "is_canon" = some (some (.ref f_is_canon)))
  (l_is_canon : K.lookup f_is_canon = some ⟨oc_is_canon, od_is_canon, .func (PySem.W.fnOf "is_canon" "is_canon" (defArgs (topS 17)) (defBody (topS 17)) (defScope (topS 17)) .none kV_is_canon doc_is_canon pm_is_canon an_is_canon cd_is_canon ct_is_canon), sl_is_canon⟩)
  (c_is_canon : PySem.W.codeIn K cd_is_canon "is_canon" = true)
  (k_is_canon : PySem.W.keepIn K (.ref f_is_canon) = true)
  (a_longest_again : PySem.W.nsIn K mainGlobals "longest_again" = some (some (.ref f_longest_again)))
  (l_longest_again : K.lookup f_longest_again = some ⟨oc_longest_again, od_longest_again, .func (PySem.W.fnOf "longest_again" "longest_again" (defArgs (topS 13)) (defBody (topS 13)) (defScope (topS 13)) .none kV_longest_again doc_longest_again pm_longest_again an_longest_again cd_longest_again ct_longest_again), sl_longest_again⟩)
  (c_longest_again : PySem.W.codeIn K cd_longest_again "longest_again" = true)
  (k_longest_again : PySem.W.keepIn K (.ref f_longest_again) = true)
  (a_moved_by : PySem.W.nsIn K mainGlobals "moved_by" = some (some (.ref f_moved_by)))
  (l_moved_by : K.lookup f_moved_by = some ⟨oc_moved_by, od_moved_by, .func (PySem.W.fnOf "moved_by" "moved_by" (defArgs (topS 9)) (defBody (topS 9)) (defScope (topS 9)) .none kV_moved_by doc_moved_by pm_moved_by an_moved_by cd_moved_by ct_moved_by), sl_moved_by⟩)
  (c_moved_by : PySem.W.codeIn K cd_moved_by "moved_by" = true)
  (k_moved_by : PySem.W.keepIn K (.ref f_moved_by) = true)
  (a_moved_shape : PySem.W.nsIn K mainGlobals "moved_shape" = some (some (.ref f_moved_shape)))
  (l_moved_shape : K.lookup f_moved_shape = some ⟨oc_moved_shape, od_moved_shape, .func (PySem.W.fnOf "moved_shape" "moved_shape" (defArgs (topS 16)) (defBody (topS 16)) (defScope (topS 16)) .none kV_moved_shape doc_moved_shape pm_moved_shape an_moved_shape cd_moved_shape ct_moved_shape), sl_moved_shape⟩)
  (c_moved_shape : PySem.W.codeIn K cd_moved_shape "moved_shape" = true)
  (k_moved_shape : PySem.W.keepIn K (.ref f_moved_shape) = true)
  (a_pitch : PySem.W.nsIn K mainGlobals "pitch" = some (some (.ref f_pitch)))
  (l_pitch : K.lookup f_pitch = some ⟨oc_pitch, od_pitch, .func (PySem.W.fnOf "pitch" "pitch" (defArgs (topS 6)) (defBody (topS 6)) (defScope (topS 6)) .none kV_pitch doc_pitch pm_pitch an_pitch cd_pitch ct_pitch), sl_pitch⟩)
  (c_pitch : PySem.W.codeIn K cd_pitch "pitch" = true)
  (k_pitch : PySem.W.keepIn K (.ref f_pitch) = true)
  (a_place_in : PySem.W.nsIn K mainGlobals "place_in" = some (some (.ref f_place_in)))
  (l_place_in : K.lookup f_place_in = some ⟨oc_place_in, od_place_in, .func (PySem.W.fnOf "place_in" "place_in" (defArgs (topS 8)) (defBody (topS 8)) (defScope (topS 8)) .none kV_place_in doc_place_in pm_place_in an_place_in cd_place_in ct_place_in), sl_place_in⟩)
  (c_place_in : PySem.W.codeIn K cd_place_in "place_in" = true)
  (k_place_in : PySem.W.keepIn K (.ref f_place_in) = true)
  (a_places_of : PySem.W.nsIn K mainGlobals "places_of" = some (some (.ref f_places_of)))
  (l_places_of : K.lookup f_places_of = some ⟨oc_places_of, od_places_of, .func (PySem.W.fnOf "places_of" "places_of" (defArgs (topS 14)) (defBody (topS 14)) (defScope (topS 14)) .none kV_places_of doc_places_of pm_places_of an_places_of cd_places_of ct_places_of), sl_places_of⟩)
  (c_places_of : PySem.W.codeIn K cd_places_of "places_of" = true)
  (k_places_of : PySem.W.keepIn K (.ref f_places_of) = true)
  (a_shape_of : PySem.W.nsIn K mainGlobals "shape_of" = some (some (.ref f_shape_of)))
  (l_shape_of : K.lookup f_shape_of = some ⟨oc_shape_of, od_shape_of, .func (PySem.W.fnOf "shape_of" "shape_of" (defArgs (topS 12)) (defBody (topS 12)) (defScope (topS 12)) .none kV_shape_of doc_shape_of pm_shape_of an_shape_of cd_shape_of ct_shape_of), sl_shape_of⟩)
  (c_shape_of : PySem.W.codeIn K cd_shape_of "shape_of" = true)
  (k_shape_of : PySem.W.keepIn K (.ref f_shape_of) = true)
  (a__law_dice : PySem.W.nsIn K mainGlobals "_law_dice" = some (some (.ref f__law_dice)))
  (l__law_dice : K.lookup f__law_dice = some ⟨oc__law_dice, od__law_dice, .func (PySem.W.fnOf "_law_dice" "_law_dice" (defArgs (topS 19)) (defBody (topS 19)) (defScope (topS 19)) .none kV__law_dice doc__law_dice pm__law_dice an__law_dice cd__law_dice ct__law_dice), sl__law_dice⟩)
  (c__law_dice : PySem.W.codeIn K cd__law_dice "_law_dice" = true)
  (k__law_dice : PySem.W.keepIn K (.ref f__law_dice) = true)
  (a__law_rounds : PySem.W.nsIn K mainGlobals "_law_rounds" = some (some (.ref f__law_rounds)))
  (l__law_rounds : K.lookup f__law_rounds = some ⟨oc__law_rounds, od__law_rounds, .func (PySem.W.fnOf "_law_rounds" "_law_rounds" (defArgs (topS 21)) (defBody (topS 21)) (defScope (topS 21)) .none kV__law_rounds doc__law_rounds pm__law_rounds an__law_rounds cd__law_rounds ct__law_rounds), sl__law_rounds⟩)
  (c__law_rounds : PySem.W.codeIn K cd__law_rounds "_law_rounds" = true)
  (k__law_rounds : PySem.W.keepIn K (.ref f__law_rounds) = true)
  (a__law_told : PySem.W.nsIn K mainGlobals "_law_told" = some (some (.ref f__law_told)))
  (l__law_told : K.lookup f__law_told = some ⟨oc__law_told, od__law_told, .func (PySem.W.fnOf "_law_told" "_law_told" (defArgs (topS 22)) (defBody (topS 22)) (defScope (topS 22)) .none kV__law_told doc__law_told pm__law_told an__law_told cd__law_told ct__law_told), sl__law_told⟩)
  (c__law_told : PySem.W.codeIn K cd__law_told "_law_told" = true)
  (k__law_told : PySem.W.keepIn K (.ref f__law_told) = true)
  (a_law : PySem.W.nsIn K mainGlobals "law" = some (some (.ref f_law)))
  (l_law : K.lookup f_law = some ⟨oc_law, od_law, .func (PySem.W.fnOf "law" "law" (defArgs (topS 26)) (defBody (topS 26)) (defScope (topS 26)) .none kV_law doc_law pm_law an_law cd_law ct_law), sl_law⟩)
  (c_law : PySem.W.codeIn K cd_law "law" = true)
  (k_law : PySem.W.keepIn K (.ref f_law) = true)
  (e_moved_shape : cd_moved_shape = .ref x_moved_shape)
  (d_moved_shape : PySem.W.codeHdIn K x_moved_shape p_moved_shape = true)
  (n_moved_shape : K.lookup p_moved_shape = none)
  (e_places_of : cd_places_of = .ref x_places_of)
  (d_places_of : PySem.W.codeHdIn K x_places_of p_places_of = true)
  (n_places_of : K.lookup p_places_of = none)
  (e_law : cd_law = .ref x_law)
  (d_law : PySem.W.codeHdIn K x_law p_law = true)
  (n_law : K.lookup p_law = none)
  (a_MOST_TONES : PySem.W.nsIn K mainGlobals "MOST_TONES" = some (some u_MOST_TONES))
  (r_MOST_TONES : repK K 9 c_MOST_TONES u_MOST_TONES = true)
  (a_STEPS : PySem.W.nsIn K mainGlobals "STEPS" = some (some u_STEPS))
  (r_STEPS : repK K 9 c_STEPS u_STEPS = true)
  (a_MusicError : PySem.W.nsIn K mainGlobals "MusicError" = some (some (.ref C_MusicError)))
  (xF_MusicError : PySem.W.excIn K C_MusicError [.type "ValueError", .type "Exception", .type "BaseException", .type "object"] "ValueError.__new__" = true)
  (kF_MusicError : PySem.W.keepIn K (.ref C_MusicError) = true)
  (bF_MusicError : PySem.W.subIn K (.ref C_MusicError) (.type "BaseException") = some true)
  (tF_MusicError : PySem.W.typeIn K (.ref C_MusicError) = some (.type "type"))
  (sF_MusicError : PySem.W.subIn K (.ref C_MusicError) (.type "StopIteration") = some false)
  (mF_MusicError : PySem.W.exmOne K (.ref C_MusicError) (.ref C_MusicError) = some true)
  (a_PitchError : PySem.W.nsIn K mainGlobals "PitchError" = some (some (.ref C_PitchError)))
  (xF_PitchError : PySem.W.excIn K C_PitchError [.type "ValueError", .type "Exception", .type "BaseException", .type "object"] "ValueError.__new__" = true)
  (kF_PitchError : PySem.W.keepIn K (.ref C_PitchError) = true)
  (bF_PitchError : PySem.W.subIn K (.ref C_PitchError) (.type "BaseException") = some true)
  (tF_PitchError : PySem.W.typeIn K (.ref C_PitchError) = some (.type "type"))
  (sF_PitchError : PySem.W.subIn K (.ref C_PitchError) (.type "StopIteration") = some false)
  (mF_PitchError : PySem.W.exmOne K (.ref C_PitchError) (.ref C_MusicError) = some true)
  (a_ScoreError : PySem.W.nsIn K mainGlobals "ScoreError" = some (some (.ref C_ScoreError)))
  (xF_ScoreError : PySem.W.excIn K C_ScoreError [.type "ValueError", .type "Exception", .type "BaseException", .type "object"] "ValueError.__new__" = true)
  (kF_ScoreError : PySem.W.keepIn K (.ref C_ScoreError) = true)
  (bF_ScoreError : PySem.W.subIn K (.ref C_ScoreError) (.type "BaseException") = some true)
  (tF_ScoreError : PySem.W.typeIn K (.ref C_ScoreError) = some (.type "type"))
  (sF_ScoreError : PySem.W.subIn K (.ref C_ScoreError) (.type "StopIteration") = some false)
  (mF_ScoreError : PySem.W.exmOne K (.ref C_ScoreError) (.ref C_MusicError) = some true)
  (z_abs : PySem.W.nsIn K mainGlobals "abs" = some none)
  (z_enumerate : PySem.W.nsIn K mainGlobals "enumerate" = some none)
  (z_int : PySem.W.nsIn K mainGlobals "int" = some none)
  (z_len : PySem.W.nsIn K mainGlobals "len" = some none)
  (z_list : PySem.W.nsIn K mainGlobals "list" = some none)
  (z_max : PySem.W.nsIn K mainGlobals "max" = some none)
  (z_min : PySem.W.nsIn K mainGlobals "min" = some none)
  (z_range : PySem.W.nsIn K mainGlobals "range" = some none)
  (z_tuple : PySem.W.nsIn K mainGlobals "tuple" = some none)
  (z_zip : PySem.W.nsIn K mainGlobals "zip" = some none)
  (ne_moved_shape : p_moved_shape ≠ p_law)
  (ne_places_of : p_places_of ≠ p_law)
  (run : ∀ c : Int, Builtin.Int.intBits c ≤ 1048576 → ∃ ρ, lawR (callF fds n) (lfOf (callF fds n) fd_law.lams) b_law_dice_slot N_law.length b_law_in b_law (.lst (diceL c)) = .ret (.bl true) ρ) :
  LawAtS PySem.Challenge.rw_musicstack_k11_what_comes_again w K (L2.CX (PySem.Challenge.rw_musicstack_k11_what_comes_again).prog w) (3 * n + 3) 63 "script" mg fa h := by
  have e := hfa.symm.trans (PySem.W.mg_of X Gn a_law)
  cases e
  refine law_at (ts := [(x_moved_shape, p_moved_shape, none), (x_places_of, p_places_of, none), (x_law, p_law, some "law.<locals>.<lambda>")]) (xc := xcOf C_MusicError C_PitchError C_ScoreError) rfl (fun p m => ?_) (fun p m => ?_) (fun p m => ?_) X (fun s v => BindsTo.of_eq (bd_law kV_law doc_law pm_law an_law cd_law ct_law [v] rfl)) fun base Xb Gb tb => ?_
  · simp only [List.mem_cons, List.not_mem_nil, or_false] at m
    rcases m with rfl | rfl | rfl
    · exact tab_of o_moved_shape l_moved_shape e_moved_shape d_moved_shape
    · exact tab_of o_places_of l_places_of e_places_of d_places_of
    · exact tab_of o_law l_law e_law d_law
  · simp only [List.mem_cons, List.not_mem_nil, or_false] at m
    rcases m with rfl | rfl | rfl
    · exact n_moved_shape
    · exact n_places_of
    · exact n_law
  · simp only [List.mem_cons, List.not_mem_nil, or_false] at m
    rcases m with rfl | rfl | rfl
    · exact d_moved_shape
    · exact d_places_of
    · exact d_law
  · have hd : ∀ (B : RB) (hB : B.K = K), Hd ((gbOf PySem.Challenge.rw_musicstack_k11_what_comes_again w K mg base (([(x_moved_shape, p_moved_shape, none), (x_places_of, p_places_of, none), (x_law, p_law, some "law.<locals>.<lambda>")] : List (Addr × Addr × Option Str)).map fun p => p.2) (xcOf C_MusicError C_PitchError C_ScoreError)).withB B hB) := fun B hB => hd_mk X Gn a__law_halves l__law_halves c__law_halves k__law_halves a__law_notes l__law_notes c__law_notes k__law_notes a__law_roll l__law_roll c__law_roll k__law_roll a__law_tone l__law_tone c__law_tone k__law_tone a_form_letters l_form_letters c_form_letters k_form_letters a_half_steps l_half_steps c_half_steps k_half_steps a_is_canon l_is_canon c_is_canon k_is_canon a_longest_again l_longest_again c_longest_again k_longest_again a_moved_by l_moved_by c_moved_by k_moved_by a_moved_shape l_moved_shape c_moved_shape k_moved_shape a_pitch l_pitch c_pitch k_pitch a_place_in l_place_in c_place_in k_place_in a_places_of l_places_of c_places_of k_places_of a_shape_of l_shape_of c_shape_of k_shape_of a__law_dice l__law_dice c__law_dice k__law_dice a__law_rounds l__law_rounds c__law_rounds k__law_rounds a__law_told l__law_told c__law_told k__law_told a_law l_law c_law k_law e_moved_shape d_moved_shape n_moved_shape e_places_of d_places_of n_places_of e_law d_law n_law a_MOST_TONES r_MOST_TONES a_STEPS r_STEPS a_MusicError xF_MusicError kF_MusicError bF_MusicError tF_MusicError sF_MusicError mF_MusicError a_PitchError xF_PitchError kF_PitchError bF_PitchError tF_PitchError sF_PitchError mF_PitchError a_ScoreError xF_ScoreError kF_ScoreError bF_ScoreError tF_ScoreError sF_ScoreError mF_ScoreError z_abs z_enumerate z_int z_len z_list z_max z_min z_range z_tuple z_zip ne_moved_shape ne_places_of rfl rfl rfl rfl tb
    have E : ∀ (B : RB) (hB : B.K = K), Fa ((gbOf PySem.Challenge.rw_musicstack_k11_what_comes_again w K mg base (([(x_moved_shape, p_moved_shape, none), (x_places_of, p_places_of, none), (x_law, p_law, some "law.<locals>.<lambda>")] : List (Addr × Addr × Option Str)).map fun p => p.2) (xcOf C_MusicError C_PitchError C_ScoreError)).withB B hB) (callF fds n) (3 * n) := fun B hB => fa_all (hd B hB) n
    have told : ∀ (B : RB) (hB : B.K = K), ToldOk ((gbOf PySem.Challenge.rw_musicstack_k11_what_comes_again w K mg base (([(x_moved_shape, p_moved_shape, none), (x_places_of, p_places_of, none), (x_law, p_law, some "law.<locals>.<lambda>")] : List (Addr × Addr × Option Str)).map fun p => p.2) (xcOf C_MusicError C_PitchError C_ScoreError)).withB B hB) (callF fds n) fd_law.lams N_law LB told_ks told_ret "_law_told" (3 * n) := fun B hB => {
      ex := ⟨"what", "MusicError", f__law_told, C_MusicError, _, _, _, _, _, _, _, _, _, _, _, _, _, _, _, _, _, _, _, _, _, _, PySem.W.mg_of X Gn a__law_told, k__law_told, l__law_told, c__law_told, .all (bd__law_told _ _ _ _ _ _), sc__law_told, rfl, .inl rfl, rfl, PySem.W.mg_of X Gn a_MusicError, by decide +kernel, fun i hi => (by
        simp only [told_ks, List.mem_cons, List.not_mem_nil, or_false] at hi
        rcases hi with rfl | rfl | rfl
        · exact mF_MusicError
        · exact mF_PitchError
        · exact mF_ScoreError), by decide +kernel, by decide +kernel, by decide +kernel⟩
      lit := fun k l e => (by
        match k, e with
        | 0, e => cases e; exact ⟨rfl, rfl, rfl, by decide +kernel, fun _ _ _ _ _ => rfl⟩
        | 1, e => cases e; exact ⟨rfl, rfl, rfl, by decide +kernel, fun _ _ _ _ _ => rfl⟩
        | 2, e => cases e; exact ⟨rfl, rfl, rfl, by decide +kernel, fun _ _ _ _ _ => rfl⟩
        | 3, e => cases e; exact ⟨rfl, rfl, rfl, by decide +kernel, fun _ _ _ _ _ => rfl⟩
        | k + 4, e => simp [LB] at e)
      body := fun k l e => (by
        match k, e with
        | 0, e => cases e; exact ⟨_, rfl, fun S hS => (by unfold lamS; rw [hS]; exact d_lam_0 (E B hB))⟩
        | 1, e => cases e; exact ⟨_, rfl, fun S hS => (by unfold lamS; rw [hS]; exact d_lam_1 (E B hB))⟩
        | 2, e => cases e; exact ⟨_, rfl, fun S hS => (by unfold lamS; rw [hS]; exact d_lam_2 (E B hB))⟩
        | 3, e => cases e; exact ⟨_, rfl, fun S hS => (by unfold lamS; rw [hS]; exact d_lam_3 (E B hB))⟩
        | k + 4, e => simp [LB] at e) }
    have tp : ∀ (B : RB) (hB : B.K = K), (p_law, some ((("law" : Str) ++ ".<locals>.") ++ "<lambda>")) ∈ ((gbOf PySem.Challenge.rw_musicstack_k11_what_comes_again w K mg base (([(x_moved_shape, p_moved_shape, none), (x_places_of, p_places_of, none), (x_law, p_law, some "law.<locals>.<lambda>")] : List (Addr × Addr × Option Str)).map fun p => p.2) (xcOf C_MusicError C_PitchError C_ScoreError)).withB B hB).T := fun B hB => List.mem_map.mpr ⟨(x_law, p_law, some "law.<locals>.<lambda>"), by simp, by rw [lamName]⟩
    have tq : ∀ (B : RB) (hB : B.K = K), ∀ p ∈ ((gbOf PySem.Challenge.rw_musicstack_k11_what_comes_again w K mg base (([(x_moved_shape, p_moved_shape, none), (x_places_of, p_places_of, none), (x_law, p_law, some "law.<locals>.<lambda>")] : List (Addr × Addr × Option Str)).map fun p => p.2) (xcOf C_MusicError C_PitchError C_ScoreError)).withB B hB).T, p.1 = p_law → p.2 = some ((("law" : Str) ++ ".<locals>.") ++ "<lambda>") := fun B hB p m e => (by
      obtain ⟨p2, m2, rfl⟩ := List.mem_map.mp m
      have m3 : p2 ∈ ([(x_moved_shape, p_moved_shape, none), (x_places_of, p_places_of, none), (x_law, p_law, some "law.<locals>.<lambda>")] : List (Addr × Addr × Option Str)) := m2
      simp only [List.mem_cons, List.not_mem_nil, or_false] at m3
      rcases m3 with rfl | rfl | rfl
      · exact absurd e ne_moved_shape
      · exact absurd e ne_places_of
      · rw [lamName])
    have tbl := tb (x_law, p_law, some "law.<locals>.<lambda>") (by simp)
    exact law_fn (G := gbOf PySem.Challenge.rw_musicstack_k11_what_comes_again w K mg base (([(x_moved_shape, p_moved_shape, none), (x_places_of, p_places_of, none), (x_law, p_law, some "law.<locals>.<lambda>")] : List (Addr × Addr × Option Str)).map fun p => p.2) (xcOf C_MusicError C_PitchError C_ScoreError)) (k := 3 * n + 2) (kr := 3 * n + 2) (cf := callF fds n) (lf := lfOf (callF fds n) fd_law.lams) (N := N_law) (i := b_law_dice_slot) (B := fun c0 => rbL K LB c0 ((("law" : Str) ++ ".<locals>.") ++ "<lambda>")) (dv := diceL) l_law c_law sc_law rfl rfl rfl rfl rfl (fun _ => rfl)
      (fun c0 => rounds_fn (k := 3 * n + 1) (fd := fd__law_dice) (g := diceG) l__law_rounds c__law_rounds sc__law_rounds rfl rfl rfl (blkOk_by rfl) rfl rfl (fn_new (k := 3 * n) (N := N__law_dice) (cf := callF fds n) l__law_dice c__law_dice sc__law_dice rfl rfl (by decide) (dice_run _) (d__law_dice (E (rbL K LB c0 ((("law" : Str) ++ ".<locals>.") ++ "<lambda>")) rfl))) (PySem.W.mg_of X Gn a__law_dice) k__law_dice (.all (bd__law_dice _ _ _ _ _ _)) rfl rfl (fun _ => rfl) (fun c H H' xs h => diceL_any c H H' xs h))
      (Nat.le_refl _) (PySem.W.mg_of X Gn a__law_rounds) k__law_rounds (.all (bd__law_rounds _ _ _ _ _ _)) (fun c0 c H H' xs h => diceL_any c H H' xs h)
      (fun c0 => d_law_in (E (rbL K LB c0 ((("law" : Str) ++ ".<locals>.") ++ "<lambda>")) rfl) rfl (told (rbL K LB c0 ((("law" : Str) ++ ".<locals>.") ++ "<lambda>")) rfl) (hL_by (by decide +kernel)) e_law tbl (tp _ rfl) (tq _ rfl)) (fun c0 => K11.d_law (E (rbL K LB c0 ((("law" : Str) ++ ".<locals>.") ++ "<lambda>")) rfl) rfl (told (rbL K LB c0 ((("law" : Str) ++ ".<locals>.") ++ "<lambda>")) rfl) (hL_by (by decide +kernel)) e_law tbl (tp _ rfl) (tq _ rfl)) run
end K11
end
section
set_option maxRecDepth 100000
/-! What a core term computes, by simp. -/
namespace MZ.V
open PySem
@[simp] theorem ob_ok {α β : Type} (a : α) (ρ : Env) (f : α → Env → Out β) : (Out.ok a ρ).bind f = f a ρ := (rfl)
@[simp] theorem ob_exc {α β : Type} (k : Nat) (f : α → Env → Out β) : (Out.exc k : Out α).bind f = .exc k := (rfl)
@[simp] theorem ob_bad {α β : Type} (f : α → Env → Out β) : (Out.bad : Out α).bind f = .bad := (rfl)
@[simp] theorem or_ok {α : Type} (a : α) (ρ : Env) (f : α → Env → Rs) : (Out.ok a ρ).rs f = f a ρ := (rfl)
@[simp] theorem or_exc {α : Type} (k : Nat) (f : α → Env → Rs) : (Out.exc k : Out α).rs f = .exc k := (rfl)
@[simp] theorem or_bad {α : Type} (f : α → Env → Rs) : (Out.bad : Out α).rs f = .bad := (rfl)
@[simp] theorem rq_bad (f : Env → Rs) : Rs.bad.seq f = .bad := (rfl)
@[simp] theorem os_ok {α : Type} (a : α) (ρ ρ' : Env) : (Out.ok a ρ').stay ρ = .ok a ρ := (rfl)
@[simp] theorem os_exc {α : Type} (k : Nat) (ρ : Env) : (Out.exc k : Out α).stay ρ = .exc k := (rfl)
@[simp] theorem obk_ok {α : Type} (a : α) (ρ : Env) (f : Env → Env) : (Out.ok a ρ).back f = .ok a (f ρ) := (rfl)
@[simp] theorem obk_exc {α : Type} (k : Nat) (f : Env → Env) : (Out.exc k : Out α).back f = .exc k := (rfl)
@[simp] theorem ut_ok {α : Type} (a : α) (ρ : Env) : untold (Out.ok a ρ) = .ok a ρ := (rfl)
@[simp] theorem rq_next (ρ : Env) (f : Env → Rs) : (Rs.next ρ).seq f = f ρ := (rfl)
@[simp] theorem rq_ret (d : D) (ρ : Env) (f : Env → Rs) : (Rs.ret d ρ).seq f = .ret d ρ := (rfl)
@[simp] theorem rq_exc (k : Nat) (f : Env → Rs) : (Rs.exc k).seq f = .exc k := (rfl)
@[simp] theorem rq_brk (ρ : Env) (f : Env → Rs) : (Rs.brk ρ).seq f = .brk ρ := (rfl)
@[simp] theorem rq_cont (ρ : Env) (f : Env → Rs) : (Rs.cont ρ).seq f = .cont ρ := (rfl)
@[simp] theorem ofE_some (ρ : Env) : ofE (some ρ) = .next ρ := (rfl)
@[simp] theorem ofE_none : ofE none = .bad := (rfl)
@[simp] theorem liftE_some (ρ : Env) : liftE (some ρ) = .ok () ρ := (rfl)
@[simp] theorem lift_some {α : Type} (a : α) (ρ : Env) : lift (some a) ρ = .ok a ρ := (rfl)
theorem lt_line {k : Nat} (h : k < 1000000) : k < line := Nat.lt_of_lt_of_le h (by decide)
theorem le_line {k : Nat} (h : k ≤ 1000000) : k ≤ line := Nat.le_trans h (by decide)
@[simp] theorem le_line_0 : 0 ≤ line := by decide
@[simp] theorem le_line_1 : 1 ≤ line := by decide
@[simp] theorem le_line_2 : 2 ≤ line := by decide
@[simp] theorem le_line_3 : 3 ≤ line := by decide
@[simp] theorem le_line_4 : 4 ≤ line := by decide
@[simp] theorem le_line_5 : 5 ≤ line := by decide
@[simp] theorem le_line_6 : 6 ≤ line := by decide
@[simp] theorem le_line_7 : 7 ≤ line := by decide
@[simp] theorem le_line_8 : 8 ≤ line := by decide
@[simp] theorem le_line_9 : 9 ≤ line := by decide
@[simp] theorem le_line_10 : 10 ≤ line := by decide
@[simp] theorem le_line_11 : 11 ≤ line := by decide
@[simp] theorem le_line_12 : 12 ≤ line := by decide
@[simp] theorem le_line_13 : 13 ≤ line := by decide
@[simp] theorem le_line_14 : 14 ≤ line := by decide
@[simp] theorem le_line_15 : 15 ≤ line := by decide
@[simp] theorem le_line_16 : 16 ≤ line := by decide
@[simp] theorem le_line_17 : 17 ≤ line := by decide
@[simp] theorem le_line_18 : 18 ≤ line := by decide
@[simp] theorem le_line_19 : 19 ≤ line := by decide
@[simp] theorem le_line_20 : 20 ≤ line := by decide
@[simp] theorem le_line_21 : 21 ≤ line := by decide
@[simp] theorem le_line_22 : 22 ≤ line := by decide
@[simp] theorem le_line_23 : 23 ≤ line := by decide
@[simp] theorem le_line_24 : 24 ≤ line := by decide
@[simp] theorem le_line_25 : 25 ≤ line := by decide
@[simp] theorem le_line_26 : 26 ≤ line := by decide
@[simp] theorem le_line_27 : 27 ≤ line := by decide
@[simp] theorem le_line_28 : 28 ≤ line := by decide
@[simp] theorem le_line_29 : 29 ≤ line := by decide
@[simp] theorem le_line_30 : 30 ≤ line := by decide
@[simp] theorem le_line_31 : 31 ≤ line := by decide
@[simp] theorem le_line_32 : 32 ≤ line := by decide
@[simp] theorem truD_bl (b : Bool) : truD (.bl b) = some b := (rfl)
@[simp] theorem truD_int (i : Int) : truD (.int i) = some (i != 0) := (rfl)
@[simp] theorem truD_lst (l : List D) : truD (.lst l) = some (!l.isEmpty) := (rfl)
@[simp] theorem truD_tup (l : List D) : truD (.tup l) = some (!l.isEmpty) := (rfl)
@[simp] theorem truD_non : truD .non = some false := (rfl)
@[simp] theorem b2i_t : b2i true = 1 := (rfl)
@[simp] theorem b2i_f : b2i false = 0 := (rfl)
/-! prims -/
@[simp] theorem p_add (ds) : primR .add ds = addR ds := (rfl)
@[simp] theorem p_sub (ds) : primR .sub ds = subR ds := (rfl)
@[simp] theorem p_mul (ds) : primR .mul ds = mulR ds := (rfl)
@[simp] theorem p_fdiv (ds) : primR .fdiv ds = fdivR ds := (rfl)
@[simp] theorem p_mod (ds) : primR .mod ds = modR ds := (rfl)
@[simp] theorem p_pow (ds) : primR .pow ds = powR ds := (rfl)
@[simp] theorem p_neg (ds) : primR .neg ds = negR ds := (rfl)
@[simp] theorem p_lt (ds) : primR .lt ds = ltR ds := (rfl)
@[simp] theorem p_le (ds) : primR .le ds = leR ds := (rfl)
@[simp] theorem p_gt (ds) : primR .gt ds = gtR ds := (rfl)
@[simp] theorem p_ge (ds) : primR .ge ds = geR ds := (rfl)
@[simp] theorem p_eq (ds) : primR .eq ds = eqR ds := (rfl)
@[simp] theorem p_ne (ds) : primR .ne ds = neR ds := (rfl)
@[simp] theorem p_isN (ds) : primR .isN ds = isNR ds := (rfl)
@[simp] theorem p_notN (ds) : primR .notN ds = notNR ds := (rfl)
@[simp] theorem p_isIn (ds) : primR .isIn ds = isInR ds := (rfl)
@[simp] theorem p_notIn (ds) : primR .notIn ds = notInR ds := (rfl)
@[simp] theorem p_nt (ds) : primR .nt ds = ntR ds := (rfl)
@[simp] theorem p_ix (ds) : primR .ix ds = ixR ds := (rfl)
@[simp] theorem p_cut2 (ds) : primR .cut2 ds = cut2R ds := (rfl)
@[simp] theorem p_cutLo (ds) : primR .cutLo ds = cutLoR ds := (rfl)
@[simp] theorem p_cutHi (ds) : primR .cutHi ds = cutHiR ds := (rfl)
@[simp] theorem p_len (ds) : primR .len ds = lenR ds := (rfl)
@[simp] theorem p_abs (ds) : primR .abs ds = absR ds := (rfl)
@[simp] theorem p_toInt (ds) : primR .toInt ds = toIntR ds := (rfl)
@[simp] theorem p_min2 (ds) : primR .min2 ds = min2R ds := (rfl)
@[simp] theorem p_max2 (ds) : primR .max2 ds = max2R ds := (rfl)
@[simp] theorem p_minL (ds) : primR .minL ds = minLR ds := (rfl)
@[simp] theorem p_maxL (ds) : primR .maxL ds = maxLR ds := (rfl)
@[simp] theorem p_tupOf (ds) : primR .tupOf ds = tupOfR ds := (rfl)
@[simp] theorem p_lstOf (ds) : primR .lstOf ds = lstOfR ds := (rfl)
@[simp] theorem p_sumL (ds) : primR .sumL ds = sumLR ds := (rfl)
@[simp] theorem p_iadd (ds) : primR .iadd ds = iaddR ds := (rfl)
@[simp] theorem addR_i (i j : Int) : addR [.int i, .int j] = some (.int (i + j)) := (rfl)
@[simp] theorem addR_s (x y : Str) : addR [.str x, .str y] = if x.length + y.length ≤ line then some (.str (x ++ y)) else none := (rfl)
@[simp] theorem addR_l (a b : List D) : addR [.lst a, .lst b] = if a.length + b.length ≤ line then some (.lst (a ++ b)) else none := (rfl)
@[simp] theorem addR_t (a b : List D) : addR [.tup a, .tup b] = if a.length + b.length ≤ line then some (.tup (a ++ b)) else none := (rfl)
@[simp] theorem iaddR_i (i j : Int) : iaddR [.int i, .int j] = some (.int (i + j)) := (rfl)
@[simp] theorem iaddR_s (x y : Str) : iaddR [.str x, .str y] = if x.length + y.length ≤ line then some (.str (x ++ y)) else none := (rfl)
@[simp] theorem subR_i (i j : Int) : subR [.int i, .int j] = some (.int (i - j)) := (rfl)
@[simp] theorem mulR_i (i j : Int) : mulR [.int i, .int j] = if mulOk i j = true then some (.int (i * j)) else none := (rfl)
@[simp] theorem mulR_l (a : List D) (k : Int) : mulR [.lst a, .int k] = if k ≤ line ∧ a.length * k.toNat ≤ line ∧ - line ≤ k then some (.lst (List.replicate k.toNat a).flatten) else none := (rfl)
@[simp] theorem fdivR_i (i j : Int) : fdivR [.int i, .int j] = if divOk j = true then some (.int (i / j)) else none := (rfl)
@[simp] theorem modR_i (i j : Int) : modR [.int i, .int j] = if 0 < j then some (.int (i % j)) else none := (rfl)
@[simp] theorem powR_i (i j : Int) : powR [.int i, .int j] = if 0 ≤ j ∧ j ≤ 1000 ∧ big i = true then some (.int (i ^ j.toNat)) else none := (rfl)
@[simp] theorem negR_i (i : Int) : negR [.int i] = some (.int (-i)) := (rfl)
@[simp] theorem ltR_i (i j : Int) : ltR [.int i, .int j] = some (.bl (decide (i < j))) := (rfl)
@[simp] theorem leR_i (i j : Int) : leR [.int i, .int j] = some (.bl (decide (i ≤ j))) := (rfl)
@[simp] theorem gtR_i (i j : Int) : gtR [.int i, .int j] = some (.bl (decide (j < i))) := (rfl)
@[simp] theorem geR_i (i j : Int) : geR [.int i, .int j] = some (.bl (decide (j ≤ i))) := (rfl)
@[simp] theorem eqR_2 (x y : D) : eqR [x, y] = if (okD 60 x && okD 60 y) = true then some (.bl (eqD x y)) else none := (rfl)
@[simp] theorem neR_2 (x y : D) : neR [x, y] = if (okD 60 x && okD 60 y) = true then some (.bl (!eqD x y)) else none := (rfl)
def nonD : D → Bool
  | .non => true
  | _ => false
@[simp] theorem nonD_non : nonD .non = true := (rfl)
@[simp] theorem nonD_int (i) : nonD (.int i) = false := (rfl)
@[simp] theorem nonD_str (i) : nonD (.str i) = false := (rfl)
@[simp] theorem nonD_tup (i) : nonD (.tup i) = false := (rfl)
@[simp] theorem nonD_lst (i) : nonD (.lst i) = false := (rfl)
@[simp] theorem nonD_bl (i) : nonD (.bl i) = false := (rfl)
@[simp] theorem isNR_1 (x : D) : isNR [x] = some (.bl (nonD x)) := by cases x <;> rfl
@[simp] theorem notNR_1 (x : D) : notNR [x] = some (.bl (!nonD x)) := by cases x <;> rfl
@[simp] theorem isInR_l (x : D) (l : List D) : isInR [x, .lst l] = if (flatD x && l.all flatD) = true then some (.bl (l.any fun y => eqD y x)) else none := (rfl)
@[simp] theorem isInR_t (x : D) (l : List D) : isInR [x, .tup l] = if (flatD x && l.all flatD) = true then some (.bl (l.any fun y => eqD y x)) else none := (rfl)
@[simp] theorem notInR_l (x : D) (l : List D) : notInR [x, .lst l] = if (flatD x && l.all flatD) = true then some (.bl (!l.any fun y => eqD y x)) else none := (rfl)
@[simp] theorem notInR_t (x : D) (l : List D) : notInR [x, .tup l] = if (flatD x && l.all flatD) = true then some (.bl (!l.any fun y => eqD y x)) else none := (rfl)
@[simp] theorem ntR_1 (b : Bool) : ntR [.bl b] = some (.bl (!b)) := (rfl)
@[simp] theorem ixR_l (l : List D) (i : Int) : ixR [.lst l, .int i] = ixD l i := (rfl)
@[simp] theorem ixR_t (l : List D) (i : Int) : ixR [.tup l, .int i] = ixD l i := (rfl)
@[simp] theorem ixR_s (z : Str) (i : Int) : ixR [.str z, .int i] = if 0 ≤ i ∧ i < z.length ∧ z.length ≤ line then (z.cps.toList[i.toNat]?).map fun c => .str ⟨#[c]⟩ else none := (rfl)
@[simp] theorem cut2R_l (l : List D) (i j : Int) : cut2R [.lst l, .int i, .int j] = some (.lst (cutD l (cutAt l.length i) (cutAt l.length j))) := (rfl)
@[simp] theorem cut2R_t (l : List D) (i j : Int) : cut2R [.tup l, .int i, .int j] = some (.tup (cutD l (cutAt l.length i) (cutAt l.length j))) := (rfl)
@[simp] theorem cutLoR_l (l : List D) (i : Int) : cutLoR [.lst l, .int i] = some (.lst (l.drop (cutAt l.length i))) := (rfl)
@[simp] theorem cutLoR_t (l : List D) (i : Int) : cutLoR [.tup l, .int i] = some (.tup (l.drop (cutAt l.length i))) := (rfl)
@[simp] theorem cutHiR_l (l : List D) (i : Int) : cutHiR [.lst l, .int i] = some (.lst (l.take (cutAt l.length i))) := (rfl)
@[simp] theorem cutHiR_t (l : List D) (i : Int) : cutHiR [.tup l, .int i] = some (.tup (l.take (cutAt l.length i))) := (rfl)
@[simp] theorem lenR_l (l : List D) : lenR [.lst l] = some (.int l.length) := (rfl)
@[simp] theorem lenR_t (l : List D) : lenR [.tup l] = some (.int l.length) := (rfl)
@[simp] theorem lenR_s (z : Str) : lenR [.str z] = if z.length ≤ line then some (.int z.length) else none := (rfl)
@[simp] theorem absR_i (i : Int) : absR [.int i] = some (.int (if i < 0 then -i else i)) := (rfl)
@[simp] theorem toIntR_i (i : Int) : toIntR [.int i] = some (.int i) := (rfl)
@[simp] theorem toIntR_b (b : Bool) : toIntR [.bl b] = some (.int (b2i b)) := (rfl)
@[simp] theorem min2R_i (i j : Int) : min2R [.int i, .int j] = some (.int (if j < i then j else i)) := (rfl)
@[simp] theorem max2R_i (i j : Int) : max2R [.int i, .int j] = some (.int (if j > i then j else i)) := (rfl)
@[simp] theorem minLR_1 (l : List D) : minLR [.lst l] = (intsOf l).bind fun ns => ns.min?.map .int := (rfl)
@[simp] theorem maxLR_1 (l : List D) : maxLR [.lst l] = (intsOf l).bind fun ns => ns.max?.map .int := (rfl)
@[simp] theorem sumLR_1 (l : List D) : sumLR [.lst l] = (intsOf l).map fun ns => .int ns.sum := (rfl)
@[simp] theorem tupOfR_l (l : List D) : tupOfR [.lst l] = some (.tup l) := (rfl)
@[simp] theorem tupOfR_t (l : List D) : tupOfR [.tup l] = some (.tup l) := (rfl)
@[simp] theorem lstOfR_l (l : List D) : lstOfR [.lst l] = some (.lst l) := (rfl)
@[simp] theorem lstOfR_t (l : List D) : lstOfR [.tup l] = some (.lst l) := (rfl)
theorem intsOf_map (l : List Int) : intsOf (l.map D.int) = some l := by
  induction l with
  | nil => rfl
  | cons i r ih => show (intsOf (r.map D.int)).map (i :: ·) = _; rw [ih]; rfl
@[simp] theorem it_seq (ds) : itR .seq ds = seqR ds := (rfl)
@[simp] theorem it_range1 (ds) : itR .range1 ds = rng1R ds := (rfl)
@[simp] theorem it_range2 (ds) : itR .range2 ds = rng2R ds := (rfl)
@[simp] theorem it_enum (ds) : itR .enum ds = enumR ds := (rfl)
@[simp] theorem it_zip (ds) : itR .zip ds = zipR ds := (rfl)
@[simp] theorem seqR_l (l) : seqR [.lst l] = some l := (rfl)
@[simp] theorem seqR_t (l) : seqR [.tup l] = some l := (rfl)
theorem rng1R_i (n : Int) : rng1R [.int n] = if n ≤ line ∧ - line ≤ n then some (rng 0 n.toNat) else none := (rfl)
@[simp] theorem rng1R_n (n : Nat) : rng1R [.int (n : Int)] = if n ≤ line then some (rng 0 n) else none := by
  rw [rng1R_i]
  by_cases h : n ≤ line
  · rw [if_pos h, if_pos (by omega)]
    rfl
  · rw [if_neg h, if_neg (by omega)]
theorem rng2R_i (a b : Int) : rng2R [.int a, .int b] = if - line ≤ a ∧ a ≤ line ∧ - line ≤ b ∧ b ≤ line then some (rng a (b - a).toNat) else none := (rfl)
theorem big_line : (1000000 : Int) ≤ line := by decide
theorem rng1_ok {a : Int} (h : -1000000 ≤ a) (h' : a ≤ 1000000) : rng1R [.int a] = some (rng 0 a.toNat) := by
  have := big_line
  rw [rng1R_i, if_pos (by omega)]
theorem rng2_ok {a b : Int} (h1 : -1000000 ≤ a) (h2 : a ≤ 1000000) (h3 : -1000000 ≤ b) (h4 : b ≤ 1000000) : rng2R [.int a, .int b] = some (rng a (b - a).toNat) := by
  have := big_line
  rw [rng2R_i, if_pos (by omega)]
@[simp] theorem enumR_l (l : List D) : enumR [.lst l] = some (((List.range l.length).zip l).map fun (p : Nat × D) => .tup [.int p.1, p.2]) := (rfl)
@[simp] theorem zipR_l (a b : List D) : zipR [.lst a, .lst b] = some ((a.zip b).map fun p => .tup [p.1, p.2]) := (rfl)
@[simp] theorem zipR_t (a b : List D) : zipR [.tup a, .tup b] = some ((a.zip b).map fun p => .tup [p.1, p.2]) := (rfl)
/-! slots -/
/-- a scratch slot: empty, or a value -/
def o2 : Option D → SV
  | none => .no
  | some d => .pu d
@[simp] theorem o2_none : o2 none = .no := (rfl)
@[simp] theorem o2_some (d) : o2 (some d) = .pu d := (rfl)
@[simp] theorem pu_o2 (d) : (∃ s, SV.pu d = o2 s) ↔ True := ⟨fun _ => trivial, fun _ => ⟨some d, rfl⟩⟩
@[simp] theorem no_o2 : (∃ s, SV.no = o2 s) ↔ True := ⟨fun _ => trivial, fun _ => ⟨none, rfl⟩⟩
def freeV : SV → Bool
  | .no | .pu _ | .ow _ => true
  | _ => false
@[simp] theorem v_free_no : freeV .no = true := (rfl)
@[simp] theorem v_free_pu (d) : freeV (.pu d) = true := (rfl)
@[simp] theorem v_free_ow (d) : freeV (.ow d) = true := (rfl)
@[simp] theorem free_lk (d) : freeV (.lk d) = false := (rfl)
@[simp] theorem free_mp (d) : freeV (.mp d) = false := (rfl)
@[simp] theorem free_o2 (d) : freeV (o2 d) = true := by cases d <;> rfl
@[simp] theorem own_no : isOwn .no = false := (rfl)
@[simp] theorem own_pu (d) : isOwn (.pu d) = false := (rfl)
@[simp] theorem own_ow (d) : isOwn (.ow d) = true := (rfl)
@[simp] theorem own_o2 (d) : isOwn (o2 d) = false := by cases d <;> rfl
theorem setS_is (ρ : Env) (i : Nat) (v : SV) : setS ρ i v = if (match ρ[i]? with | some x => freeV x | none => false) = true then some (ρ.set i v) else none := by
  unfold setS
  cases h : ρ[i]? with
  | none => rfl
  | some x => cases x <;> rfl
@[simp] theorem setS_0 (x : SV) (r : Env) (v : SV) : setS (x :: r) 0 v = if freeV x = true then some (v :: r) else none := by rw [setS_is]; rfl
@[simp] theorem setS_s (x : SV) (r : Env) (i : Nat) (v : SV) : setS (x :: r) (i + 1) v = (setS r i v).map (x :: ·) := by
  rw [setS_is, setS_is, List.getElem?_cons_succ, List.set_cons_succ]
  cases r[i]? with
  | none => rfl
  | some y => cases y <;> rfl
def contV : SV → Option D
  | .pu d | .ow d | .lk d | .mp d => some d
  | .no => none
@[simp] theorem contV_pu (d) : contV (.pu d) = some d := (rfl)
@[simp] theorem contV_ow (d) : contV (.ow d) = some d := (rfl)
@[simp] theorem contV_lk (d) : contV (.lk d) = some d := (rfl)
@[simp] theorem contV_mp (d) : contV (.mp d) = some d := (rfl)
@[simp] theorem contV_o2 (d) : contV (o2 d) = d := by cases d <;> rfl
@[simp] theorem cont_0 (x : SV) (r : Env) : cont (x :: r) 0 = contV x := by cases x <;> rfl
@[simp] theorem cont_s (x : SV) (r : Env) (i : Nat) : cont (x :: r) (i + 1) = cont r i := by unfold cont; rw [List.getElem?_cons_succ]
@[simp] theorem bindP_nm (i : Nat) (d : D) (ρ : Env) : bindP (.nm i) d ρ = setS ρ i (.pu d) := by rw [bindP]
@[simp] theorem bindP_tp (l : PtL) (ds : List D) (ρ : Env) : bindP (.tp l) (.tup ds) ρ = bindPL l ds ρ := by rw [bindP]
@[simp] theorem bindPL_nil (ρ : Env) : bindPL .nil [] ρ = some ρ := by rw [bindPL]
@[simp] theorem bindPL_cons (p : Pt) (r : PtL) (d : D) (ds : List D) (ρ : Env) : bindPL (.cons p r) (d :: ds) ρ = (bindP p d ρ).bind (bindPL r ds) := by rw [bindPL]
@[simp] theorem bors_nil : bors .nil = [] := (rfl)
@[simp] theorem bors_ex (c r) : bors (.ex c r) = bors r := (rfl)
@[simp] theorem bors_bo (i r) : bors (.bo i r) = i :: bors r := (rfl)
@[simp] theorem bors_mu (i r) : bors (.mu i r) = bors r := (rfl)
@[simp] theorem muAt_nil : muAt .nil = none := (rfl)
@[simp] theorem muAt_ex (c r) : muAt (.ex c r) = muAt r := (rfl)
@[simp] theorem muAt_bo (i r) : muAt (.bo i r) = muAt r := (rfl)
@[simp] theorem muAt_mu (i r) : muAt (.mu i r) = some i := (rfl)
@[simp] theorem fill_nil (ρ : Env) : MZ.fill .nil [] ρ = some [] := by rw [MZ.fill]
@[simp] theorem fill_ex (c r d ds ρ) : MZ.fill (.ex c r) (d :: ds) ρ = (MZ.fill r ds ρ).map (d :: ·) := by rw [MZ.fill]
@[simp] theorem fill_bo (i r ds ρ) : MZ.fill (.bo i r) ds ρ = (cont ρ i).bind fun d => (MZ.fill r ds ρ).map (d :: ·) := by cases ds <;> rw [MZ.fill]
def muV : SV → Option D
  | .ow d | .mp d => some d
  | _ => none
@[simp] theorem muV_ow (d) : muV (.ow d) = some d := (rfl)
@[simp] theorem muV_mp (d) : muV (.mp d) = some d := (rfl)
@[simp] theorem fill_mu (i r ds ρ) : MZ.fill (.mu i r) ds ρ = (ρ[i]?.bind muV).bind fun d => (MZ.fill r ds ρ).map (d :: ·) := by
  cases ds <;> rw [MZ.fill] <;> (cases ρ[i]? with
    | none => rfl
    | some v => cases v <;> rfl)
@[simp] theorem putOut_n (ρ : Env) : putOut none none ρ = some ρ := (rfl)
def putV (o : D) : SV → Option SV
  | .ow _ => some (.ow o)
  | .mp _ => some (.mp o)
  | _ => none
@[simp] theorem putV_ow (o d) : putV o (.ow d) = some (.ow o) := (rfl)
@[simp] theorem putV_mp (o d) : putV o (.mp d) = some (.mp o) := (rfl)
@[simp] theorem putOut_s (i : Nat) (o : D) (ρ : Env) : putOut (some i) (some o) ρ = (ρ[i]?.bind (putV o)).map fun v => ρ.set i v := by
  unfold putOut
  dsimp only
  cases ρ[i]? with
  | none => rfl
  | some v => cases v <;> rfl
@[simp] theorem lock1_no : lock1 .no = .no := (rfl)
@[simp] theorem lock1_pu (d) : lock1 (.pu d) = .pu d := (rfl)
@[simp] theorem lock1_ow (d) : lock1 (.ow d) = .lk d := (rfl)
@[simp] theorem lockL_nil (ρ) : lockL [] ρ = ρ := (rfl)
@[simp] theorem unlockL_nil (ρ0 ρ) : unlockL ρ0 [] ρ = ρ := (rfl)
@[simp] theorem lockL_cons (i r ρ) : lockL (i :: r) ρ = lockL r (match ρ[i]? with | some v => ρ.set i (lock1 v) | none => ρ) := (rfl)
@[simp] theorem unlockL_cons (ρ0 i r ρ) : unlockL ρ0 (i :: r) ρ = unlockL ρ0 r (match ρ0[i]?, ρ[i]? with | some o, some v => ρ.set i (unlock1 o v) | _, _ => ρ) := (rfl)
@[simp] theorem unlock1_ow (d d') : unlock1 (.ow d) (.lk d') = .ow d' := (rfl)
@[simp] theorem unlock1_pu (d v) : unlock1 (.pu d) v = v := (rfl)
@[simp] theorem wipeE_nil (ρ) : wipeE [] ρ = ρ := (rfl)
@[simp] theorem wipeE_cons (i r ρ) : wipeE (i :: r) ρ = wipeE r (ρ.set i .no) := (rfl)
@[simp] theorem backE_nil (ρ0 ρ) : backE ρ0 [] ρ = ρ := (rfl)
@[simp] theorem backE_cons (ρ0 i r ρ) : backE ρ0 (i :: r) ρ = backE ρ0 r (ρ.set i (ρ0[i]?.getD .no)) := (rfl)
@[simp] theorem okBo_nil (ρ) : okBo [] ρ = true := (rfl)
@[simp] theorem okBo_cons (i r ρ) : okBo (i :: r) ρ = ((match ρ[i]? with | some (.mp _) => false | _ => true) && okBo r ρ) := (rfl)
@[simp] theorem noOwn_nil (ρ) : noOwn [] ρ = true := (rfl)
@[simp] theorem noOwn_cons (i r ρ) : noOwn (i :: r) ρ = (!(isOwn (ρ[i]?.getD .no)) && noOwn r ρ) := (rfl)
@[simp] theorem lockA_nil : lockA [] = [] := (rfl)
def lockV : SV → SV
  | .ow d => .lk d
  | .mp d => .lk d
  | v => v
@[simp] theorem lockV_no : lockV .no = .no := (rfl)
@[simp] theorem lockV_pu (d) : lockV (.pu d) = .pu d := (rfl)
@[simp] theorem lockV_ow (d) : lockV (.ow d) = .lk d := (rfl)
@[simp] theorem lockV_mp (d) : lockV (.mp d) = .lk d := (rfl)
@[simp] theorem lockV_o2 (d) : lockV (o2 d) = o2 d := by cases d <;> rfl
@[simp] theorem lockA_cons (v r) : lockA (v :: r) = lockV v :: lockA r := by cases v <;> rfl
/-! expressions -/
section
variable {cf : FnI} {lf : Nat → Env → Out D} {ρ : Env}
@[simp] theorem e_cst (d) : evalE cf lf (.cst d) ρ = .ok d ρ := by rw [evalE]
@[simp] theorem e_glob (d) : evalE cf lf (.glob d) ρ = .ok d ρ := by rw [evalE]
def varV (i : Nat) (ρ : Env) : SV → Out D
  | .pu d => .ok d ρ
  | .ow d => .ok d (ρ.set i (.pu d))
  | _ => .bad
@[simp] theorem varV_pu (i ρ d) : varV i ρ (.pu d) = .ok d ρ := (rfl)
@[simp] theorem varV_ow (i ρ d) : varV i ρ (.ow d) = .ok d (ρ.set i (.pu d)) := (rfl)
@[simp] theorem varV_o2 (i ρ d) : varV i ρ (o2 (some d)) = .ok d ρ := (rfl)
@[simp] theorem e_var (i) : evalE cf lf (.var i) ρ = varV i ρ (ρ[i]?.getD .no) := by
  rw [evalE]
  cases ρ[i]? with
  | none => rfl
  | some v => cases v <;> rfl
@[simp] theorem e_prim (p as) : evalE cf lf (.prim p as) ρ = (evalX cf lf as ρ).bind fun ds ρ1 => lift ((MZ.fill as ds ρ1).bind (primR p)) ρ1 := by rw [evalE]
@[simp] theorem e_tup (as) : evalE cf lf (.tup as) ρ = (evalX cf lf as ρ).bind fun ds ρ1 => if ds.length ≤ line then .ok (.tup ds) ρ1 else .bad := by rw [evalE]
@[simp] theorem e_lst (as) : evalE cf lf (.lst as) ρ = (evalX cf lf as ρ).bind fun ds ρ1 => if ds.length ≤ line then .ok (.lst ds) ρ1 else .bad := by rw [evalE]
def andK (f : Env → Out D) : D → Env → Out D
  | .bl true, ρ1 => f ρ1
  | .bl false, ρ1 => .ok (.bl false) ρ1
  | _, _ => .bad
@[simp] theorem andK_b (f b ρ) : andK f (.bl b) ρ = if b = true then f ρ else .ok (.bl false) ρ := by cases b <;> rfl
def orK (f : Env → Out D) : D → Env → Out D
  | .bl true, ρ1 => .ok (.bl true) ρ1
  | .bl false, ρ1 => f ρ1
  | _, _ => .bad
@[simp] theorem orK_b (f b ρ) : orK f (.bl b) ρ = if b = true then .ok (.bl true) ρ else f ρ := by cases b <;> rfl
@[simp] theorem e_and (a b) : evalE cf lf (.and a b) ρ = (evalE cf lf a ρ).bind (andK (evalE cf lf b)) := by
  rw [evalE]
  congr 1
  funext x ρ1
  cases x <;> first | rfl | (rename_i b; cases b <;> rfl)
@[simp] theorem e_or (a b) : evalE cf lf (.or a b) ρ = (evalE cf lf a ρ).bind (orK (evalE cf lf b)) := by
  rw [evalE]
  congr 1
  funext x ρ1
  cases x <;> first | rfl | (rename_i b; cases b <;> rfl)
def ifK {α : Type} (z a b : α) : Option Bool → α
  | some true => a
  | some false => b
  | none => z
@[simp] theorem ifK_b {α : Type} (z a b : α) (x : Bool) : ifK z a b (some x) = if x = true then a else b := by cases x <;> rfl
@[simp] theorem e_ite (c a b) : evalE cf lf (.ite c a b) ρ = (evalE cf lf c ρ).bind fun x ρ1 => ifK .bad (evalE cf lf a ρ1) (evalE cf lf b ρ1) (truD x) := by
  rw [evalE]
  congr 1
def chnK (q : Prim) (y : D) (f : Env → Out D) (ρ2 : Env) : Option D → Out D
  | some (.bl true) => (f ρ2).bind fun z ρ3 => lift (primR q [y, z]) ρ3
  | some (.bl false) => .ok (.bl false) ρ2
  | _ => .bad
@[simp] theorem chnK_b (q y f ρ b) : chnK q y f ρ (some (.bl b)) = if b = true then (f ρ).bind fun z ρ3 => lift (primR q [y, z]) ρ3 else .ok (.bl false) ρ := by cases b <;> rfl
@[simp] theorem e_chn (p q a b c) : evalE cf lf (.chn p q a b c) ρ = (evalE cf lf a ρ).bind fun x ρ1 => (evalE cf lf b ρ1).bind fun y ρ2 => chnK q y (evalE cf lf c) ρ2 (primR p [x, y]) := by
  rw [evalE]
  congr 1
@[simp] theorem e_call (f as) : evalE cf lf (.call f as) ρ = (evalX cf lf as ρ).bind fun ds ρ1 => (lift (MZ.fill as ds ρ1) ρ1).bind fun ds ρ1 => callO (cf f ds) as ρ1 := by rw [evalE]
def ckK : D → Env → Out D
  | .int i, ρ1 => .ok (.int i) ρ1
  | _, _ => .bad
@[simp] theorem ckK_i (i ρ) : ckK (.int i) ρ = .ok (.int i) ρ := (rfl)
@[simp] theorem e_ck (c) : evalE cf lf (.ck c) ρ = (evalE cf lf c ρ).bind ckK := by
  rw [evalE]
  congr 1
  funext x ρ1
  cases x <;> rfl
@[simp] theorem e_lam (k) : evalE cf lf (.lam k) ρ = .ok (.clo k) ρ := by rw [evalE]
def toldK (lf : Nat → Env → Out D) (ks : List Nat) (ret : Str) : D → Env → Out D
  | .clo j, ρ1 => match lf j (lockA ρ1) with
      | .exc i => if ks.contains i then .ok (.str ret) ρ1 else .bad
      | .ok d _ => .ok d ρ1
      | .bad => .bad
  | _, _ => .bad
def toldO (ks : List Nat) (ret : Str) (ρ1 : Env) : Out D → Out D
  | .exc i => if ks.contains i then .ok (.str ret) ρ1 else .bad
  | .ok d _ => .ok d ρ1
  | .bad => .bad
@[simp] theorem toldO_ok (ks ret ρ1 d ρ2) : toldO ks ret ρ1 (.ok d ρ2) = .ok d ρ1 := (rfl)
@[simp] theorem toldO_exc (ks ret ρ1 i) : toldO ks ret ρ1 (.exc i) = if ks.contains i then .ok (.str ret) ρ1 else .bad := (rfl)
@[simp] theorem toldK_clo (ks ret j ρ) : toldK lf ks ret (.clo j) ρ = toldO ks ret ρ (lf j (lockA ρ)) := by
  rfl
@[simp] theorem e_told (a ks ret) : evalE cf lf (.told a ks ret) ρ = (evalE cf lf a ρ).bind (toldK lf ks ret) := by
  rw [evalE]
  congr 1
  funext x ρ1
  cases x <;> rfl
@[simp] theorem x_nil : evalX cf lf .nil ρ = .ok [] ρ := by rw [evalX]
@[simp] theorem x_ex (c r) : evalX cf lf (.ex c r) ρ = (evalE cf lf c ρ).bind fun d ρ1 => (evalX cf lf r ρ1).bind fun ds ρ2 => .ok (d :: ds) ρ2 := by rw [evalX]
def boK (o : Out (List D)) : Option D → Out (List D)
  | some _ => o
  | none => .bad
@[simp] theorem boK_s (o d) : boK o (some d) = o := (rfl)
@[simp] theorem x_bo (i r) : evalX cf lf (.bo i r) ρ = boK (evalX cf lf r ρ) (cont ρ i) := by
  rw [evalX]
  cases cont ρ i <;> rfl
@[simp] theorem x_mu (i r) : evalX cf lf (.mu i r) ρ = boK (evalX cf lf r ρ) (cont ρ i) := by
  rw [evalX]
  cases cont ρ i <;> rfl
@[simp] theorem callO_ok (d as ρ) (o : Option D) : callO (.ok d o) as ρ = (liftE (putOut (muAt as) o ρ)).bind fun _ ρ' => .ok d ρ' := (rfl)
@[simp] theorem callO_bad (as ρ) : callO .bad as ρ = .bad := (rfl)
@[simp] theorem callO_exc (k as ρ) : callO (.exc k) as ρ = .exc k := (rfl)
/-! statements -/
@[simp] theorem s_asg (p c) : evalS cf lf (.asg p c) ρ = (evalE cf lf c ρ).rs fun d ρ1 => ofE (bindP p d ρ1) := by rw [evalS]
def isLst : D → Bool
  | .lst _ => true
  | _ => false
@[simp] theorem isLst_l (l) : isLst (.lst l) = true := (rfl)
theorem fresh_is (b d) : fresh b d = (!b || isLst d) := by cases d <;> rfl
@[simp] theorem fresh_f (d) : fresh false d = true := (rfl)
@[simp] theorem fresh_t (d) : fresh true d = isLst d := by cases d <;> rfl
@[simp] theorem s_own (i c) : evalS cf lf (.own i c) ρ = (evalE cf lf c ρ).rs fun d ρ1 => if isLst d then ofE (setS ρ1 i (.ow d)) else .bad := by
  rw [evalS]
  rfl
@[simp] theorem ownV_t (d) : ownV true d = .ow d := (rfl)
@[simp] theorem ownV_f (d) : ownV false d = .pu d := (rfl)
@[simp] theorem s_par (oi oj i j a b) : evalS cf lf (.par oi oj i j a b) ρ = (evalE cf lf a ρ).rs fun x ρ1 => (evalE cf lf b ρ1).rs fun y ρ2 => if (fresh oi x && fresh oj y && i != j) = true then ofE ((setS ρ2 i (ownV oi x)).bind fun ρ3 => setS ρ3 j (ownV oj y)) else .bad := by rw [evalS]
def augK (p : Prim) (i : Nat) (d : D) (ρ1 : Env) : SV → Rs
  | .pu x => ofE ((primR p [x, d]).bind fun y => setS ρ1 i (.pu y))
  | _ => .bad
@[simp] theorem augK_pu (p i d ρ1 x) : augK p i d ρ1 (.pu x) = ofE ((primR p [x, d]).bind fun y => setS ρ1 i (.pu y)) := (rfl)
def haveK (o : Rs) : Option D → Rs
  | some _ => o
  | none => .bad
@[simp] theorem haveK_s (o d) : haveK o (some d) = o := (rfl)
@[simp] theorem s_aug (p i c) : evalS cf lf (.aug p i c) ρ = haveK ((evalE cf lf c ρ).rs fun d ρ1 => augK p i d ρ1 (ρ1[i]?.getD .no)) (cont ρ i) := by
  rw [evalS]
  cases cont ρ i with
  | none => rfl
  | some y =>
    dsimp only [haveK]
    congr 1
    funext d ρ1
    cases ρ1[i]? with
    | none => rfl
    | some v => cases v <;> rfl
@[simp] theorem s_expr (c) : evalS cf lf (.expr c) ρ = (evalE cf lf c ρ).rs fun _ ρ1 => .next ρ1 := by rw [evalS]
def appK (i : Nat) (d : D) (ρ1 : Env) : SV → Rs
  | .ow (.lst l) => if l.length < line then .next (ρ1.set i (.ow (.lst (l ++ [d])))) else .bad
  | .mp (.lst l) => if l.length < line then .next (ρ1.set i (.mp (.lst (l ++ [d])))) else .bad
  | _ => .bad
@[simp] theorem appK_ow (i d ρ1 l) : appK i d ρ1 (.ow (.lst l)) = if l.length < line then .next (ρ1.set i (.ow (.lst (l ++ [d])))) else .bad := (rfl)
@[simp] theorem appK_mp (i d ρ1 l) : appK i d ρ1 (.mp (.lst l)) = if l.length < line then .next (ρ1.set i (.mp (.lst (l ++ [d])))) else .bad := (rfl)
def lstK (o : Rs) : Option D → Rs
  | some (.lst _) => o
  | _ => .bad
@[simp] theorem lstK_l (o l) : lstK o (some (.lst l)) = o := (rfl)
@[simp] theorem s_app (i c) : evalS cf lf (.app i c) ρ = lstK ((evalE cf lf c ρ).rs fun d ρ1 => appK i d ρ1 (ρ1[i]?.getD .no)) (cont ρ i) := by
  rw [evalS]
  cases cont ρ i with
  | none => rfl
  | some y =>
    cases y <;> first | rfl | skip
    dsimp only [lstK]
    congr 1
    funext d ρ1
    cases ρ1[i]? with
    | none => rfl
    | some v =>
      cases v <;> first | rfl | skip
      all_goals rename_i z; cases z <;> rfl
def setK (i : Nat) (d x : D) (ρ2 : Env) : SV → Rs
  | .ow (.lst l) => match x with
    | .int j => if 0 ≤ j ∧ j < l.length then .next (ρ2.set i (.ow (.lst (l.set j.toNat d)))) else .bad
    | _ => .bad
  | .mp (.lst l) => match x with
    | .int j => if 0 ≤ j ∧ j < l.length then .next (ρ2.set i (.mp (.lst (l.set j.toNat d)))) else .bad
    | _ => .bad
  | _ => .bad
@[simp] theorem setK_ow (i d j ρ2 l) : setK i d (.int j) ρ2 (.ow (.lst l)) = if 0 ≤ j ∧ j < l.length then .next (ρ2.set i (.ow (.lst (l.set j.toNat d)))) else .bad := (rfl)
@[simp] theorem setK_mp (i d j ρ2 l) : setK i d (.int j) ρ2 (.mp (.lst l)) = if 0 ≤ j ∧ j < l.length then .next (ρ2.set i (.mp (.lst (l.set j.toNat d)))) else .bad := (rfl)
@[simp] theorem s_setIx (i k v) : evalS cf lf (.setIx i k v) ρ = (evalE cf lf v ρ).rs fun d ρ1 => haveK ((evalE cf lf k ρ1).rs fun x ρ2 => setK i d x ρ2 (ρ2[i]?.getD .no)) (cont ρ1 i) := by
  rw [evalS]
  congr 1
  funext d ρ1
  cases cont ρ1 i with
  | none => rfl
  | some y =>
    dsimp only [haveK]
    congr 1
    funext x ρ2
    cases ρ2[i]? with
    | none => rfl
    | some v =>
      cases v <;> first | rfl | skip
      all_goals rename_i z; cases z <;> first | rfl | skip
      all_goals cases x <;> rfl
@[simp] theorem s_ife (c a b) : evalS cf lf (.ife c a b) ρ = (evalE cf lf c ρ).rs fun x ρ1 => ifK .bad (evalSL cf lf a ρ1) (evalSL cf lf b ρ1) (truD x) := by
  rw [evalS]
  congr 1
def forsK (p : Pt) (body : Env → Rs) (bs : List Nat) (ρ1 : Env) : Option (List D) → Rs
  | some items => if okBo bs ρ1 = true then (forF p body items (lockL bs ρ1)).seq fun ρ2 => .next (unlockL ρ1 bs ρ2) else .bad
  | none => .bad
@[simp] theorem forsK_s (p body bs ρ1 items) : forsK p body bs ρ1 (some items) = if okBo bs ρ1 = true then (forF p body items (lockL bs ρ1)).seq fun ρ2 => .next (unlockL ρ1 bs ρ2) else .bad := (rfl)
@[simp] theorem s_fors (p k as b) : evalS cf lf (.fors p k as b) ρ = (evalX cf lf as ρ).rs fun ds ρ1 => forsK p (evalSL cf lf b) (bors as) ρ1 ((MZ.fill as ds ρ1).bind (itR k)) := by
  rw [evalS]
  congr 1
  funext ds ρ1
  cases (MZ.fill as ds ρ1).bind (itR k) with
  | none => rfl
  | some items =>
    dsimp only [forsK]
    cases okBo (bors as) ρ1 <;> rfl
theorem s_while (c b) : evalS cf lf (.while c b) ρ = whileF (evalE cf lf c) (evalSL cf lf b) mostW ρ := by rw [evalS]
theorem s_whileW {W : Nat} (h : mostW = W) (c b) : evalS cf lf (.while c b) ρ = whileF (evalE cf lf c) (evalSL cf lf b) W ρ := by rw [← h, evalS]
@[simp] theorem s_ret (c) : evalS cf lf (.ret c) ρ = (evalE cf lf c ρ).rs fun d ρ1 => .ret d ρ1 := by rw [evalS]
@[simp] theorem s_retN : evalS cf lf .retN ρ = .ret .non ρ := by rw [evalS]
@[simp] theorem s_raise (k) : evalS cf lf (.raise k) ρ = .exc k := by rw [evalS]
@[simp] theorem s_pass : evalS cf lf .pass ρ = .next ρ := by rw [evalS]
@[simp] theorem s_brk : evalS cf lf .brk ρ = .brk ρ := by rw [evalS]
@[simp] theorem s_cont : evalS cf lf .cont ρ = .cont ρ := by rw [evalS]
@[simp] theorem sl_nil : evalSL cf lf .nil ρ = .next ρ := by rw [evalSL]
@[simp] theorem sl_cons (s r) : evalSL cf lf (.cons s r) ρ = (evalS cf lf s ρ).seq (evalSL cf lf r) := by rw [evalSL]
end
/-! calls -/
theorem call_is {fds : List Fd} {n i : Nat} {fd : Fd} {ds : List D} (hf : fds[i]? = some fd) (hl : ds.length = fd.np) : callF fds (n + 1) i ds = endF fd.mu (evalSL (callF fds n) (lamsF (callF fds n) fd) fd.body (entry fd ds)) := by
  rw [callF]
  show (match fds[i]? with | some fd => runF (callF fds n) fd ds | none => FO.bad) = _
  rw [hf]
  show runF (callF fds n) fd ds = _
  unfold runF
  rw [if_pos hl]
@[simp] theorem endF_n (d ρ) : endF none (.ret d ρ) = .ok d none := (rfl)
@[simp] theorem endF_e (m k) : endF m (.exc k) = .exc k := (rfl)
@[simp] theorem endF_b (m) : endF m .bad = .bad := (rfl)
@[simp] theorem endF_nn (ρ) : endF none (.next ρ) = .ok .non none := (rfl)
def mpK (d : D) : Option SV → FO
  | some (.mp o) => .ok d (some o)
  | _ => .bad
@[simp] theorem mpK_m (d o) : mpK d (some (.mp o)) = .ok d (some o) := (rfl)
@[simp] theorem endF_s (i d ρ) : endF (some i) (.ret d ρ) = mpK d ρ[i]? := by
  show endO (some i) d ρ = _
  unfold endO outD
  dsimp only
  cases ρ[i]? with
  | none => rfl
  | some v => cases v <;> rfl
/-! loops -/
def turnR : Rs → Rs
  | .cont ρ => .next ρ
  | r => r
@[simp] theorem turnR_n (ρ) : turnR (.next ρ) = .next ρ := (rfl)
@[simp] theorem turnR_c (ρ) : turnR (.cont ρ) = .next ρ := (rfl)
@[simp] theorem turnR_r (d ρ) : turnR (.ret d ρ) = .ret d ρ := (rfl)
@[simp] theorem turnR_e (k) : turnR (.exc k) = .exc k := (rfl)
@[simp] theorem turnR_b (ρ) : turnR (.brk ρ) = .brk ρ := (rfl)
/-- one turn of a for -/
def turnF (p : Pt) (body : Env → Rs) (d : D) (ρ : Env) : Rs := (ofE (bindP p d ρ)).seq body
def contF (f : Env → Rs) : Rs → Rs
  | .next ρ => f ρ
  | .cont ρ => f ρ
  | .brk ρ => .next ρ
  | .ret d ρ => .ret d ρ
  | .exc k => .exc k
  | .bad => .bad
@[simp] theorem contF_n (f ρ) : contF f (.next ρ) = f ρ := (rfl)
@[simp] theorem contF_c (f ρ) : contF f (.cont ρ) = f ρ := (rfl)
@[simp] theorem contF_b (f ρ) : contF f (.brk ρ) = .next ρ := (rfl)
@[simp] theorem contF_r (f d ρ) : contF f (.ret d ρ) = .ret d ρ := (rfl)
@[simp] theorem contF_e (f k) : contF f (.exc k) = .exc k := (rfl)
theorem forF_nil (p : Pt) (body : Env → Rs) (ρ) : forF p body [] ρ = .next ρ := by rw [forF]
theorem forF_cons (p : Pt) (body : Env → Rs) (d ds ρ) : forF p body (d :: ds) ρ = contF (forF p body ds) (turnF p body d ρ) := by
  rw [forF]
  unfold turnF
  cases bindP p d ρ with
  | none => rfl
  | some ρ0 =>
    simp only [ofE_some, rq_next]
    cases body ρ0 <;> rfl
/-- a for whose turns all go on, by what holds ahead of what is left -/
theorem forF_inv {p : Pt} {body : Env → Rs} (I : List D → Env → Prop) : ∀ {items : List D} {ρ : Env}, I items ρ →
    (∀ d ds ρ, d ∈ items → I (d :: ds) ρ → ∃ ρ', (turnF p body d ρ = .next ρ' ∨ turnF p body d ρ = .cont ρ') ∧ I ds ρ') → ∃ ρ', forF p body items ρ = .next ρ' ∧ I [] ρ'
  | [], ρ, h, _ => ⟨ρ, by rw [forF], h⟩
  | d :: ds, ρ, h, st => by
    obtain ⟨ρ1, e, h1⟩ := st d ds ρ List.mem_cons_self h
    obtain ⟨ρ2, e2, h2⟩ := forF_inv I (items := ds) h1 fun d' ds' ρ m => st d' ds' ρ (List.mem_cons_of_mem _ m)
    refine ⟨ρ2, ?_, h2⟩
    rw [forF_cons]
    rcases e with e | e <;> rw [e] <;> exact e2
/-- what a run ends in: it goes on in a state, or it ends for good -/
def EndsIn (J : Env → Prop) (R : D → Prop) (X : Nat → Prop) : Rs → Prop
  | .next ρ => J ρ
  | .ret d _ => R d
  | .exc k => X k
  | _ => False
@[simp] theorem ends_n (J R X ρ) : EndsIn J R X (.next ρ) ↔ J ρ := Iff.rfl
@[simp] theorem ends_r (J R X d ρ) : EndsIn J R X (.ret d ρ) ↔ R d := Iff.rfl
@[simp] theorem ends_e (J R X k) : EndsIn J R X (.exc k) ↔ X k := Iff.rfl
/-- a for that may return, or raise -/
theorem forF_ret {p : Pt} {body : Env → Rs} (I : List D → Env → Prop) (R : D → Prop) (X : Nat → Prop) : ∀ {items : List D} {ρ : Env}, I items ρ →
    (∀ d ds ρ, d ∈ items → I (d :: ds) ρ → EndsIn (I ds) R X (turnR (turnF p body d ρ))) → EndsIn (I []) R X (forF p body items ρ)
  | [], ρ, h, _ => by rw [forF]; exact h
  | d :: ds, ρ, h, st => by
    have e := st d ds ρ List.mem_cons_self h
    have r := fun ρ' h' => forF_ret I R X (items := ds) (ρ := ρ') h' fun d' ds' ρ m => st d' ds' ρ (List.mem_cons_of_mem _ m)
    rw [forF_cons]
    cases ht : turnF p body d ρ <;> rw [ht] at e
    · exact r _ e
    · exact e
    · exact e.elim
    · exact r _ e
    · exact e
    · exact e.elim
/-- a while, by what holds ahead of each turn and a measure -/
theorem whileF_inv {c : Env → Out D} {body : Env → Rs} (I : Env → Prop) (m : Env → Nat) (J : Env → Prop)
    (step : ∀ ρ, I ρ → ∃ b ρ1, c ρ = .ok (.bl b) ρ1 ∧ (b = false → J ρ1) ∧ (b = true → ∃ ρ2, body ρ1 = .next ρ2 ∧ I ρ2 ∧ m ρ2 < m ρ)) :
    ∀ (n : Nat) (ρ : Env), I ρ → m ρ < n → ∃ ρ', whileF c body n ρ = .next ρ' ∧ J ρ'
  | 0, ρ, h, l => by omega
  | n + 1, ρ, h, l => by
    obtain ⟨b, ρ1, e, f, t⟩ := step ρ h
    rw [whileF, e]
    cases b with
    | false => exact ⟨ρ1, rfl, f rfl⟩
    | true =>
      obtain ⟨ρ2, e2, h2, l2⟩ := t rfl
      obtain ⟨ρ', e3, h3⟩ := whileF_inv I m J step n ρ2 h2 (by omega)
      refine ⟨ρ', ?_, h3⟩
      simp only [or_ok, truD_bl, e2]
      exact e3
end MZ.V
end
section
set_option maxRecDepth 100000
/-! The dice of the laws. -/
namespace MZ.V
open PySem
def rollB (i : Nat) : SL := (.cons (.ife (.or (.prim .eq (.ex (.prim .ix (.bo 0 (.ex (.cst (.int 2)) .nil))) (.ex (.cst (.int 2)) .nil))) (.and (.prim .eq (.ex (.prim .ix (.bo 0 (.ex (.cst (.int 2)) .nil))) (.ex (.cst (.int 1)) .nil))) (.prim .gt (.ex (.prim .ix (.bo 0 (.ex (.cst (.int 0)) .nil))) (.ex (.cst (.int 0)) .nil))))) (.cons (.asg (.nm 2) (.prim .mod (.ex (.prim .toInt (.ex (.prim .ix (.bo 0 (.ex (.cst (.int 0)) .nil))) .nil)) (.ex (.var 1) .nil))))
  (.cons (.setIx 0 (.cst (.int 0)) (.prim .fdiv (.ex (.prim .ix (.bo 0 (.ex (.cst (.int 0)) .nil))) (.ex (.var 1) .nil))))
  (.cons (.ret (.var 2))
  .nil))) .nil)
  (.cons (.setIx 0 (.cst (.int 2)) (.cst (.int 0)))
  (.cons (.ife (.prim .gt (.ex (.var 1) (.ex (.cst (.int 100000000)) .nil))) (.cons (.ret (.prim .mod (.ex (.prim .toInt (.ex (.prim .add (.ex (.prim .mul (.ex (.call i (.mu 0 (.ex (.prim .add (.ex (.prim .fdiv (.ex (.var 1) (.ex (.cst (.int 100000000)) .nil))) (.ex (.cst (.int 1)) .nil))) .nil))) (.ex (.cst (.int 100000000)) .nil))) (.ex (.call i (.mu 0 (.ex (.cst (.int 100000000)) .nil))) .nil))) .nil)) (.ex (.var 1) .nil))))
  .nil) .nil)
  (.cons (.setIx 0 (.cst (.int 0)) (.prim .mod (.ex (.prim .toInt (.ex (.prim .add (.ex (.prim .add (.ex (.prim .mul (.ex (.prim .ix (.bo 0 (.ex (.cst (.int 0)) .nil))) (.ex (.cst (.int 48271)) .nil))) (.ex (.prim .mul (.ex (.prim .ix (.bo 0 (.ex (.cst (.int 1)) .nil))) (.ex (.cst (.int 69621)) .nil))) .nil))) (.ex (.cst (.int 11)) .nil))) .nil)) (.ex (.cst (.int 2147483647)) .nil))))
  (.cons (.setIx 0 (.cst (.int 1)) (.prim .add (.ex (.prim .ix (.bo 0 (.ex (.cst (.int 1)) .nil))) (.ex (.cst (.int 1)) .nil))))
  (.cons (.ret (.prim .mod (.ex (.prim .toInt (.ex (.prim .fdiv (.ex (.prim .ix (.bo 0 (.ex (.cst (.int 0)) .nil))) (.ex (.cst (.int 7)) .nil))) .nil)) (.ex (.var 1) .nil))))
  .nil))))))
def fdRoll (i : Nat) : Fd := { np := 2, mu := some 0, n := 3, body := rollB i, lams := [] }
theorem log2_mono {a b : Nat} (h : a ≤ b) : a.log2 ≤ b.log2 := by
  by_cases z : a = 0
  · subst z; simp
  · have hb : b ≠ 0 := by omega
    exact (Nat.le_log2 hb).mpr (Nat.le_trans ((Nat.le_log2 z).mp (Nat.le_refl _)) h)
theorem log2_lt_of {a k : Nat} (h : a < 2 ^ k) (hk : 0 < k) : a.log2 < k := by
  by_cases z : a = 0
  · subst z; simpa using hk
  · exact (Nat.log2_lt z).mpr h
/-- a dice with room for B more rolls -/
def Dice (B : Nat) (d : D) : Prop := ∃ a b c : Int, d = .lst [.int a, .int b, .int c] ∧ a.natAbs.log2 ≤ 1048600 ∧ 0 ≤ b ∧ b + B ≤ 1000000000000 ∧ (c = 0 ∨ c = 1 ∨ c = 2)
theorem Dice.mono {B B' : Nat} {d : D} (h : Dice B d) (l : B' ≤ B) : Dice B' d := by
  obtain ⟨a, b, c, e, h1, h2, h3, h4⟩ := h
  exact ⟨a, b, c, e, h1, h2, by omega, h4⟩
theorem mulOk_of {a b : Int} (k m : Nat) (h1 : a.natAbs.log2 ≤ k) (h2 : b.natAbs.log2 ≤ m) (h : k + m < 100000000) : mulOk a b = true := by
  unfold mulOk
  exact decide_eq_true (by omega)
theorem mulOk_small {a b : Int} (h1 : a.natAbs < 2 ^ 10000) (h2 : b.natAbs < 2 ^ 10000) : mulOk a b = true := by
  refine mulOk_of 10000 10000 ?_ ?_ (by decide)
  · exact Nat.le_of_lt (log2_lt_of h1 (by decide))
  · exact Nat.le_of_lt (log2_lt_of h2 (by decide))
theorem lt_big {a : Nat} (h : a < 1000000000000000000000) : a < 2 ^ 10000 := Nat.lt_trans h (by
  have : (1000000000000000000000 : Nat) < 2 ^ 100 := by decide
  exact Nat.lt_of_lt_of_le this (Nat.pow_le_pow_right (by decide) (by decide)))
theorem mulOk_int {a b : Int} (h1 : -1000000000000000000000 < a) (h1' : a < 1000000000000000000000) (h2 : -1000000000000000000000 < b) (h2' : b < 1000000000000000000000) : mulOk a b = true :=
  mulOk_small (lt_big (by omega)) (lt_big (by omega))
theorem divOk_of {j : Int} (h : 0 < j) (l : j < 1000000000000000000000) : divOk j = true := by
  unfold divOk
  refine decide_eq_true ⟨h, ?_⟩
  refine log2_lt_of (Nat.lt_trans (show j.natAbs < 2 ^ 100 by have : (2 : Nat) ^ 100 = 1267650600228229401496703205376 := by decide
                                                              omega) (Nat.pow_lt_pow_right (by decide) (by decide))) (by decide)
theorem log2_div (a m : Int) : (a / m).natAbs.log2 ≤ a.natAbs.log2 := log2_mono (Int.natAbs_ediv_le_natAbs a m)
theorem roll_ok {fds : List Fd} {n i : Nat} (hn : 1 ≤ n) (hf : fds[i]? = some (fdRoll i)) {B : Nat} {d : D} {m : Int} (h : Dice (B + 1) d) (h1 : 0 < m) (h2 : m ≤ 100000000) :
    ∃ (r : Nat) (d' : D), callF fds n i [d, .int m] = .ok (.int r) (some d') ∧ (r : Int) < m ∧ Dice B d' := by
  obtain ⟨n, rfl⟩ : ∃ m, n = m + 1 := ⟨n - 1, by omega⟩
  obtain ⟨a, b, c, rfl, ha, hb, hB, hc⟩ := h
  have en : entry (fdRoll i) [.lst [.int a, .int b, .int c], .int m] = [.mp (.lst [.int a, .int b, .int c]), .pu (.int m), .no] := rfl
  have dm : divOk m = true := divOk_of h1 (by omega)
  have d7 : divOk 7 = true := divOk_of (by decide) (by decide)
  have m1 : mulOk a 48271 = true := mulOk_of 1048600 20 ha (by decide) (by decide)
  have m2 : mulOk b 69621 = true := mulOk_int (by omega) (by omega) (by decide) (by decide)
  have hg : ¬ 100000000 < m := by omega
  have t := Int.emod_nonneg a (show m ≠ 0 by omega)
  have t' := Int.emod_lt_of_pos a h1
  have u := Int.emod_nonneg ((a * 48271 + b * 69621 + 11) % 2147483647 / 7) (show m ≠ 0 by omega)
  have u' := Int.emod_lt_of_pos ((a * 48271 + b * 69621 + 11) % 2147483647 / 7) h1
  have w := Int.emod_nonneg (a * 48271 + b * 69621 + 11) (show (2147483647 : Int) ≠ 0 by decide)
  have w' := Int.emod_lt_of_pos (a * 48271 + b * 69621 + 11) (show (0 : Int) < 2147483647 by decide)
  have D1 : Dice B (.lst [.int (a / m), .int b, .int c]) := ⟨_, _, _, rfl, Nat.le_trans (log2_div a m) ha, hb, by omega, hc⟩
  have D2 : Dice B (.lst [.int ((a * 48271 + b * 69621 + 11) % 2147483647), .int (b + 1), .int 0]) := by
    refine ⟨_, _, _, rfl, ?_, by omega, by omega, .inl rfl⟩
    refine Nat.le_of_lt (log2_lt_of (Nat.lt_trans (m := 2 ^ 32) (by omega) (Nat.pow_lt_pow_right (by decide) (by decide))) (by decide))
  have ey : ((a * 48271 + b * 69621 + 11) % 2147483647 / 7 % m) = (((a * 48271 + b * 69621 + 11) % 2147483647 / 7 % m).toNat : Int) := by omega
  have ex : a % m = ((a % m).toNat : Int) := by omega
  have ix0 : ∀ x y z : Int, ixD [.int x, .int y, .int z] 0 = some (.int x) := fun _ _ _ => rfl
  have ix1 : ∀ x y z : Int, ixD [.int x, .int y, .int z] 1 = some (.int y) := fun _ _ _ => rfl
  have ix2 : ∀ x y z : Int, ixD [.int x, .int y, .int z] 2 = some (.int z) := fun _ _ _ => rfl
  have eqi : ∀ x y : Int, eqD (.int x) (.int y) = (x == y) := fun x y => by rw [eqD]
  have oki : ∀ x : Int, okD 60 (.int x) = true := fun x => by rw [okD]
  rw [call_is hf rfl, en]
  have body := (show (fdRoll i).body = rollB i from rfl)
  have mu : (fdRoll i).mu = some 0 := rfl
  rw [body, mu]
  unfold rollB
  by_cases hcase : c = 2 ∨ (c = 1 ∧ 0 < a)
  · refine ⟨(a % m).toNat, _, ?_, by omega, D1⟩
    rw [← ex]
    rcases hcase with rfl | ⟨rfl, ha0⟩
    · simp [ix0, ix1, ix2, eqi, oki, dm, h1]
    · simp [ix0, ix1, ix2, eqi, oki, dm, h1, ha0]
  · refine ⟨((a * 48271 + b * 69621 + 11) % 2147483647 / 7 % m).toNat, _, ?_, by omega, D2⟩
    rw [← ey]
    have hc2 : c = 0 ∨ (c = 1 ∧ ¬ 0 < a) := by omega
    rcases hc2 with rfl | ⟨rfl, ha0⟩
    · simp [ix0, ix1, ix2, eqi, oki, dm, h1, hg, m1, m2, d7]
    · simp [ix0, ix1, ix2, eqi, oki, dm, h1, hg, m1, m2, d7, ha0]
end MZ.V
end
section
set_option maxRecDepth 100000
/-! Data compared, loops by place, comprehensions. -/
namespace MZ.V
open PySem
/-! ### == -/
@[simp] theorem okD_non (n) : okD n .non = true := by cases n <;> rw [okD]
@[simp] theorem okD_bl (n b) : okD n (.bl b) = true := by cases n <;> rw [okD]
@[simp] theorem okD_int (n i) : okD n (.int i) = true := by cases n <;> rw [okD]
@[simp] theorem okD_str (n z) : okD n (.str z) = PySem.PyData.strOk z := by cases n <;> rw [okD]
@[simp] theorem okD_tup (n l) : okD (n + 1) (.tup l) = okL n l := by rw [okD]
@[simp] theorem okD_lst (n l) : okD (n + 1) (.lst l) = okL n l := by rw [okD]
@[simp] theorem okL_nil (n) : okL n [] = true := by rw [okL]
@[simp] theorem okL_cons (n x r) : okL n (x :: r) = (okD n x && okL n r) := by rw [okL]
theorem okL_of {n : Nat} : ∀ {l : List D}, (∀ d ∈ l, okD n d = true) → okL n l = true
  | [], _ => okL_nil n
  | d :: r, h => by rw [okL_cons, h d List.mem_cons_self, okL_of fun x m => h x (List.mem_cons_of_mem _ m)]; rfl
theorem okL_map {α : Type} {n : Nat} {f : α → D} (h : ∀ a, okD n (f a) = true) (l : List α) : okL n (l.map f) = true :=
  okL_of fun d m => by obtain ⟨a, _, rfl⟩ := List.mem_map.mp m; exact h a
@[simp] theorem eq_ii (i j : Int) : eqD (.int i) (.int j) = decide (i = j) := by rw [eqD]; rfl
@[simp] theorem eq_bb (i j : Bool) : eqD (.bl i) (.bl j) = decide (i = j) := by rw [eqD]; cases i <;> cases j <;> rfl
@[simp] theorem eq_ss (i j : Str) : eqD (.str i) (.str j) = (i == j) := by rw [eqD]
@[simp] theorem eq_nn : eqD .non .non = true := by rw [eqD]
@[simp] theorem eq_tt (i j : List D) : eqD (.tup i) (.tup j) = eqL i j := by rw [eqD]
@[simp] theorem eq_ll (i j : List D) : eqD (.lst i) (.lst j) = eqL i j := by rw [eqD]
@[simp] theorem eqL_nn : eqL [] [] = true := by rw [eqL]
@[simp] theorem eqL_cc (x xs y ys) : eqL (x :: xs) (y :: ys) = (eqD x y && eqL xs ys) := by rw [eqL]
@[simp] theorem eqL_nc (y ys) : eqL [] (y :: ys) = false := by rw [eqL] <;> simp
@[simp] theorem eqL_cn (y ys) : eqL (y :: ys) [] = false := by rw [eqL] <;> simp
@[simp] theorem eq_nt (l) : eqD .non (.tup l) = false := by rw [eqD] <;> simp
@[simp] theorem eq_tn (l) : eqD (.tup l) .non = false := by rw [eqD] <;> simp
@[simp] theorem eq_nl (l) : eqD .non (.lst l) = false := by rw [eqD] <;> simp
@[simp] theorem eq_ln (l) : eqD (.lst l) .non = false := by rw [eqD] <;> simp
@[simp] theorem eq_ni (l) : eqD .non (.int l) = false := by rw [eqD] <;> simp
@[simp] theorem eq_in (l) : eqD (.int l) .non = false := by rw [eqD] <;> simp
@[simp] theorem eq_ls (l z) : eqD (.lst l) (.str z) = false := by rw [eqD] <;> simp
@[simp] theorem eq_ts (l z) : eqD (.tup l) (.str z) = false := by rw [eqD] <;> simp
@[simp] theorem eq_is (l z) : eqD (.int l) (.str z) = false := by rw [eqD] <;> simp
@[simp] theorem eq_bs (l z) : eqD (.bl l) (.str z) = false := by rw [eqD] <;> simp
@[simp] theorem eq_ns (z) : eqD .non (.str z) = false := by rw [eqD] <;> simp
@[simp] theorem eq_it (l z) : eqD (.int l) (.tup z) = false := by rw [eqD] <;> simp
@[simp] theorem eq_ti (l z) : eqD (.tup z) (.int l) = false := by rw [eqD] <;> simp
@[simp] theorem eq_il (l z) : eqD (.int l) (.lst z) = false := by rw [eqD] <;> simp
@[simp] theorem eq_li (l z) : eqD (.lst z) (.int l) = false := by rw [eqD] <;> simp
@[simp] theorem eq_tl (l z) : eqD (.tup l) (.lst z) = false := by rw [eqD] <;> simp
@[simp] theorem eq_lt (l z) : eqD (.lst l) (.tup z) = false := by rw [eqD] <;> simp
@[simp] theorem eq_st (l z) : eqD (.str z) (.tup l) = false := by rw [eqD] <;> simp
@[simp] theorem eq_sn (z) : eqD (.str z) .non = false := by rw [eqD] <;> simp
@[simp] theorem eq_sl (l z) : eqD (.str z) (.lst l) = false := by rw [eqD] <;> simp
@[simp] theorem eq_si (l z) : eqD (.str z) (.int l) = false := by rw [eqD] <;> simp
mutual
/-- data that == tells apart just as they are -/
def plD : D → Bool
  | .non | .int _ | .str _ => true
  | .tup l => plL l
  | .lst l => plL l
  | _ => false
def plL : List D → Bool
  | [] => true
  | x :: r => plD x && plL r
end
mutual
theorem eqD_pl : ∀ (a b : D), plD a = true → plD b = true → (eqD a b = true ↔ a = b)
  | .non, b, _, h => by cases b <;> simp [eqD, plD] at h ⊢
  | .int i, b, _, h => by cases b <;> simp [eqD, plD] at h ⊢
  | .str i, b, _, h => by cases b <;> simp [eqD, plD] at h ⊢
  | .tup l, b, h1, h => by
    cases b <;> simp [eqD, plD] at h h1 ⊢
    exact eqL_pl _ _ h1 h
  | .lst l, b, h1, h => by
    cases b <;> simp [eqD, plD] at h h1 ⊢
    exact eqL_pl _ _ h1 h
  | .bl _, b, h1, _ => by simp [plD] at h1
  | .dic _ _, b, h1, _ => by simp [plD] at h1
  | .obj _ _, b, h1, _ => by simp [plD] at h1
  | .clo _, b, h1, _ => by simp [plD] at h1
theorem eqL_pl : ∀ (a b : List D), plL a = true → plL b = true → (eqL a b = true ↔ a = b)
  | [], b, _, h => by cases b <;> simp
  | x :: xs, b, h1, h => by
    cases b with
    | nil => simp
    | cons y ys =>
      simp only [plL, Bool.and_eq_true] at h h1
      simp only [eqL_cc, Bool.and_eq_true, List.cons.injEq]
      rw [eqD_pl x y h1.1 h.1, eqL_pl xs ys h1.2 h.2]
end
theorem plL_of : ∀ {l : List D}, (∀ d ∈ l, plD d = true) → plL l = true
  | [], _ => rfl
  | d :: r, h => by rw [plL, h d List.mem_cons_self, plL_of fun x m => h x (List.mem_cons_of_mem _ m)]; rfl
theorem plL_map {α : Type} {f : α → D} (h : ∀ a, plD (f a) = true) (l : List α) : plL (l.map f) = true :=
  plL_of fun d m => by obtain ⟨a, _, rfl⟩ := List.mem_map.mp m; exact h a
open Classical in
theorem eqD_dec {a b : D} (h1 : plD a = true) (h2 : plD b = true) : eqD a b = decide (a = b) := by
  rw [Bool.eq_iff_iff, decide_eq_true_iff]
  exact eqD_pl a b h1 h2
open Classical in
theorem eqL_dec {a b : List D} (h1 : plL a = true) (h2 : plL b = true) : eqL a b = decide (a = b) := by
  rw [Bool.eq_iff_iff, decide_eq_true_iff]
  exact eqL_pl a b h1 h2
mutual
theorem eqD_refl : ∀ (n : Nat) (a : D), okD n a = true → eqD a a = true
  | n, .non, _ => by simp
  | n, .bl _, _ => by simp
  | n, .int _, _ => by simp
  | n, .str _, _ => by simp
  | n + 1, .tup l, h => by rw [okD_tup] at h; rw [eq_tt]; exact eqL_refl n l h
  | n + 1, .lst l, h => by rw [okD_lst] at h; rw [eq_ll]; exact eqL_refl n l h
  | 0, .tup l, h => by simp [okD] at h
  | 0, .lst l, h => by simp [okD] at h
  | n, .dic _ _, h => by cases n <;> simp [okD] at h
  | n, .obj _ _, h => by cases n <;> simp [okD] at h
  | n, .clo _, h => by cases n <;> simp [okD] at h
theorem eqL_refl : ∀ (n : Nat) (a : List D), okL n a = true → eqL a a = true
  | n, [], _ => by simp
  | n, x :: r, h => by
    rw [okL_cons, Bool.and_eq_true] at h
    rw [eqL_cc, eqD_refl n x h.1, eqL_refl n r h.2]
    rfl
end
theorem eqD_mem {P : D → Prop} {n : Nat} {d : D} (h : okD n d = true) : eqD d d = true := eqD_refl n d h
theorem eqL_map {α : Type} [DecidableEq α] {f : α → D} (h : ∀ a b, eqD (f a) (f b) = decide (a = b)) : ∀ (l m : List α), eqL (l.map f) (m.map f) = decide (l = m)
  | [], [] => by simp
  | [], _ :: _ => by simp
  | _ :: _, [] => by simp
  | a :: l, b :: m => by
    rw [List.map_cons, List.map_cons, eqL_cc, h, eqL_map h l m]
    by_cases z : a = b <;> by_cases y : l = m <;> simp [z, y]
/-! ### places -/
@[simp] theorem ixD_nat (l : List D) (k : Nat) : ixD l (k : Int) = l[k]? := by
  unfold ixD
  rw [if_pos (Int.natCast_nonneg k), Int.toNat_natCast]
@[simp] theorem ixD_succ (l : List D) (k : Nat) : ixD l ((k : Int) + 1) = l[k + 1]? := ixD_nat l (k + 1)
@[simp] theorem ixD_add (l : List D) (k j : Nat) : ixD l ((k : Int) + (j : Int)) = l[k + j]? := ixD_nat l (k + j)
@[simp] theorem ixD_addL (l : List D) (k j : Nat) : ixD l ((k : Int) + 1 + (j : Int)) = l[k + 1 + j]? := ixD_nat l (k + 1 + j)
theorem ixD_of {l : List D} {i : Int} (k : Nat) (h : i = k) : ixD l i = l[k]? := by rw [h, ixD_nat]
@[simp] theorem ixD_0 (x : D) (r : List D) : ixD (x :: r) 0 = some x := (rfl)
@[simp] theorem ixD_1 (x y : D) (r : List D) : ixD (x :: y :: r) 1 = some y := (rfl)
@[simp] theorem ixD_2 (x y z : D) (r : List D) : ixD (x :: y :: z :: r) 2 = some z := (rfl)
@[simp] theorem ixD_3 (x y z w : D) (r : List D) : ixD (x :: y :: z :: w :: r) 3 = some w := (rfl)
theorem turnF_is (p : Pt) (body : Env → Rs) (d : D) (ρ : Env) : turnF p body d ρ = (ofE (bindP p d ρ)).seq body := (rfl)
@[simp] theorem v_rng_len (a : Int) (n : Nat) : (rng a n).length = n := by unfold rng; rw [List.length_map, List.length_range]
@[simp] theorem v_rng_get (a : Int) (n k : Nat) (h : k < (rng a n).length) : (rng a n)[k] = .int (a + k) := by
  simp [rng]
theorem forF_idx {p : Pt} {body : Env → Rs} (I : Nat → Env → Prop) : ∀ {items : List D} {ρ : Env}, I 0 ρ →
    (∀ (k : Nat) (hk : k < items.length) (ρ : Env), I k ρ → ∃ ρ', (turnF p body items[k] ρ = .next ρ' ∨ turnF p body items[k] ρ = .cont ρ') ∧ I (k + 1) ρ') → ∃ ρ', forF p body items ρ = .next ρ' ∧ I items.length ρ'
  | [], ρ, h, _ => ⟨ρ, forF_nil _ _ _, h⟩
  | d :: ds, ρ, h, st => by
    obtain ⟨ρ1, e, h1⟩ := st 0 (by simp) ρ h
    obtain ⟨ρ2, e2, h2⟩ := forF_idx (fun k => I (k + 1)) (items := ds) h1 fun k hk ρ hI => st (k + 1) (by simpa using hk) ρ hI
    refine ⟨ρ2, ?_, h2⟩
    rw [forF_cons]
    rw [List.getElem_cons_zero] at e
    rcases e with e | e <;> rw [e] <;> exact e2
theorem forF_idxR {p : Pt} {body : Env → Rs} (I : Nat → Env → Prop) (R : D → Prop) (X : Nat → Prop) : ∀ {items : List D} {ρ : Env}, I 0 ρ →
    (∀ (k : Nat) (hk : k < items.length) (ρ : Env), I k ρ → EndsIn (I (k + 1)) R X (turnR (turnF p body items[k] ρ))) → EndsIn (I items.length) R X (forF p body items ρ)
  | [], ρ, h, _ => by rw [forF_nil]; exact h
  | d :: ds, ρ, h, st => by
    have e := st 0 (by simp) ρ h
    have r := fun ρ' h' => forF_idxR (fun k => I (k + 1)) R X (items := ds) (ρ := ρ') h' fun k hk ρ hI => st (k + 1) (by simpa using hk) ρ hI
    rw [forF_cons]
    rw [List.getElem_cons_zero] at e
    cases ht : turnF p body d ρ <;> rw [ht] at e
    · exact r _ e
    · exact e
    · exact e.elim
    · exact r _ e
    · exact e
    · exact e.elim
/-- .. of a run that has a name -/
theorem forF_at {p : Pt} {body : Env → Rs} {items : List D} {ρ : Env} {X : Rs} (hX : forF p body items ρ = X) (I : Nat → Env → Prop) (h0 : I 0 ρ)
    (st : ∀ (k : Nat) (hk : k < items.length) (ρ : Env), I k ρ → ∃ ρ', turnF p body items[k] ρ = .next ρ' ∧ I (k + 1) ρ') : ∃ ρ', X = .next ρ' ∧ I items.length ρ' := by
  subst hX
  exact forF_idx I h0 fun k hk ρ h => let ⟨ρ', e, h'⟩ := st k hk ρ h; ⟨ρ', .inl e, h'⟩
theorem forF_atR {p : Pt} {body : Env → Rs} {items : List D} {ρ : Env} {X : Rs} (hX : forF p body items ρ = X) (I : Nat → Env → Prop) (R : D → Prop) (E : Nat → Prop) (h0 : I 0 ρ)
    (st : ∀ (k : Nat) (hk : k < items.length) (ρ : Env), I k ρ → EndsIn (I (k + 1)) R E (turnR (turnF p body items[k] ρ))) : EndsIn (I items.length) R E X := by
  subst hX
  exact forF_idxR I R E h0 st
theorem whileF_at {c : Env → Out D} {body : Env → Rs} {n : Nat} {ρ : Env} {X : Rs} (hX : whileF c body n ρ = X) (I : Env → Prop) (m : Env → Nat) (J : Env → Prop) (h0 : I ρ) (hm : m ρ < n)
    (step : ∀ ρ, I ρ → ∃ b ρ1, c ρ = .ok (.bl b) ρ1 ∧ (b = false → J ρ1) ∧ (b = true → ∃ ρ2, body ρ1 = .next ρ2 ∧ I ρ2 ∧ m ρ2 < m ρ)) : ∃ ρ', X = .next ρ' ∧ J ρ' := by
  subst hX
  exact whileF_inv I m J step n ρ h0 hm
/-! ### comprehensions -/
theorem wipe_len : ∀ (own : List Nat) (ρ : Env), (wipeE own ρ).length = ρ.length
  | [], _ => rfl
  | i :: r, ρ => by rw [wipeE_cons, wipe_len r, List.length_set]
theorem v_wipe_get : ∀ (own : List Nat) (ρ : Env) (j : Nat), (wipeE own ρ)[j]? = if j ∈ own ∧ j < ρ.length then some .no else ρ[j]?
  | [], ρ, j => by simp
  | i :: r, ρ, j => by
    rw [wipeE_cons, v_wipe_get r, List.length_set, List.getElem?_set]
    by_cases h1 : j ∈ r <;> by_cases h2 : j < ρ.length <;> by_cases h3 : i = j <;> simp_all
    all_goals exact fun z => absurd z.symm h3
theorem back_len : ∀ (own : List Nat) (ρ0 ρ : Env), (backE ρ0 own ρ).length = ρ.length
  | [], _, _ => rfl
  | i :: r, ρ0, ρ => by rw [backE_cons, back_len r, List.length_set]
theorem back_get : ∀ (own : List Nat) (ρ0 ρ : Env) (j : Nat), (backE ρ0 own ρ)[j]? = if j ∈ own ∧ j < ρ.length then some (ρ0[j]?.getD .no) else ρ[j]?
  | [], ρ0, ρ, j => by simp
  | i :: r, ρ0, ρ, j => by
    rw [backE_cons, back_get r, List.length_set, List.getElem?_set]
    by_cases h1 : j ∈ r <;> by_cases h2 : j < ρ.length <;> by_cases h3 : i = j <;> simp_all
    all_goals exact fun z => absurd z.symm h3
theorem v_lockL_len : ∀ (l : List Nat) (ρ : Env), (lockL l ρ).length = ρ.length
  | [], _ => rfl
  | i :: r, ρ => by
    rw [lockL_cons, v_lockL_len r]
    split
    · rw [List.length_set]
    · rfl
theorem lockL_get : ∀ (l : List Nat) (ρ : Env) (j : Nat) (v : SV), ρ[j]? = some v → isOwn v = false → (lockL l ρ)[j]? = some v
  | [], ρ, j, v, h, _ => h
  | i :: r, ρ, j, v, h, hv => by
    rw [lockL_cons]
    refine lockL_get r _ j v ?_ hv
    split
    · rename_i w hw
      rw [List.getElem?_set]
      by_cases z : i = j
      · subst z
        rw [hw] at h
        cases h
        have : i < ρ.length := (List.getElem?_eq_some_iff.mp hw).1
        rw [if_pos rfl, if_pos this]
        cases v <;> first | rfl | cases hv
      · rw [if_neg z, h]
    · exact h
theorem noOwn_get {own : List Nat} {ρ : Env} (h : noOwn own ρ = true) {j : Nat} (m : j ∈ own) : isOwn (ρ[j]?.getD .no) = false := by
  unfold noOwn at h
  have := List.all_eq_true.mp h j m
  simpa using this
theorem back_wipe {own bs : List Nat} {ρ ρ' : Env} (hno : noOwn own ρ = true) (h : wipeE own ρ' = wipeE own (lockL bs ρ)) : backE ρ own ρ' = lockL bs ρ := by
  have hl : ρ'.length = ρ.length := by
    have := congrArg List.length h
    rwa [wipe_len, wipe_len, v_lockL_len] at this
  refine List.ext_getElem? fun j => ?_
  rw [back_get]
  by_cases z : j ∈ own ∧ j < ρ'.length
  · rw [if_pos z]
    have hj : j < ρ.length := by rw [← hl]; exact z.2
    have e : ρ[j]? = some ρ[j] := List.getElem?_eq_getElem hj
    have o := noOwn_get hno z.1
    rw [e] at o ⊢
    exact (lockL_get bs ρ j _ e o).symm
  · rw [if_neg z]
    have := congrArg (fun l : Env => l[j]?) h
    simp only [v_wipe_get, v_lockL_len] at this
    rw [if_neg z, if_neg (by rw [← hl]; exact z)] at this
    exact this
section
variable {p : Pt} {own : List Nat} {W : Env}
theorem compF_pure {α : Type} {c e : Env → Out D} {g : α → D} {cond : α → Bool} {f : α → D} : ∀ {l : List α} {acc : List D} {ρ : Env}, wipeE own ρ = W → acc.length + l.length ≤ line →
    (∀ a ∈ l, ∃ E, bindP p (g a) W = some E ∧ c E = .ok (.bl (cond a)) E ∧ (cond a = true → e E = .ok (f a) E) ∧ wipeE own E = W) →
    ∃ ρ', compF p own c e (l.map g) acc ρ = .ok (acc ++ (l.filter cond).map f) ρ' ∧ wipeE own ρ' = W
  | [], acc, ρ, h, _, _ => ⟨ρ, by simp [compF], h⟩
  | d :: ds, acc, ρ, h, hl, t => by
    obtain ⟨E, e1, e2, e3, e4⟩ := t d List.mem_cons_self
    rw [List.map_cons, compF, h, e1]
    simp only [liftE_some, ob_ok, e2, truD_bl]
    rw [List.length_cons] at hl
    cases hc : cond d with
    | true =>
      have := e3 hc
      obtain ⟨ρ', r1, r2⟩ := compF_pure (l := ds) (acc := acc ++ [f d]) (ρ := E) e4 (by rw [List.length_append]; simpa [Nat.add_assoc, Nat.add_comm 1] using hl) fun d' m => t d' (List.mem_cons_of_mem _ m)
      refine ⟨ρ', ?_, r2⟩
      simp only [this, ob_ok]
      rw [if_pos (by omega), r1, List.filter_cons_of_pos hc, List.map_cons, List.append_assoc]
      rfl
    | false =>
      obtain ⟨ρ', r1, r2⟩ := compF_pure (l := ds) (acc := acc) (ρ := E) e4 (by omega) fun d' m => t d' (List.mem_cons_of_mem _ m)
      refine ⟨ρ', ?_, r2⟩
      simp only
      rw [r1, List.filter_cons_of_neg (by simp [hc])]
theorem compF_exc {c e : Env → Out D} {P : D → Prop} {K : Nat → Prop} : ∀ {items : List D} {acc : List D} {ρ : Env}, wipeE own ρ = W → acc.length + items.length ≤ line → (∀ y ∈ acc, P y) →
    (∀ d ∈ items, ∃ E, bindP p d W = some E ∧ c E = .ok (.bl true) E ∧ ((∃ y, P y ∧ e E = .ok y E) ∨ ∃ k, K k ∧ e E = .exc k) ∧ wipeE own E = W) →
    (∃ ρ' ys, compF p own c e items acc ρ = .ok ys ρ' ∧ wipeE own ρ' = W ∧ ys.length = acc.length + items.length ∧ ∀ y ∈ ys, P y) ∨ ∃ k, K k ∧ compF p own c e items acc ρ = .exc k
  | [], acc, ρ, h, _, ha, _ => .inl ⟨ρ, acc, by simp [compF], h, rfl, ha⟩
  | d :: ds, acc, ρ, h, hl, ha, t => by
    obtain ⟨E, e1, e2, e3, e4⟩ := t d List.mem_cons_self
    rw [compF, h, e1]
    simp only [liftE_some, ob_ok, e2, truD_bl]
    rw [List.length_cons] at hl
    rcases e3 with ⟨y, py, e3⟩ | ⟨k, pk, e3⟩
    · simp only [e3, ob_ok]
      rw [if_pos (by omega)]
      have := compF_exc (items := ds) (acc := acc ++ [y]) (ρ := E) (P := P) (K := K) e4 (by rw [List.length_append]; simpa [Nat.add_assoc, Nat.add_comm 1] using hl) (fun z m => by
        rcases List.mem_append.mp m with m | m
        · exact ha z m
        · cases List.mem_singleton.mp m; exact py) fun d' m => t d' (List.mem_cons_of_mem _ m)
      rcases this with ⟨ρ', ys, r1, r2, r3, r4⟩ | r
      · exact .inl ⟨ρ', ys, r1, r2, by rw [r3]; simp; omega, r4⟩
      · exact .inr r
    · simp only [e3, ob_exc]
      exact .inr ⟨k, pk, rfl⟩
@[simp] theorem flatD_int (i) : flatD (.int i) = true := (rfl)
@[simp] theorem flatD_str (i) : flatD (.str i) = true := (rfl)
@[simp] theorem flatD_non : flatD .non = true := (rfl)
@[simp] theorem flatD_bl (i) : flatD (.bl i) = true := (rfl)
theorem items_of {cf : FnI} {lf : Nat → Env → Out D} {k : ItK} {as : AL} {ρ : Env} {items : List D} (h : ((evalX cf lf as ρ).bind fun ds ρ1 => lift ((MZ.fill as ds ρ1).bind (itR k)) ρ1) = .ok items ρ) :
    ∃ ds, evalX cf lf as ρ = .ok ds ρ ∧ (MZ.fill as ds ρ).bind (itR k) = some items := by
  cases hx : evalX cf lf as ρ with
  | bad => rw [hx] at h; cases h
  | exc k => rw [hx] at h; cases h
  | ok ds ρ1 =>
    rw [hx] at h
    simp only [ob_ok] at h
    cases hf : (MZ.fill as ds ρ1).bind (itR k) with
    | none => rw [hf] at h; cases h
    | some it =>
      rw [hf] at h
      cases h
      exact ⟨ds, rfl, hf⟩
section
variable {cf : FnI} {lf : Nat → Env → Out D} {x : Bool} {k : ItK} {as : AL} {c e : C} {ρ : Env} {ds items : List D}
theorem comp_is (hx : evalX cf lf as ρ = .ok ds ρ) (hi : (MZ.fill as ds ρ).bind (itR k) = some items) (hno : noOwn own ρ = true) (hbo : okBo (bors as) ρ = true) :
    evalE cf lf (.comp x p k as c e own) ρ = (let o := ((compF p own (evalE cf lf c) (evalE cf lf e) items [] (lockL (bors as) ρ)).back fun ρ2 => unlockL ρ (bors as) (backE ρ own ρ2)).bind fun l ρ3 => .ok (.lst l) ρ3
        if x then o else untold o) := by
  rw [evalE, hx]
  simp only [ob_ok, hi, lift_some, hno, hbo, Bool.and_self, if_true]
theorem comp_pure {α : Type} (W : Env) (l : List α) (g : α → D) (cond : α → Bool) (f : α → D) (hi : ((evalX cf lf as ρ).bind fun ds ρ1 => lift ((MZ.fill as ds ρ1).bind (itR k)) ρ1) = .ok (l.map g) ρ) (hl : l.length ≤ line)
    (hw : noOwn own ρ = true ∧ okBo (bors as) ρ = true ∧ wipeE own (lockL (bors as) ρ) = W ∧ unlockL ρ (bors as) (lockL (bors as) ρ) = ρ)
    (t : ∀ a ∈ l, ∃ E, bindP p (g a) W = some E ∧ evalE cf lf c E = .ok (.bl (cond a)) E ∧ (cond a = true → evalE cf lf e E = .ok (f a) E) ∧ wipeE own E = W) :
    evalE cf lf (.comp x p k as c e own) ρ = .ok (.lst ((l.filter cond).map f)) ρ := by
  obtain ⟨hno, hbo, hW, hu⟩ := hw
  obtain ⟨ds, hx, hi⟩ := items_of hi
  obtain ⟨ρ', r1, r2⟩ := compF_pure (acc := []) hW (by simpa using hl) t
  rw [comp_is hx hi hno hbo, r1]
  simp only [obk_ok, ob_ok, List.nil_append]
  rw [back_wipe hno (r2.trans hW.symm), hu]
  cases x <;> rfl
theorem comp_p {α : Type} (l : List α) (g : α → D) (cond : α → Bool) (f : α → D) (hi : ((evalX cf lf as ρ).bind fun ds ρ1 => lift ((MZ.fill as ds ρ1).bind (itR k)) ρ1) = .ok (l.map g) ρ) (hl : l.length ≤ line)
    (hw : noOwn own ρ = true ∧ okBo (bors as) ρ = true ∧ unlockL ρ (bors as) (lockL (bors as) ρ) = ρ)
    (t : ∀ a ∈ l, ∃ E, bindP p (g a) (wipeE own (lockL (bors as) ρ)) = some E ∧ evalE cf lf c E = .ok (.bl (cond a)) E ∧ (cond a = true → evalE cf lf e E = .ok (f a) E) ∧ wipeE own E = wipeE own (lockL (bors as) ρ)) :
    evalE cf lf (.comp x p k as c e own) ρ = .ok (.lst ((l.filter cond).map f)) ρ :=
  comp_pure _ l g cond f hi hl ⟨hw.1, hw.2.1, rfl, hw.2.2⟩ t
theorem comp_exc (W : Env) (P : D → Prop) (K : Nat → Prop) (hi : ((evalX cf lf as ρ).bind fun ds ρ1 => lift ((MZ.fill as ds ρ1).bind (itR k)) ρ1) = .ok items ρ) (hl : items.length ≤ line)
    (hw : noOwn own ρ = true ∧ okBo (bors as) ρ = true ∧ wipeE own (lockL (bors as) ρ) = W ∧ unlockL ρ (bors as) (lockL (bors as) ρ) = ρ)
    (t : ∀ d ∈ items, ∃ E, bindP p d W = some E ∧ evalE cf lf c E = .ok (.bl true) E ∧ ((∃ y, P y ∧ evalE cf lf e E = .ok y E) ∨ ∃ k, K k ∧ evalE cf lf e E = .exc k) ∧ wipeE own E = W) :
    (∃ ys, evalE cf lf (.comp true p k as c e own) ρ = .ok (.lst ys) ρ ∧ ys.length = items.length ∧ ∀ y ∈ ys, P y) ∨ ∃ j, K j ∧ evalE cf lf (.comp true p k as c e own) ρ = .exc j := by
  obtain ⟨hno, hbo, hW, hu⟩ := hw
  obtain ⟨ds, hx, hi⟩ := items_of hi
  rcases compF_exc (acc := []) (P := P) (K := K) hW (by simpa using hl) (by simp) t with ⟨ρ', ys, r1, r2, r3, r4⟩ | ⟨j, pj, r1⟩
  · refine .inl ⟨ys, ?_, by simpa using r3, r4⟩
    rw [comp_is hx hi hno hbo, r1]
    simp only [obk_ok, ob_ok]
    rw [back_wipe hno (r2.trans hW.symm), hu]
    rfl
  · refine .inr ⟨j, pj, ?_⟩
    rw [comp_is hx hi hno hbo, r1]
    rfl
end
theorem genF_tup {α : Type} {c e : Env → Out D} {g : α → D} {cond : α → Bool} {f : α → D} : ∀ {l : List α} {acc : List D} {ρ : Env}, wipeE own ρ = W → acc.length + l.length ≤ line →
    (∀ a ∈ l, ∃ E, bindP p (g a) W = some E ∧ c E = .ok (.bl (cond a)) E ∧ (cond a = true → e E = .ok (f a) E) ∧ wipeE own E = W) →
    ∃ ρ', genF p own c e (stepG .tup) (l.map g) acc ρ = .ok (.inl (acc ++ (l.filter cond).map f)) ρ'
  | [], acc, ρ, h, _, _ => ⟨ρ, by simp [genF]⟩
  | d :: ds, acc, ρ, h, hl, t => by
    obtain ⟨E, e1, e2, e3, e4⟩ := t d List.mem_cons_self
    rw [List.map_cons, genF, h, e1]
    simp only [liftE_some, ob_ok, e2, truD_bl]
    rw [List.length_cons] at hl
    cases hc : cond d with
    | true =>
      have := e3 hc
      obtain ⟨ρ', r1⟩ := genF_tup (l := ds) (acc := acc ++ [f d]) (ρ := E) e4 (by rw [List.length_append]; simpa [Nat.add_assoc, Nat.add_comm 1] using hl) fun d' m => t d' (List.mem_cons_of_mem _ m)
      refine ⟨ρ', ?_⟩
      simp only [this, ob_ok, stepG]
      rw [if_pos (by omega)]
      simp only
      rw [r1, List.filter_cons_of_pos hc, List.map_cons, List.append_assoc]
      rfl
    | false =>
      obtain ⟨ρ', r1⟩ := genF_tup (l := ds) (acc := acc) (ρ := E) e4 (by omega) fun d' m => t d' (List.mem_cons_of_mem _ m)
      refine ⟨ρ', ?_⟩
      simp only
      rw [r1, List.filter_cons_of_neg (by simp [hc])]
theorem genF_any {α : Type} {c e : Env → Out D} {h : α → D} {cond g : α → Bool} : ∀ {l : List α} {acc : List D} {ρ : Env}, wipeE own ρ = W → acc.length + l.length ≤ line →
    (∀ a ∈ l, ∃ E, bindP p (h a) W = some E ∧ c E = .ok (.bl (cond a)) E ∧ (cond a = true → e E = .ok (.bl (g a)) E) ∧ wipeE own E = W) →
    ∃ ρ' st, genF p own c e (stepG .any) (l.map h) acc ρ = .ok (if l.any (fun d => cond d && g d) then .inr (.bl true) else .inl st) ρ'
  | [], acc, ρ, _, _, _ => ⟨ρ, acc, by simp [genF]⟩
  | d :: ds, acc, ρ, hw, hl, t => by
    obtain ⟨E, e1, e2, e3, e4⟩ := t d List.mem_cons_self
    rw [List.map_cons, genF, hw, e1]
    simp only [liftE_some, ob_ok, e2, truD_bl]
    rw [List.length_cons] at hl
    cases hc : cond d with
    | true =>
      have := e3 hc
      simp only [this, ob_ok, stepG]
      rw [if_pos (by omega)]
      cases hg : g d with
      | true => exact ⟨E, [], by simp [hc, hg]⟩
      | false =>
        obtain ⟨ρ', st, r1⟩ := genF_any (l := ds) (acc := acc ++ [.bl false]) (ρ := E) e4 (by rw [List.length_append]; simpa [Nat.add_assoc, Nat.add_comm 1] using hl) fun d' m => t d' (List.mem_cons_of_mem _ m)
        exact ⟨ρ', st, by simp only [Bool.false_eq_true, if_false, List.any_cons, hg, Bool.and_false, Bool.false_or]; exact r1⟩
    | false =>
      obtain ⟨ρ', st, r1⟩ := genF_any (l := ds) (acc := acc) (ρ := E) e4 (by omega) fun d' m => t d' (List.mem_cons_of_mem _ m)
      exact ⟨ρ', st, by simp only [List.any_cons, hc, Bool.false_and, Bool.false_or]; exact r1⟩
theorem genF_all {α : Type} {c e : Env → Out D} {h : α → D} {cond g : α → Bool} : ∀ {l : List α} {acc : List D} {ρ : Env}, wipeE own ρ = W → acc.length + l.length ≤ line →
    (∀ a ∈ l, ∃ E, bindP p (h a) W = some E ∧ c E = .ok (.bl (cond a)) E ∧ (cond a = true → e E = .ok (.bl (g a)) E) ∧ wipeE own E = W) →
    ∃ ρ' st, genF p own c e (stepG .all) (l.map h) acc ρ = .ok (if l.all (fun d => !cond d || g d) then .inl st else .inr (.bl false)) ρ'
  | [], acc, ρ, _, _, _ => ⟨ρ, acc, by simp [genF]⟩
  | d :: ds, acc, ρ, hw, hl, t => by
    obtain ⟨E, e1, e2, e3, e4⟩ := t d List.mem_cons_self
    rw [List.map_cons, genF, hw, e1]
    simp only [liftE_some, ob_ok, e2, truD_bl]
    rw [List.length_cons] at hl
    cases hc : cond d with
    | true =>
      have := e3 hc
      simp only [this, ob_ok, stepG]
      rw [if_pos (by omega)]
      cases hg : g d with
      | false => exact ⟨E, [], by simp [hc, hg]⟩
      | true =>
        obtain ⟨ρ', st, r1⟩ := genF_all (l := ds) (acc := acc ++ [.bl true]) (ρ := E) e4 (by rw [List.length_append]; simpa [Nat.add_assoc, Nat.add_comm 1] using hl) fun d' m => t d' (List.mem_cons_of_mem _ m)
        exact ⟨ρ', st, by simp only [if_true, List.all_cons, hc, hg, Bool.not_true, Bool.false_or, Bool.true_and]; exact r1⟩
    | false =>
      obtain ⟨ρ', st, r1⟩ := genF_all (l := ds) (acc := acc) (ρ := E) e4 (by omega) fun d' m => t d' (List.mem_cons_of_mem _ m)
      exact ⟨ρ', st, by simp only [List.all_cons, hc, Bool.not_false, Bool.true_or, Bool.true_and]; exact r1⟩
section
variable {α : Type} {cf : FnI} {lf : Nat → Env → Out D} {k : ItK} {as : AL} {c e : C} {ρ : Env} {ds : List D}
theorem gen_tup (W : Env) (l : List α) (g : α → D) (cond : α → Bool) (f : α → D) (hi : ((evalX cf lf as ρ).bind fun ds ρ1 => lift ((MZ.fill as ds ρ1).bind (itR k)) ρ1) = .ok (l.map g) ρ) (hl : l.length ≤ line)
    (hw : noOwn own ρ = true ∧ okBo (bors as) ρ = true ∧ wipeE own (lockA ρ) = W)
    (t : ∀ a ∈ l, ∃ E, bindP p (g a) W = some E ∧ evalE cf lf c E = .ok (.bl (cond a)) E ∧ (cond a = true → evalE cf lf e E = .ok (f a) E) ∧ wipeE own E = W) :
    evalE cf lf (.gen .tup p k as c e own) ρ = .ok (.tup ((l.filter cond).map f)) ρ := by
  obtain ⟨hno, hbo, hW⟩ := hw
  obtain ⟨ds, hx, hi⟩ := items_of hi
  obtain ⟨ρ', r1⟩ := genF_tup (acc := []) hW (by simpa using hl) t
  rw [evalE, hx]
  simp only [ob_ok, hi, lift_some, hno, hbo, Bool.and_self, if_true, r1, os_ok, List.nil_append, endG]
theorem gen_any (W : Env) (l : List α) (h : α → D) (cond : α → Bool) (g : α → Bool) (hi : ((evalX cf lf as ρ).bind fun ds ρ1 => lift ((MZ.fill as ds ρ1).bind (itR k)) ρ1) = .ok (l.map h) ρ) (hl : l.length ≤ line)
    (hw : noOwn own ρ = true ∧ okBo (bors as) ρ = true ∧ wipeE own (lockA ρ) = W)
    (t : ∀ a ∈ l, ∃ E, bindP p (h a) W = some E ∧ evalE cf lf c E = .ok (.bl (cond a)) E ∧ (cond a = true → evalE cf lf e E = .ok (.bl (g a)) E) ∧ wipeE own E = W) :
    evalE cf lf (.gen .any p k as c e own) ρ = .ok (.bl (l.any fun d => cond d && g d)) ρ := by
  obtain ⟨hno, hbo, hW⟩ := hw
  obtain ⟨ds, hx, hi⟩ := items_of hi
  obtain ⟨ρ', st, r1⟩ := genF_any (acc := []) hW (by simpa using hl) t
  rw [evalE, hx]
  simp only [ob_ok, hi, lift_some, hno, hbo, Bool.and_self, if_true, r1, os_ok]
  cases l.any fun d => cond d && g d <;> rfl
theorem gen_all (W : Env) (l : List α) (h : α → D) (cond : α → Bool) (g : α → Bool) (hi : ((evalX cf lf as ρ).bind fun ds ρ1 => lift ((MZ.fill as ds ρ1).bind (itR k)) ρ1) = .ok (l.map h) ρ) (hl : l.length ≤ line)
    (hw : noOwn own ρ = true ∧ okBo (bors as) ρ = true ∧ wipeE own (lockA ρ) = W)
    (t : ∀ a ∈ l, ∃ E, bindP p (h a) W = some E ∧ evalE cf lf c E = .ok (.bl (cond a)) E ∧ (cond a = true → evalE cf lf e E = .ok (.bl (g a)) E) ∧ wipeE own E = W) :
    evalE cf lf (.gen .all p k as c e own) ρ = .ok (.bl (l.all fun d => !cond d || g d)) ρ := by
  obtain ⟨hno, hbo, hW⟩ := hw
  obtain ⟨ds, hx, hi⟩ := items_of hi
  obtain ⟨ρ', st, r1⟩ := genF_all (acc := []) hW (by simpa using hl) t
  rw [evalE, hx]
  simp only [ob_ok, hi, lift_some, hno, hbo, Bool.and_self, if_true, r1, os_ok]
  cases l.all fun d => !cond d || g d <;> rfl
end
end
@[simp] theorem filt_true {α : Type} (l : List α) : (l.filter fun _ => true) = l := List.filter_eq_self.mpr fun _ _ => rfl
theorem zipR_map {α β : Type} (f : α → D) (g : β → D) (l : List α) (m : List β) : zipR [.lst (l.map f), .lst (m.map g)] = some ((l.zip m).map fun q => .tup [f q.1, g q.2]) := by
  rw [zipR_l, List.zip_map, List.map_map]
  rfl
theorem enumR_map {α : Type} (f : α → D) (l : List α) : enumR [.lst (l.map f)] = some (((List.range l.length).zip l).map fun q => .tup [.int q.1, f q.2]) := by
  rw [enumR_l, List.length_map]
  congr 1
  conv => lhs; arg 2; arg 1; rw [← List.map_id (List.range l.length)]
  rw [List.zip_map, List.map_map]
  rfl
@[simp] theorem cutAt_nat (n k : Nat) : cutAt n (k : Int) = min k n := by
  unfold cutAt
  rw [if_pos (Int.natCast_nonneg k), Int.toNat_natCast]
theorem cutAt_of (n : Nat) {x : Int} (k : Nat) (h : x = k) : cutAt n x = min k n := by rw [h, cutAt_nat]
@[simp] theorem cutAt_add (n k j : Nat) : cutAt n ((k : Int) + (j : Int)) = min (k + j) n := cutAt_nat n (k + j)
@[simp] theorem cutAt_two (n : Nat) : cutAt n 2 = min 2 n := cutAt_nat n 2
theorem cutD_is (l : List D) (a b : Nat) (h : a ≤ b) : cutD l (min a l.length) (min b l.length) = (l.drop a).take (b - a) := by
  unfold cutD
  by_cases h1 : a ≤ l.length
  · rw [Nat.min_eq_left h1]
    by_cases h2 : b ≤ l.length
    · rw [Nat.min_eq_left h2]
    · rw [Nat.min_eq_right (by omega), List.take_of_length_le (by simp), List.take_of_length_le (by simp; omega)]
  · have e : min a l.length = l.length := by omega
    rw [e, List.drop_eq_nil_of_le (Nat.le_refl _), List.drop_eq_nil_of_le (by omega)]
    simp
theorem okL_get {n : Nat} {l : List D} (h : okL n l = true) {k : Nat} (hk : k < l.length) : okD n l[k] = true := by
  induction l generalizing k with
  | nil => exact absurd hk (by simp)
  | cons x r ih =>
    rw [okL_cons, Bool.and_eq_true] at h
    cases k with
    | zero => exact h.1
    | succ k => exact ih h.2 (by simpa using hk)
theorem okL_mem {n : Nat} {l : List D} (h : okL n l = true) {d : D} (m : d ∈ l) : okD n d = true := by
  obtain ⟨k, hk, rfl⟩ := List.getElem_of_mem m
  exact okL_get h hk
mutual
theorem okD_up : ∀ (n : Nat) (d : D), okD n d = true → okD (n + 1) d = true
  | n, .non, _ => by simp
  | n, .bl _, _ => by simp
  | n, .int _, _ => by simp
  | n, .str _, h => by rw [okD_str] at h ⊢; exact h
  | n + 1, .tup l, h => by rw [okD_tup] at h ⊢; exact okL_up' n l h
  | n + 1, .lst l, h => by rw [okD_lst] at h ⊢; exact okL_up' n l h
  | 0, .tup l, h => by simp [okD] at h
  | 0, .lst l, h => by simp [okD] at h
  | n, .dic _ _, h => by cases n <;> simp [okD] at h
  | n, .obj _ _, h => by cases n <;> simp [okD] at h
  | n, .clo _, h => by cases n <;> simp [okD] at h
theorem okL_up' : ∀ (n : Nat) (l : List D), okL n l = true → okL (n + 1) l = true
  | n, [], _ => by simp
  | n, x :: r, h => by
    rw [okL_cons, Bool.and_eq_true] at h ⊢
    exact ⟨okD_up n x h.1, okL_up' n r h.2⟩
end
theorem okL_up {n : Nat} {l : List D} (h : okL n l = true) : okL (n + 1) l = true := okL_up' n l h
theorem okL_take {n : Nat} {l : List D} (h : okL n l = true) (k : Nat) : okL n (l.take k) = true := okL_of fun d m => okL_mem h (List.mem_of_mem_take m)
theorem okL_drop {n : Nat} {l : List D} (h : okL n l = true) (k : Nat) : okL n (l.drop k) = true := okL_of fun d m => okL_mem h (List.mem_of_mem_drop m)
@[simp] theorem drop_min {α : Type} (l : List α) (k : Nat) : l.drop (min k l.length) = l.drop k := by
  by_cases h : k ≤ l.length
  · rw [Nat.min_eq_left h]
  · rw [Nat.min_eq_right (by omega), List.drop_eq_nil_of_le (Nat.le_refl _), List.drop_eq_nil_of_le (by omega)]
@[simp] theorem take_min {α : Type} (l : List α) (k : Nat) : l.take (min k l.length) = l.take k := by
  by_cases h : k ≤ l.length
  · rw [Nat.min_eq_left h]
  · rw [Nat.min_eq_right (by omega), List.take_of_length_le (Nat.le_refl _), List.take_of_length_le (by omega)]
/-- a slice -/
theorem cutD_nat {α : Type} (f : α → D) (l : List α) (a b : Nat) (hb : b ≤ l.length) : cutD (l.map f) (min a l.length) (min b l.length) = ((l.drop a).take (b - a)).map f := by
  unfold cutD
  rw [Nat.min_eq_left hb]
  by_cases h : a ≤ l.length
  · rw [Nat.min_eq_left h, List.map_take, List.map_drop]
  · rw [Nat.min_eq_right (by omega), List.drop_eq_nil_of_le (by simp), List.drop_eq_nil_of_le (by omega)]
    simp
theorem rng_mapN (a n : Nat) : rng (a : Int) n = (List.range n).map fun (k : Nat) => D.int ((a + k : Nat) : Int) := by
  rw [rng]
  congr 1
theorem rng_map (a : Int) (n : Nat) : rng a n = (List.range n).map fun (k : Nat) => D.int (a + k) := (rfl)
end MZ.V
end
section
set_option maxRecDepth 100000
open PySem
namespace K11
open MZ MZ.V
abbrev Tn := Int × Int × Int
abbrev Nt := Option Tn × Int × Int
def eT : Option Tn → D
  | none => .non
  | some t => .tup [.int t.1, .int t.2.1, .int t.2.2]
theorem eT_none : eT none = .non := rfl
theorem eT_some (t : Tn) : eT (some t) = .tup [.int t.1, .int t.2.1, .int t.2.2] := rfl
def eN (n : Nt) : D := .tup [eT n.1, .tup [.int n.2.1, .int n.2.2]]
def GT (t : Tn) : Prop := 0 ≤ t.1 ∧ t.1 < 7 ∧ -2 ≤ t.2.1 ∧ t.2.1 ≤ 2 ∧ 0 ≤ t.2.2 ∧ t.2.2 ≤ 9
def GN (n : Nt) : Prop := ∀ t, n.1 = some t → GT t
def stp (l : Int) : Int := if l = 0 then 0 else if l = 1 then 2 else if l = 2 then 4 else if l = 3 then 5 else if l = 4 then 7 else if l = 5 then 9 else 11
def hs (t : Tn) : Int := 12 * (t.2.2 + 1) + stp t.1 + t.2.1
theorem ix_stp {l : Int} (h0 : 0 ≤ l) (h : l < 7) : ixD [.int 0, .int 2, .int 4, .int 5, .int 7, .int 9, .int 11] l = some (.int (stp l)) := by
  have : l = 0 ∨ l = 1 ∨ l = 2 ∨ l = 3 ∨ l = 4 ∨ l = 5 ∨ l = 6 := by omega
  rcases this with rfl | rfl | rfl | rfl | rfl | rfl | rfl <;> rfl
@[simp] theorem nonD_eT (t : Option Tn) : nonD (eT t) = t.isNone := by cases t <;> rfl
theorem eT_inj (a b : Option Tn) : eqD (eT a) (eT b) = decide (a = b) := by
  rcases a with _ | ⟨a1, a2, a3⟩ <;> rcases b with _ | ⟨b1, b2, b3⟩ <;> simp [eT]
theorem eN_inj (a b : Nt) : eqD (eN a) (eN b) = decide (a = b) := by
  obtain ⟨a1, a2, a3⟩ := a
  obtain ⟨b1, b2, b3⟩ := b
  simp only [eN, eq_tt, eqL_cc, eT_inj, eq_ii, eqL_nn, Bool.and_true]
  by_cases h1 : a1 = b1 <;> by_cases h2 : a2 = b2 <;> by_cases h3 : a3 = b3 <;> simp [h1, h2, h3]
theorem ok_eT (n) (t : Option Tn) : okD (n + 1) (eT t) = true := by rcases t with _ | t <;> simp [eT]
theorem ok_eN (n) (t : Nt) : okD (n + 2) (eN t) = true := by simp [eN, ok_eT]
theorem ok_eNs (n) (l : List Nt) : okL (n + 2) (l.map eN) = true := okL_map (ok_eN n) l
theorem eNs_inj (a b : List Nt) : eqL (a.map eN) (b.map eN) = decide (a = b) := eqL_map eN_inj a b
section
variable {n : Nat}
theorem f_half {t : Tn} (hn : 1 ≤ n) (h : GT t) : callF fds n 1 [eT (some t)] = .ok (.int (hs t)) none := by
  obtain ⟨n, rfl⟩ : ∃ m, n = m + 1 := ⟨n - 1, by omega⟩
  obtain ⟨l, a, o⟩ := t
  obtain ⟨h1, h2, h3, h4, h5, h6⟩ := h
  simp only at h1 h2 h3 h4 h5 h6
  have m : mulOk 12 (o + 1) = true := mulOk_int (by decide) (by decide) (by omega) (by omega)
  rw [call_is (fd := fd_half_steps) rfl rfl]
  simp [fd_half_steps, b_half_steps, entry, eT, m, c_STEPS, ix_stp h1 h2, hs]
theorem f_halves {t : Tn} (hn : 1 ≤ n) (h : GT t) : callF fds n 15 [eT (some t)] = .ok (.int (hs t)) none := by
  obtain ⟨n, rfl⟩ : ∃ m, n = m + 1 := ⟨n - 1, by omega⟩
  obtain ⟨l, a, o⟩ := t
  obtain ⟨h1, h2, h3, h4, h5, h6⟩ := h
  simp only at h1 h2 h3 h4 h5 h6
  have m : mulOk 12 o = true := mulOk_int (by decide) (by decide) (by omega) (by omega)
  rw [call_is (fd := fd__law_halves) rfl rfl]
  simp [fd__law_halves, b__law_halves, entry, eT, m, ix_stp h1 h2, hs]
  omega
theorem f_place {t : Tn} (hn : 1 ≤ n) (h : GT t) : callF fds n 2 [eT (some t)] = .ok (.int (7 * t.2.2 + t.1)) none := by
  obtain ⟨n, rfl⟩ : ∃ m, n = m + 1 := ⟨n - 1, by omega⟩
  obtain ⟨l, a, o⟩ := t
  obtain ⟨h1, h2, h3, h4, h5, h6⟩ := h
  simp only at h1 h2 h3 h4 h5 h6
  have m : mulOk 7 o = true := mulOk_int (by decide) (by decide) (by omega) (by omega)
  rw [call_is (fd := fd_place_in) rfl rfl]
  simp [fd_place_in, b_place_in, entry, eT, m]
theorem f_pitch (hn : 1 ≤ n) (l a o : Int) : (GT (l, a, o) ∧ callF fds n 0 [.int l, .int a, .int o] = .ok (eT (some (l, a, o))) none) ∨ callF fds n 0 [.int l, .int a, .int o] = .exc 1 := by
  obtain ⟨n, rfl⟩ : ∃ m, n = m + 1 := ⟨n - 1, by omega⟩
  rw [call_is (fd := fd_pitch) rfl rfl]
  by_cases h1 : 0 ≤ l
  · by_cases h2 : l < 7
    · by_cases h3 : -2 ≤ a
      · by_cases h4 : a ≤ 2
        · by_cases h5 : 0 ≤ o
          · by_cases h6 : o ≤ 9
            · exact .inl ⟨⟨h1, h2, h3, h4, h5, h6⟩, by simp [fd_pitch, b_pitch, entry, eT, h1, h2, h3, h4, h5, h6]⟩
            · exact .inr (by simp [fd_pitch, b_pitch, entry, eT, h1, h2, h3, h4, h5, h6])
          · exact .inr (by simp [fd_pitch, b_pitch, entry, eT, h1, h2, h3, h4, h5])
        · exact .inr (by simp [fd_pitch, b_pitch, entry, eT, h1, h2, h3, h4])
      · exact .inr (by simp [fd_pitch, b_pitch, entry, eT, h1, h2, h3])
    · exact .inr (by simp [fd_pitch, b_pitch, entry, eT, h1, h2])
  · exact .inr (by simp [fd_pitch, b_pitch, entry, eT, h1])
theorem f_moved {t : Tn} (hn : 2 ≤ n) (h : GT t) {x y : Int} (hx : 0 ≤ x ∧ x ≤ 4) (hy : 0 ≤ y ∧ y ≤ 7) : (∃ u, GT u ∧ callF fds n 3 [eT (some t), .tup [.int x, .int y]] = .ok (eT (some u)) none) ∨ callF fds n 3 [eT (some t), .tup [.int x, .int y]] = .exc 1 := by
  obtain ⟨n, rfl⟩ : ∃ m, n = m + 2 := ⟨n - 2, by omega⟩
  have hh := f_half (n := n + 1) (by omega) h
  have hp := f_place (n := n + 1) (by omega) h
  obtain ⟨l, a, o⟩ := t
  obtain ⟨h1, h2, h3, h4, h5, h6⟩ := h
  simp only at h1 h2 h3 h4 h5 h6
  have d7 : divOk 7 = true := divOk_of (by decide) (by decide)
  generalize hq : (7 * o + l + x) / 7 = q at *
  have q0 : 0 ≤ q := by omega
  have q1 : q < 12 := by omega
  have m1 : mulOk 7 q = true := mulOk_int (by decide) (by decide) (by omega) (by omega)
  have m2 : mulOk 12 (q + 1) = true := mulOk_int (by decide) (by decide) (by omega) (by omega)
  have s1 : 0 ≤ 7 * o + l + x - 7 * q := by omega
  have s2 : 7 * o + l + x - 7 * q < 7 := by omega
  rw [call_is (fd := fd_moved_by) rfl rfl]
  have e : ∀ r : FO, callF fds (n + 1) 0 [.int (7 * o + l + x - 7 * q), .int (hs (l, a, o) + y - 12 * (q + 1) - stp (7 * o + l + x - 7 * q)), .int q] = r → endF none (evalSL (callF fds (n + 1)) (lamsF (callF fds (n + 1)) fd_moved_by) b_moved_by [.pu (eT (some (l, a, o))), .pu (.tup [.int x, .int y]), .no, .no, .no]) = (match r with | .ok d none => .ok d none | .exc k => .exc k | _ => .bad) := fun r hr => by
    simp [b_moved_by, hh, hp, hq, d7, m1, m2, c_STEPS, ix_stp s1 s2, hr]
    cases r <;> simp
    rename_i d o
    cases o <;> rfl
  rcases f_pitch (n := n + 1) (by omega) (7 * o + l + x - 7 * q) (hs (l, a, o) + y - 12 * (q + 1) - stp (7 * o + l + x - 7 * q)) q with ⟨g, r⟩ | r
  · exact .inl ⟨_, g, by simpa [fd_moved_by, entry] using e _ r⟩
  · exact .inr (by simpa [fd_moved_by, entry] using e _ r)
end
end K11
end
section
set_option maxRecDepth 100000
open PySem
namespace K11
open MZ MZ.V
section
variable {n B : Nat} {d : D}
theorem f_roll {m : Int} (hn : 1 ≤ n) (h : Dice (B + 1) d) (h1 : 0 < m) (h2 : m ≤ 100000000) : ∃ (r : Nat) (d' : D), callF fds n 11 [d, .int m] = .ok (.int r) (some d') ∧ (r : Int) < m ∧ Dice B d' :=
  roll_ok (i := 11) hn rfl h h1 h2
theorem ix_alt {r : Nat} (h : (r : Int) < 5) : ∃ a : Int, [D.int 0, .int 0, .int 0, .int 1, .int (-1)][r]? = some (.int a) ∧ -2 ≤ a ∧ a ≤ 2 := by
  have : r = 0 ∨ r = 1 ∨ r = 2 ∨ r = 3 ∨ r = 4 := by omega
  rcases this with rfl | rfl | rfl | rfl | rfl <;> exact ⟨_, rfl, by decide, by decide⟩
theorem f_tone (hn : 2 ≤ n) (h : Dice (B + 3) d) : ∃ t d', GT t ∧ callF fds n 14 [d] = .ok (eT (some t)) (some d') ∧ Dice B d' := by
  obtain ⟨n, rfl⟩ : ∃ m, n = m + 2 := ⟨n - 2, by omega⟩
  obtain ⟨r1, d1, e1, l1, h1⟩ := f_roll (n := n + 1) (by omega) (B := B + 2) h (m := 7) (by decide) (by decide)
  obtain ⟨r2, d2, e2, l2, h2⟩ := f_roll (n := n + 1) (by omega) (B := B + 1) h1 (m := 5) (by decide) (by decide)
  obtain ⟨r3, d3, e3, l3, h3⟩ := f_roll (n := n + 1) (by omega) (B := B) h2 (m := 3) (by decide) (by decide)
  obtain ⟨a, ea, a1, a2⟩ := ix_alt l2
  refine ⟨(r1, a, 3 + r3), d3, ⟨by simp, by simpa using l1, a1, a2, by simp; omega, by simp; omega⟩, ?_, h3⟩
  rw [call_is (fd := fd__law_tone) rfl rfl]
  simp [fd__law_tone, b__law_tone, entry, e1, e2, e3, ea, eT]
def longs : List D := [.tup [.int 1, .int 1], .tup [.int 1, .int 2], .tup [.int 3, .int 4], .tup [.int 1, .int 4], .tup [.int 3, .int 8], .tup [.int 1, .int 8], .tup [.int 1, .int 16], .tup [.int 5, .int 8], .tup [.int 9, .int 16]]
theorem ix_long {r : Nat} (h : (r : Int) < 9) : ∃ x y : Int, longs[r]? = some (.tup [.int x, .int y]) := by
  have : r = 0 ∨ r = 1 ∨ r = 2 ∨ r = 3 ∨ r = 4 ∨ r = 5 ∨ r = 6 ∨ r = 7 ∨ r = 8 := by omega
  rcases this with rfl | rfl | rfl | rfl | rfl | rfl | rfl | rfl | rfl <;> exact ⟨_, _, rfl⟩
theorem f_notes (hn : 3 ≤ n) (h : Dice (B + 30) d) : ∃ (ns : List Nt) (d' : D), ns.length ≤ 4 ∧ (∀ x ∈ ns, GN x) ∧ callF fds n 16 [d, .int 5] = .ok (.lst (ns.map eN)) (some d') ∧ Dice B d' := by
  obtain ⟨n, rfl⟩ : ∃ m, n = m + 3 := ⟨n - 3, by omega⟩
  obtain ⟨r, d1, e1, l1, h1⟩ := f_roll (n := n + 2) (by omega) (B := B + 29) h (m := 5) (by decide) (by decide)
  generalize hY : callF fds (n + 3) 16 [d, .int 5] = Y
  rw [call_is (fd := fd__law_notes) rfl rfl] at hY
  generalize lamsF _ _ = lf at hY
  have l2 : r ≤ line := le_line (by omega)
  simp [fd__law_notes, b__law_notes, entry, e1, l2] at hY
  generalize hX : forF _ _ _ _ = X at hY
  obtain ⟨ρ', rfl, d2, ns, s3, s4, rfl, hn, hg, hd⟩ := forF_at hX (fun k ρ => ∃ d2 ns s3 s4, ρ = [.mp d2, .pu (.int 5), .ow (.lst (ns.map eN)), o2 s3, o2 s4] ∧ ns.length = k ∧ (∀ x ∈ ns, GN x) ∧ Dice (B + 5 * (r - k)) d2)
    ⟨d1, [], none, none, rfl, rfl, by simp, h1.mono (by omega)⟩ (fun k hk ρ => by
      rintro ⟨d2, ns, s3, s4, rfl, hn, hg, hd⟩
      rw [v_rng_len] at hk
      obtain ⟨r1, d3, e3, l3, h3⟩ := f_roll (n := n + 2) (by omega) (B := B + 5 * (r - (k + 1)) + 4) (hd.mono (by omega)) (m := 9) (by decide) (by decide)
      obtain ⟨x, y, exy⟩ := ix_long l3
      obtain ⟨r2, d4, e4, l4, h4⟩ := f_roll (n := n + 2) (by omega) (B := B + 5 * (r - (k + 1)) + 3) h3 (m := 5) (by decide) (by decide)
      unfold longs at exy
      have lk : ns.length < line := lt_line (by omega)
      by_cases z : r2 = 0
      · subst z
        refine ⟨_, by simp [turnF_is, e3, exy, e4, lk]; rfl, d4, ns ++ [(none, x, y)], some (.int k), some (.tup [.int x, .int y]), ?_, by simp [hn], ?_, h4.mono (by omega)⟩
        · simp [eN, eT]
        · intro z m
          rcases List.mem_append.mp m with m | m
          · exact hg z m
          · cases List.mem_singleton.mp m
            intro t e
            cases e
      · obtain ⟨t, d5, gt, e5, h5⟩ := f_tone (n := n + 2) (by omega) h4
        have z' : ¬ (r2 : Int) = 0 := by omega
        refine ⟨_, by simp [turnF_is, e3, exy, e4, e5, lk, z]; rfl, d5, ns ++ [(some t, x, y)], some (.int k), some (.tup [.int x, .int y]), ?_, by simp [hn], ?_, h5.mono (by omega)⟩
        · simp [eN, eT]
        · intro z m
          rcases List.mem_append.mp m with m | m
          · exact hg z m
          · cases List.mem_singleton.mp m
            intro t e
            cases e
            exact gt)
  simp [fd__law_notes] at hY
  subst hY
  refine ⟨ns, d2, ?_, hg, rfl, hd.mono (by omega)⟩
  rw [v_rng_len] at hn
  omega
end
end K11
end
section
set_option maxRecDepth 100000
open PySem
namespace K11
open MZ MZ.V
def difD : Option Tn → Option Tn → D
  | some t, some u => .int (hs u - hs t)
  | _, _ => .non
def shp (ns : List Nt) (k : Nat) : D := match ns[k]? with
  | some a => .tup [difD a.1 (ns[k + 1]?.bind (·.1)), .tup [.int a.2.1, .int a.2.2]]
  | none => .non
def shape (ns : List Nt) : List D := (List.range ns.length).map (shp ns)
section
variable {n : Nat}
theorem f_shape {ns : List Nt} (hn : 2 ≤ n) (hg : ∀ x ∈ ns, GN x) (hl : ns.length ≤ 1000) : callF fds n 4 [.lst (ns.map eN)] = .ok (.tup (shape ns)) none := by
  obtain ⟨n, rfl⟩ : ∃ m, n = m + 2 := ⟨n - 2, by omega⟩
  generalize hY : callF fds (n + 2) 4 _ = Y
  rw [call_is (fd := fd_shape_of) rfl rfl] at hY
  generalize lamsF _ _ = lf at hY
  simp [fd_shape_of, b_shape_of, entry] at hY
  generalize hX : forF _ _ _ _ = X at hY
  obtain ⟨ρ', rfl, s2, s3, s4, s5, rfl⟩ := forF_at hX (fun k ρ => ∃ s2 s3 s4 s5, ρ = [.pu (.lst (ns.map eN)), .ow (.lst ((List.range k).map (shp ns))), o2 s2, o2 s3, o2 s4, o2 s5]) ⟨none, none, none, none, rfl⟩ (fun k hk ρ => by
    rintro ⟨s2, s3, s4, s5, rfl⟩
    have hk' : k < ns.length := by simpa using hk
    have g1 := hg _ (List.getElem_mem hk')
    refine ⟨_, ?_, some (.int k), some (eT ns[k].1), some (.tup [.int ns[k].2.1, .int ns[k].2.2]), some (eT (ns[k + 1]?.bind (·.1))), rfl⟩
    have lk : k < line := lt_line (by omega)
    have es : shp ns k = .tup [difD ns[k].1 (ns[k + 1]?.bind (·.1)), .tup [.int ns[k].2.1, .int ns[k].2.2]] := by
      unfold shp
      rw [List.getElem?_eq_getElem hk']
    rw [List.range_succ, List.map_append, List.map_cons, List.map_nil, es]
    by_cases h1 : k + 1 < ns.length
    · have g2 := hg _ (List.getElem_mem h1)
      have c1 : (k : Int) + 1 < ns.length := by omega
      cases e1 : ns[k].1 with
      | none => simp [turnF_is, eN, lk, h1, c1, e1, eT_none, difD]
      | some t => cases e2 : ns[k + 1].1 with
        | none => simp [turnF_is, eN, lk, h1, c1, e1, e2, eT_none, difD]
        | some u => simp [turnF_is, eN, lk, h1, c1, e1, e2, f_half (n := n + 1) (by omega) (g1 t e1), f_half (n := n + 1) (by omega) (g2 u e2), difD]
    · have c1 : ¬ (k : Int) + 1 < ns.length := by omega
      cases e1 : ns[k].1 with
      | none => simp [turnF_is, eN, lk, h1, c1, e1, eT_none, difD]
      | some t => simp [turnF_is, eN, lk, h1, c1, e1, eT_none, difD])
  simp [fd_shape_of] at hY
  subst hY
  rfl
end
end K11
namespace K11
open MZ MZ.V
def firstV (l : List Nt) : D := match l.findSome? (·.1) with
  | some t => .int (hs t)
  | none => .non
def f0 (ns : List Nt) : Int := match ns.findSome? (·.1) with
  | some t => hs t
  | none => 0
def mvd (z : Int) (a : Nt) : D := .tup [match a.1 with
  | some t => .int (hs t - z)
  | none => .non, .tup [.int a.2.1, .int a.2.2]]
def mshape (ns : List Nt) : List D := ns.map (mvd (f0 ns))
theorem f0_of {ns : List Nt} {a : Nt} {t : Tn} (m : a ∈ ns) (e : a.1 = some t) : firstV ns = .int (f0 ns) := by
  unfold firstV f0
  cases h : ns.findSome? (·.1) with
  | some u => rfl
  | none =>
    rw [List.findSome?_eq_none_iff] at h
    rw [h a m] at e
    cases e
section
variable {n : Nat}
theorem f_mshape {ns : List Nt} (hn : 2 ≤ n) (hg : ∀ x ∈ ns, GN x) (hl : ns.length ≤ 1000) : callF fds n 8 [.lst (ns.map eN)] = .ok (.tup (mshape ns)) none ∧ callF fds n 8 [.tup (ns.map eN)] = .ok (.tup (mshape ns)) none := by
  obtain ⟨n, rfl⟩ : ∃ m, n = m + 2 := ⟨n - 2, by omega⟩
  have main : ∀ d, (d = .lst (ns.map eN) ∨ d = .tup (ns.map eN)) → callF fds (n + 2) 8 [d] = .ok (.tup (mshape ns)) none := fun d hd => by
    have sq : seqR [d] = some (ns.map eN) := by rcases hd with rfl | rfl <;> rfl
    generalize hY : callF fds (n + 2) 8 _ = Y
    rw [call_is (fd := fd_moved_shape) rfl rfl] at hY
    generalize lamsF _ _ = lf at hY
    simp [fd_moved_shape, b_moved_shape, entry, sq] at hY
    generalize hX : forF _ _ _ _ = X at hY
    obtain ⟨ρ', rfl, s1, s2, rfl⟩ := forF_at hX (fun k ρ => ∃ s1 s2, ρ = [.pu d, o2 s1, o2 s2, .pu (firstV (ns.take k))]) ⟨none, none, rfl⟩ (fun k hk ρ => by
      rintro ⟨s1, s2, rfl⟩
      have hk' : k < ns.length := by simpa using hk
      have g1 := hg _ (List.getElem_mem hk')
      refine ⟨_, ?_, some (eT ns[k].1), some (.tup [.int ns[k].2.1, .int ns[k].2.2]), rfl⟩
      have tk : firstV (ns.take (k + 1)) = if nonD (firstV (ns.take k)) then (match ns[k].1 with | some t => .int (hs t) | none => .non) else firstV (ns.take k) := by
        unfold firstV
        rw [List.take_add_one, List.getElem?_eq_getElem hk', List.findSome?_append]
        cases h : (ns.take k).findSome? (·.1) with
        | some t => rfl
        | none => cases e : ns[k].1 <;> simp [e]
      rw [tk]
      cases hz : nonD (firstV (ns.take k)) with
      | false => simp [turnF_is, eN, hz]
      | true => cases e1 : ns[k].1 with
        | none =>
          simp [turnF_is, eN, hz, e1, eT_none]
          cases h : firstV (ns.take k) <;> rw [h] at hz <;> first | rfl | cases hz
        | some t => simp [turnF_is, eN, hz, e1, f_half (n := n + 1) (by omega) (g1 t e1)])
    simp [fd_moved_shape] at hY
    rw [gen_tup [.pu d, .no, .no, .pu (firstV ns)] ns eN (fun _ => true) (mvd (f0 ns)) ?h1 ?h2 ?h3 ?h4] at hY
    case h1 => simp [sq]
    case h2 => exact le_line (by omega)
    case h3 => simp
    case h4 =>
      intro a m
      cases e1 : a.1 with
      | none => simp [eN, e1, eT_none, mvd]
      | some t =>
        have hh := f_half (n := n + 1) (by omega) (hg a m t e1)
        simp [eN, e1, mvd, hh, f0_of m e1]
    simp at hY
    exact hY.symm
  exact ⟨main _ (.inl rfl), main _ (.inr rfl)⟩
end
end K11
end
section
set_option maxRecDepth 100000
open PySem
namespace K11
open MZ MZ.V
def pairOk (h : Int) (q : Nt × Nt) : Bool := decide (q.1.2 = q.2.2) && (q.1.1.isNone == q.2.1.isNone) && (match q.1.1, q.2.1 with
  | some t, some u => decide (hs u - hs t = h)
  | _, _ => true)
def canonB (ns : List Nt) (p : Nat) (h : Int) : Bool := (ns.zip (ns.drop p)).all (pairOk h)
section
variable {n : Nat}
theorem f_canon0 {h : Int} {d : D} (hn : 1 ≤ n) : callF fds n 9 [d, .int 0, .int h] = .exc 2 := by
  obtain ⟨n, rfl⟩ : ∃ m, n = m + 1 := ⟨n - 1, by omega⟩
  rw [call_is (fd := fd_is_canon) rfl rfl]
  simp [fd_is_canon, b_is_canon, entry]
theorem f_canon {ns : List Nt} {p : Nat} {h : Int} (hn : 2 ≤ n) (hg : ∀ x ∈ ns, GN x) (hp : 1 ≤ p) : callF fds n 9 [.lst (ns.map eN), .int p, .int h] = .ok (.bl (canonB ns p h)) none := by
  obtain ⟨n, rfl⟩ : ∃ m, n = m + 2 := ⟨n - 2, by omega⟩
  generalize hY : callF fds (n + 2) 9 _ = Y
  rw [call_is (fd := fd_is_canon) rfl rfl] at hY
  generalize lamsF _ _ = lf at hY
  have hp' : ¬ (p : Int) < 1 := by omega
  have hp2 : ¬ p = 0 := by omega
  have hz : zipR [.lst (ns.map eN), .lst ((ns.map eN).drop (min p ns.length))] = some ((ns.zip (ns.drop p)).map fun q => .tup [eN q.1, eN q.2]) := by
    rw [← zipR_map, List.map_drop]
    congr 4
    have := drop_min (ns.map eN) p
    rwa [List.length_map] at this
  simp only [fd_is_canon, b_is_canon, entry] at hY
  simp [hp', hp2, -zipR_l, hz] at hY
  generalize hX : forF _ _ _ _ = X at hY
  have hE := forF_atR hX (fun k ρ => (∃ s3 s4, ρ = [.pu (.lst (ns.map eN)), .pu (.int p), .pu (.int h), o2 s3, o2 s4]) ∧ ((ns.zip (ns.drop p)).take k).all (pairOk h) = true) (fun v => v = .bl false ∧ canonB ns p h = false) (fun _ => False) ⟨⟨none, none, rfl⟩, rfl⟩ (fun k hk ρ => by
    rintro ⟨⟨s3, s4, rfl⟩, ha⟩
    have hk' : k < (ns.zip (ns.drop p)).length := by rwa [List.length_map] at hk
    generalize hq : (ns.zip (ns.drop p))[k] = q
    have m1 : q.1 ∈ ns := by rw [← hq, List.getElem_zip]; exact List.getElem_mem _
    have m2 : q.2 ∈ ns := by rw [← hq, List.getElem_zip]; exact List.mem_of_mem_drop (List.getElem_mem _)
    have g1 := hg _ m1
    have g2 := hg _ m2
    have ei : ((ns.zip (ns.drop p)).map fun q => D.tup [eN q.1, eN q.2])[k]'(by simpa using hk') = .tup [eN q.1, eN q.2] := by rw [List.getElem_map, hq]
    have tk : ((ns.zip (ns.drop p)).take (k + 1)).all (pairOk h) = pairOk h q := by
      rw [List.take_add_one, List.getElem?_eq_getElem hk', List.all_append, ha, hq]
      simp
    have bad : pairOk h q = false → canonB ns p h = false := fun e => by
      unfold canonB
      rw [List.all_eq_false]
      exact ⟨q, hq ▸ List.getElem_mem _, by simp [e]⟩
    rw [ei, tk]
    obtain ⟨⟨a1, a2, a3⟩, b1, b2, b3⟩ := q
    have ok1 : okD 60 (eT a1) = true := ok_eT _ _
    by_cases e2 : a2 = b2 ∧ a3 = b3
    · obtain ⟨rfl, rfl⟩ := e2
      cases a1 with
      | none => cases b1 with
        | none => simp [turnF_is, eN, eT_none, pairOk]
        | some u =>
          have : pairOk h ((none, a2, a3), (some u, a2, a3)) = false := by simp [pairOk]
          simp [turnF_is, eN, eT_none, eT_some, bad this]
      | some t => cases b1 with
        | none =>
          have : pairOk h ((some t, a2, a3), (none, a2, a3)) = false := by simp [pairOk]
          simp [turnF_is, eN, eT_none, eT_some, bad this]
        | some u =>
          have h1 := f_half (n := n + 1) (by omega) (g1 t rfl)
          have h2 := f_half (n := n + 1) (by omega) (g2 u rfl)
          by_cases z : hs u - hs t = h
          · simp [turnF_is, eN, h1, h2, z, pairOk, nonD_eT]
          · have : pairOk h ((some t, a2, a3), (some u, a2, a3)) = false := by simp [pairOk, z]
            simp [turnF_is, eN, h1, h2, z, nonD_eT, bad this]
    · have : pairOk h ((a1, a2, a3), (b1, b2, b3)) = false := by simp [pairOk, e2]
      by_cases z2 : a2 = b2
      · have z3 : ¬ a3 = b3 := fun y => e2 ⟨z2, y⟩
        simp [turnF_is, eN, z2, z3, bad this]
      · simp [turnF_is, eN, z2, bad this])
  cases X with
  | next ρ' =>
    obtain ⟨⟨s3, s4, rfl⟩, ha⟩ := hE
    simp at hY
    rw [← hY]
    rw [List.length_map, List.take_length] at ha
    unfold canonB
    rw [ha]
  | ret v ρ' =>
    obtain ⟨rfl, hc⟩ := hE
    simp at hY
    rw [← hY, hc]
  | exc k => exact hE.elim
  | brk _ => exact hE.elim
  | cont _ => exact hE.elim
  | bad => exact hE.elim
end
end K11
end
section
set_option maxRecDepth 100000
open PySem
namespace K11
open MZ MZ.V
def placesL (rs ws : List D) : List Nat := (List.range (rs.length - ws.length + 1)).filter fun k => eqL ((rs.drop k).take ws.length) ws
def intD (k : Nat) : D := .int k
section
variable {n : Nat}
theorem f_places {rs ws : List D} (hn : 1 ≤ n) (h1 : okL 59 rs = true) (h2 : okL 59 ws = true) (hw : ws.length ≤ rs.length) (hl : rs.length ≤ 1000) : callF fds n 6 [.lst rs, .lst ws] = .ok (.tup ((placesL rs ws).map intD)) none := by
  obtain ⟨n, rfl⟩ : ∃ m, n = m + 1 := ⟨n - 1, by omega⟩
  generalize hY : callF fds (n + 1) 6 _ = Y
  rw [call_is (fd := fd_places_of) rfl rfl] at hY
  generalize lamsF _ _ = lf at hY
  simp -implicitDefEqProofs [fd_places_of, b_places_of, entry] at hY
  rw [gen_tup [.pu (.lst rs), .pu (.lst ws), .pu (.int ws.length), .no] (List.range (rs.length - ws.length + 1)) intD (fun k => eqL ((rs.drop k).take ws.length) ws) intD ?h1 ?h2 ?h3 ?h4] at hY
  case h1 =>
    simp [rng1_ok (a := (rs.length : Int) - ws.length + 1) (by omega) (by omega)]
    rw [show ((rs.length : Int) - ws.length + 1).toNat = rs.length - ws.length + 1 by omega, rng_map]
    simp [intD]
  case h2 =>
    rw [List.length_range]
    exact le_line (by omega)
  case h3 => simp
  case h4 =>
    intro k m
    have hk : k < rs.length - ws.length + 1 := by simpa using m
    have e := cutD_is rs k (k + ws.length) (by omega)
    rw [show k + ws.length - k = ws.length by omega] at e
    have o := okL_take (okL_drop h1 k) ws.length
    simp [intD, e, o, h2]
  simp -implicitDefEqProofs at hY
  exact hY.symm
def cpl : List D → List D → Nat
  | x :: xs, y :: ys => if eqD x y = true then cpl xs ys + 1 else 0
  | _, _ => 0
theorem cpl_le : ∀ xs ys : List D, cpl xs ys ≤ xs.length ∧ cpl xs ys ≤ ys.length
  | [], _ => by simp [cpl]
  | _ :: _, [] => by simp [cpl]
  | x :: xs, y :: ys => by
    have := cpl_le xs ys
    simp only [cpl]
    split <;> simp <;> omega
theorem cpl_take : ∀ (xs ys : List D) (k : Nat), k ≤ xs.length → k ≤ ys.length → eqL (xs.take k) (ys.take k) = decide (k ≤ cpl xs ys)
  | xs, ys, 0, _, _ => by simp
  | [], ys, k + 1, h, _ => by simp at h
  | x :: xs, [], k + 1, _, h => by simp at h
  | x :: xs, y :: ys, k + 1, h, h' => by
    rw [List.take_succ_cons, List.take_succ_cons, eqL_cc, cpl_take xs ys k (by simpa using h) (by simpa using h')]
    simp only [cpl]
    by_cases hx : eqD x y = true
    · simp [hx]
    · simp [hx]
theorem cpl_lt : ∀ (xs ys : List D) (k : Nat), k ≤ cpl xs ys → (k < cpl xs ys ↔ ∃ a b, xs[k]? = some a ∧ ys[k]? = some b ∧ eqD a b = true)
  | [], ys, k, _ => by simp [cpl]
  | x :: xs, [], k, _ => by simp [cpl]
  | x :: xs, y :: ys, 0, _ => by
    simp only [cpl]
    cases hx : eqD x y <;> simp [hx]
  | x :: xs, y :: ys, k + 1, h => by
    simp only [cpl] at h ⊢
    cases hx : eqD x y with
    | false => rw [hx] at h; simp at h
    | true =>
      rw [hx] at h
      have := cpl_lt xs ys k (by simpa using h)
      simp only [if_true, List.getElem?_cons_succ]
      rw [← this]
      omega
/-- how long two runs are the same -/
def rl (rs : List D) (f t : Nat) : Nat := cpl ((rs.drop f).take (t - f)) (rs.drop t)
abbrev Bst := Option (Nat × Nat × Nat)
def eB : Bst → D
  | none => .non
  | some b => .tup [.int b.1, .int b.2.1, .int b.2.2]
def bsz : Bst → Nat
  | none => 0
  | some c => c.1
def upd (b : Bst) (s f t : Nat) : Bst := if bsz b < s then some (s, f, t) else b
def inB (rs : List D) (f : Nat) (b : Bst) (m : Nat) : Bst := (List.range m).foldl (fun b j => upd b (rl rs f (f + 1 + j)) f (f + 1 + j)) b
def outB (rs : List D) (m : Nat) : Bst := (List.range m).foldl (fun b f => inB rs f b (rs.length - (f + 1))) none
def best (rs : List D) : Bst := outB rs rs.length
theorem inB_0 (rs f b) : inB rs f b 0 = b := rfl
theorem inB_s (rs f b m) : inB rs f b (m + 1) = upd (inB rs f b m) (rl rs f (f + 1 + m)) f (f + 1 + m) := by
  unfold inB
  rw [List.range_succ, List.foldl_append]
  rfl
theorem outB_s (rs m) : outB rs (m + 1) = inB rs m (outB rs m) (rs.length - (m + 1)) := by
  unfold outB
  rw [List.range_succ, List.foldl_append]
  rfl
theorem rl_le {rs : List D} {f t : Nat} (h : f < t) (ht : t < rs.length) : rl rs f t ≤ t - f ∧ rl rs f t ≤ rs.length - t := by
  have := cpl_le ((rs.drop f).take (t - f)) (rs.drop t)
  rw [List.length_take, List.length_drop, List.length_drop] at this
  unfold rl
  omega
theorem rl_lt {rs : List D} {f t k : Nat} (h : f < t) (hk : k ≤ rl rs f t) : k < rl rs f t ↔ (f + k < t ∧ ∃ (h1 : t + k < rs.length) (h2 : f + k < rs.length), eqD rs[f + k] rs[t + k] = true) := by
  unfold rl at hk ⊢
  rw [cpl_lt _ _ _ hk]
  constructor
  · rintro ⟨a, b, e1, e2, e3⟩
    rw [List.getElem?_take] at e1
    split at e1
    · rename_i z
      rw [List.getElem?_drop] at e1 e2
      obtain ⟨p1, q1⟩ := List.getElem?_eq_some_iff.mp e1
      obtain ⟨p2, q2⟩ := List.getElem?_eq_some_iff.mp e2
      exact ⟨by omega, p2, p1, by rw [q1, q2]; exact e3⟩
    · cases e1
  · rintro ⟨z, h1, h2, e⟩
    refine ⟨_, _, ?_, ?_, e⟩
    · rw [List.getElem?_take, if_pos (by omega), List.getElem?_drop, List.getElem?_eq_getElem h2]
    · rw [List.getElem?_drop, List.getElem?_eq_getElem h1]
theorem f_longest_x {rs : List D} (hn : 1 ≤ n) (hl : 200 < rs.length) : callF fds n 5 [.lst rs] = .exc 2 := by
  obtain ⟨n, rfl⟩ : ∃ m, n = m + 1 := ⟨n - 1, by omega⟩
  rw [call_is (fd := fd_longest_again) rfl rfl]
  have : (200 : Int) < rs.length := by omega
  simp [fd_longest_again, b_longest_again, entry, c_MOST_TONES, this]
theorem f_longest {rs : List D} (hn : 1 ≤ n) (h1 : okL 60 rs = true) (hl : rs.length ≤ 200) : callF fds n 5 [.lst rs] = .ok (eB (best rs)) none := by
  obtain ⟨n, rfl⟩ : ∃ m, n = m + 1 := ⟨n - 1, by omega⟩
  generalize hY : callF fds (n + 1) 5 _ = Y
  obtain ⟨W, hW⟩ : ∃ W, mostW = W := ⟨_, rfl⟩
  have hW2 : 1000 < W := by rw [← hW]; decide
  rw [call_is (fd := fd_longest_again) rfl rfl] at hY
  generalize lamsF _ _ = lf at hY
  have l1 : ¬ (200 : Int) < rs.length := by omega
  have l2 : rs.length ≤ line := le_line (by omega)
  simp -implicitDefEqProofs [fd_longest_again, b_longest_again, entry, c_MOST_TONES, l1, l2] at hY
  generalize hX : forF _ _ _ _ = X at hY
  obtain ⟨ρ', rfl, s2, s3, s4, rfl⟩ := forF_at hX (fun k ρ => ∃ s2 s3 s4, ρ = [.pu (.lst rs), .pu (eB (outB rs k)), o2 s2, o2 s3, o2 s4]) ⟨none, none, none, rfl⟩ (fun f hf ρ => by
    rintro ⟨s2, s3, s4, rfl⟩
    rw [v_rng_len] at hf
    generalize hZ : turnF _ _ _ _ = Z
    simp -implicitDefEqProofs [turnF_is, rng2_ok (a := (f : Int) + 1) (b := rs.length) (by omega) (by omega) (by omega) (by omega)] at hZ
    generalize hX2 : forF _ _ _ _ = X2 at hZ
    obtain ⟨ρ2, e2, s3', s4', e3⟩ := forF_at hX2 (fun j ρ => ∃ s3 s4, ρ = [.pu (.lst rs), .pu (eB (inB rs f (outB rs f) j)), .pu (.int f), o2 s3, o2 s4]) ⟨s3, s4, by rw [inB_0]⟩ (fun j hj ρ => by
      rintro ⟨s3, s4, rfl⟩
      rw [v_rng_len] at hj
      have hj' : f + 1 + j < rs.length := by omega
      generalize hZ2 : turnF _ _ _ _ = Z2
      simp -implicitDefEqProofs [turnF_is, s_whileW hW] at hZ2
      generalize hX3 : whileF _ _ _ _ = X3 at hZ2
      have rll := rl_le (show f < f + 1 + j by omega) hj'
      obtain ⟨ρ3, e4, e5⟩ := whileF_at hX3 (fun ρ => ∃ k, k ≤ rl rs f (f + 1 + j) ∧ ρ = [.pu (.lst rs), .pu (eB (inB rs f (outB rs f) j)), .pu (.int f), .pu (.int (f + 1 + j)), .pu (.int (k : Nat))])
        (fun ρ => match ρ with | [_, _, _, _, .pu (.int k)] => rl rs f (f + 1 + j) - k.toNat | _ => 0) (fun ρ => ρ = [.pu (.lst rs), .pu (eB (inB rs f (outB rs f) j)), .pu (.int f), .pu (.int (f + 1 + j)), .pu (.int (rl rs f (f + 1 + j) : Nat))])
        ⟨0, by omega, rfl⟩ (by simp; omega) (fun ρ => by
          rintro ⟨k, hk, rfl⟩
          have lt := rl_lt (show f < f + 1 + j by omega) hk
          by_cases c1 : f + k < f + 1 + j
          · have d1 : (f : Int) + k < f + 1 + j := by omega
            by_cases c2 : f + 1 + j + k < rs.length
            · have d2 : (f : Int) + 1 + j + k < rs.length := by omega
              have c3 : f + k < rs.length := by omega
              have o1 := okL_get h1 c2
              have o2 := okL_get h1 c3
              have i1 : ixD rs ((f : Int) + 1 + j + k) = some rs[f + 1 + j + k] := by rw [ixD_of (f + 1 + j + k) (by omega), List.getElem?_eq_getElem c2]
              have i2 : ixD rs ((f : Int) + k) = some rs[f + k] := by rw [ixD_of (f + k) (by omega), List.getElem?_eq_getElem c3]
              refine ⟨eqD rs[f + k] rs[f + 1 + j + k], _, by simp [d1, d2, c3, o1, o2, i1, i2, -ixD_add, -ixD_addL]; rfl, fun e => ?_, fun e => ?_⟩
              · have : ¬ k < rl rs f (f + 1 + j) := fun z => by
                  obtain ⟨_, _, _, z⟩ := lt.mp z
                  rw [e] at z
                  cases z
                rw [show k = rl rs f (f + 1 + j) by omega]
              · have : k < rl rs f (f + 1 + j) := lt.mpr ⟨c1, c2, c3, e⟩
                refine ⟨_, by simp; rfl, ⟨k + 1, by omega, by simp⟩, ?_⟩
                simp
                omega
            · have d2 : ¬ (f : Int) + 1 + j + k < rs.length := by omega
              refine ⟨false, _, by simp [d1, d2]; rfl, fun _ => ?_, fun e => by cases e⟩
              have : ¬ k < rl rs f (f + 1 + j) := fun z => c2 (lt.mp z).2.1
              rw [show k = rl rs f (f + 1 + j) by omega]
          · have d1 : ¬ (f : Int) + k < f + 1 + j := by omega
            refine ⟨false, _, by simp [d1]; rfl, fun _ => ?_, fun e => by cases e⟩
            have : ¬ k < rl rs f (f + 1 + j) := fun z => c1 (lt.mp z).1
            rw [show k = rl rs f (f + 1 + j) by omega])
      rw [e4, e5] at hZ2
      rw [inB_s]
      clear e4 hX3
      generalize hr : rl rs f (f + 1 + j) = r at hZ2 ⊢
      generalize inB rs f (outB rs f) j = b at hZ2 ⊢
      unfold upd
      cases b with
      | none =>
        by_cases r0 : 0 < r
        · have r1 : (0 : Int) < r := by omega
          simp -implicitDefEqProofs [eB, r0, r1] at hZ2
          exact ⟨_, hZ2.symm, some (.int (f + 1 + j)), some (.int r), by simp [eB, bsz, r0]⟩
        · have r1 : ¬ (0 : Int) < r := by omega
          simp -implicitDefEqProofs [eB, r0, r1] at hZ2
          exact ⟨_, hZ2.symm, some (.int (f + 1 + j)), some (.int r), by simp [eB, bsz, r0]⟩
      | some c =>
        by_cases r0 : 0 < r
        · have r1 : (0 : Int) < r := by omega
          by_cases r2 : c.1 < r
          · have r3 : (c.1 : Int) < r := by omega
            simp -implicitDefEqProofs [eB, r0, r1, r2, r3] at hZ2
            exact ⟨_, hZ2.symm, some (.int (f + 1 + j)), some (.int r), by simp [eB, bsz, r2]⟩
          · have r3 : ¬ (c.1 : Int) < r := by omega
            simp -implicitDefEqProofs [eB, r0, r1, r2, r3] at hZ2
            exact ⟨_, hZ2.symm, some (.int (f + 1 + j)), some (.int r), by simp [eB, bsz, r2]⟩
        · have r1 : ¬ (0 : Int) < r := by omega
          have r2 : ¬ c.1 < r := by omega
          simp -implicitDefEqProofs [eB, r0, r1] at hZ2
          exact ⟨_, hZ2.symm, some (.int (f + 1 + j)), some (.int r), by simp [eB, bsz, r2]⟩)
    have e6 : ((rs.length : Int) - (f + 1)).toNat = rs.length - (f + 1) := by omega
    rw [v_rng_len, e6, ← outB_s] at e3
    rw [e2, e3] at hZ
    clear e2 e3 hX2
    simp -implicitDefEqProofs at hZ
    exact ⟨_, hZ.symm, some (.int f), s3', s4', rfl⟩)
  simp -implicitDefEqProofs at hY
  exact hY.symm
end
end K11
end
section
set_option maxRecDepth 100000
open PySem
namespace K11
open MZ MZ.V
abbrev Mt := Option Int × Int × Int
def eI : Option Int → D
  | none => .non
  | some i => .int i
def eM (x : Mt) : D := .tup [eI x.1, .tup [.int x.2.1, .int x.2.2]]
def mvT (z : Int) (a : Nt) : Mt := (a.1.map fun t => hs t - z, a.2)
def mshT (ns : List Nt) : List Mt := ns.map (mvT (f0 ns))
theorem mvd_is (z : Int) (a : Nt) : mvd z a = eM (mvT z a) := by
  obtain ⟨a1, a2, a3⟩ := a
  cases a1 <;> rfl
theorem mshape_is (ns : List Nt) : mshape ns = (mshT ns).map eM := by
  unfold mshape mshT
  rw [List.map_map]
  exact List.map_congr_left fun a _ => mvd_is _ a
theorem eI_inj (a b : Option Int) : eqD (eI a) (eI b) = decide (a = b) := by
  cases a <;> cases b <;> simp [eI]
theorem eM_inj (a b : Mt) : eqD (eM a) (eM b) = decide (a = b) := by
  obtain ⟨a1, a2, a3⟩ := a
  obtain ⟨b1, b2, b3⟩ := b
  simp only [eM, eq_tt, eqL_cc, eI_inj, eq_ii, eqL_nn, Bool.and_true]
  by_cases h1 : a1 = b1 <;> by_cases h2 : a2 = b2 <;> by_cases h3 : a3 = b3 <;> simp [h1, h2, h3]
theorem ok_eI (n) (t : Option Int) : okD n (eI t) = true := by cases t <;> simp [eI]
theorem ok_eM (n) (t : Mt) : okD (n + 2) (eM t) = true := by simp [eM, ok_eI]
theorem ok_eMs (n) (l : List Mt) : okL (n + 2) (l.map eM) = true := okL_map (ok_eM n) l
theorem eMs_inj (a b : List Mt) : eqL (a.map eM) (b.map eM) = decide (a = b) := eqL_map eM_inj a b
def az : Str := "ABCDEFGHIJKLMNOPQRSTUVWXYZ"
def chr (k : Nat) : Str := match az.cps.toList[k]? with
  | some c => ⟨#[c]⟩
  | none => "A"
theorem az_ix {k : Nat} (h : k < 26) : ixR [.str az, .int k] = some (.str (chr k)) := by
  have l : az.length = 26 := by decide +kernel
  have l2 : az.cps.toList.length = 26 := by decide +kernel
  rw [ixR_s, if_pos ⟨by omega, by omega, by rw [l]; exact le_line (by omega)⟩, Int.toNat_natCast]
  unfold chr
  rw [List.getElem?_eq_getElem (by omega)]
  rfl
theorem chr_ok {k : Nat} (h : k < 26) : PySem.PyData.strOk (chr k) = true ∧ PySem.PyData.strOk (chr k ++ "'") = true ∧ (chr k).length = 1 := by
  have : ∀ k < 26, PySem.PyData.strOk (chr k) = true ∧ PySem.PyData.strOk (chr k ++ "'") = true ∧ (chr k).length = 1 := by decide +kernel
  exact this k h
theorem q_len : ("'" : Str).length = 1 := by decide +kernel
/-- the same part, or moved -/
def same (p q : List Nt) : Bool := decide (q = p) || (!p.isEmpty && decide (mshT p = mshT q))
def letr (p q : List Nt) (k : Nat) : Str := if q = p then chr k else chr k ++ "'"
def hits (fs : List (List Nt)) (p : List Nt) (m : Nat) : List Nat := (List.range m).filter fun k => same p (fs.getD k [])
def letS (fs : List (List Nt)) (p : List Nt) (m : Nat) : Option Str := (hits fs p m).head?.map fun k => letr p (fs.getD k []) k
def stepL (s : List (List Nt) × List Str) (p : List Nt) : Option (List (List Nt) × List Str) := match letS s.1 p s.1.length with
  | some z => some (s.1, s.2 ++ [z])
  | none => if s.1.length = 26 then none else some (s.1 ++ [p], s.2 ++ [chr s.1.length])
def eP (p : List Nt) : D := .lst (p.map eN)
def eQ (p : List Nt) : D := .tup (p.map eN)
def eS : Option Str → D
  | none => .non
  | some z => .str z
theorem letS_s (fs p m) (h : m < fs.length) : letS fs p (m + 1) = match letS fs p m with
  | some z => some z
  | none => if same p fs[m] then some (letr p fs[m] m) else none := by
  have e : fs.getD m [] = fs[m] := by rw [List.getD_eq_getElem?_getD, List.getElem?_eq_getElem h]; rfl
  unfold letS hits
  rw [List.range_succ, List.filter_append, List.head?_append, Option.map_or]
  cases ((List.range m).filter fun k => same p (fs.getD k [])).head? with
  | some k => rfl
  | none =>
    rw [List.filter_cons]
    cases hs : same p fs[m] <;> simp [hs, e, h]
section
variable {n : Nat}
def loopL : Option (List (List Nt) × List Str) → List (List Nt) → Option (List (List Nt) × List Str)
  | none, _ => none
  | some s, [] => some s
  | some s, p :: ps => loopL (stepL s p) ps
theorem loopL_none (ps) : loopL none ps = none := by cases ps <;> rfl
theorem loopL_snoc : ∀ (ps : List (List Nt)) (s p), loopL s (ps ++ [p]) = (loopL s ps).bind fun s => stepL s p
  | [], none, p => rfl
  | [], some s, p => by
    show loopL (stepL s p) [] = stepL s p
    cases stepL s p <;> rfl
  | q :: ps, none, p => rfl
  | q :: ps, some s, p => by
    show loopL (stepL s q) (ps ++ [p]) = _
    rw [loopL_snoc ps]
    rfl
theorem f_form {ps : List (List Nt)} (hn : 3 ≤ n) (hg : ∀ p ∈ ps, p.length ≤ 1000 ∧ ∀ x ∈ p, GN x) (hl : ps.length ≤ 1000) :
    callF fds n 7 [.lst (ps.map eP)] = match loopL (some ([], [])) ps with
    | some s => .ok (.tup (s.2.map D.str)) none
    | none => .exc 2 := by
  obtain ⟨n, rfl⟩ : ∃ m, n = m + 3 := ⟨n - 3, by omega⟩
  generalize hY : callF fds (n + 3) 7 _ = Y
  rw [call_is (fd := fd_form_letters) rfl rfl] at hY
  generalize lamsF _ _ = lf at hY
  simp -implicitDefEqProofs [fd_form_letters, b_form_letters, entry] at hY
  generalize hX : forF _ _ _ _ = X at hY
  have hE := forF_atR hX (fun k ρ => ∃ s s4 s5 s6 s3, loopL (some ([], [])) (ps.take k) = some s ∧ (∀ q ∈ s.1, q ∈ ps) ∧ s.1.length ≤ 26 ∧ s.2.length = k ∧ ρ = [.pu (.lst (ps.map eP)), .ow (.lst (s.1.map eQ)), .ow (.lst (s.2.map D.str)), o2 s3, o2 s4, o2 s5, o2 s6])
    (fun _ => False) (fun j => j = 2 ∧ loopL (some ([], [])) ps = none) ⟨([], []), none, none, none, none, rfl, by simp, by simp, rfl, rfl⟩ (fun k hk ρ => by
    rintro ⟨s, s4, s5, s6, s3, es, hm, h26, h2, rfl⟩
    have hk' : k < ps.length := by simpa using hk
    generalize hp : ps[k] = p
    have ei : (ps.map eP)[k] = .lst (p.map eN) := by rw [List.getElem_map, hp]; rfl
    have pm : p ∈ ps := hp ▸ List.getElem_mem _
    obtain ⟨pl, pg⟩ := hg p pm
    have tk : loopL (some ([], [])) (ps.take (k + 1)) = stepL s p := by
      rw [List.take_add_one, List.getElem?_eq_getElem hk', hp, Option.toList_some, loopL_snoc, es]
      rfl
    have done : stepL s p = none → loopL (some ([], [])) ps = none := fun e => by
      rw [e] at tk
      have : ps = ps.take (k + 1) ++ ps.drop (k + 1) := (List.take_append_drop _ _).symm
      rw [this]
      clear this
      generalize ps.take (k + 1) = u at tk
      generalize ps.drop (k + 1) = v
      clear es
      generalize (some ([], []) : Option (List (List Nt) × List Str)) = s0 at tk ⊢
      induction u generalizing s0 with
      | nil => cases s0 <;> simp_all [loopL]
      | cons a u ih => cases s0 with
        | none => rfl
        | some s0 => exact ih _ tk
    rw [ei, tk]
    generalize hZ : turnF _ _ _ _ = Z
    simp -implicitDefEqProofs [turnF_is] at hZ
    generalize hX2 : forF _ _ _ _ = X2 at hZ
    obtain ⟨ρ2, e2, s5', s6', e3⟩ := forF_at hX2 (fun j ρ => ∃ s5 s6, ρ = [.pu (.lst (ps.map eP)), .lk (.lst (s.1.map eQ)), .ow (.lst (s.2.map D.str)), .pu (.lst (p.map eN)), .pu (eS (letS s.1 p j)), o2 s5, o2 s6]) ⟨s5, s6, rfl⟩ (fun j hj ρ => by
      rintro ⟨s5, s6, rfl⟩
      have hj' : j < s.1.length := by simpa using hj
      rw [letS_s _ _ _ hj']
      have qm := hm _ (List.getElem_mem hj')
      generalize hq : s.1[j] = q at *
      obtain ⟨ql, qg⟩ := hg q qm
      have j26 : j < 26 := by omega
      have ixz := az_ix j26
      have m1 := (f_mshape (n := n + 2) (by omega) pg pl).1
      have m2 := (f_mshape (n := n + 2) (by omega) qg ql).2
      have eq1 : (fun p => eQ p) = eQ := rfl
      have el : ((List.map (fun (p : Nat × D) => D.tup [D.int p.1, p.2]) ((List.range s.1.length).zip (s.1.map eQ)))[j]'(by simpa using hj')) = .tup [.int j, .tup (q.map eN)] := by
        simp [hq, eQ]
      generalize hZ2 : turnF _ _ _ _ = Z2
      have o1 := ok_eNs 57 p
      have o2 := ok_eNs 57 q
      have o3 := ok_eMs 57 (mshT p)
      have o4 := ok_eMs 57 (mshT q)
      have cl : (chr j).length + Str.length "'" ≤ line := by rw [(chr_ok j26).2.2, q_len]; simp
      cases hls : letS s.1 p j with
      | some z =>
        rw [hls] at hZ2
        simp -implicitDefEqProofs [turnF_is, hq, eQ, eS] at hZ2
        exact ⟨_, hZ2.symm, some (.int j), some (eQ q), rfl⟩
      | none =>
        rw [hls] at hZ2
        unfold az at ixz
        by_cases c1 : p = q
        · subst c1
          simp -implicitDefEqProofs [turnF_is, hq, eQ, eS, o1, eNs_inj, -ixR_s, ixz] at hZ2
          refine ⟨_, hZ2.symm, some (.int j), some (eQ p), ?_⟩
          simp [same, letr, eS, eQ]
        · have c2 : ¬ q = p := fun z => c1 z.symm
          have e0 : eqL (p.map eN) (q.map eN) = false := by rw [eNs_inj]; exact decide_eq_false c1
          by_cases c3 : p = []
          · have p0 : ¬ 0 < p.length := by rw [c3]; simp
            simp -implicitDefEqProofs [turnF_is, hq, eQ, eS, o1, o2, e0, -ixR_s, ixz, p0] at hZ2
            refine ⟨_, hZ2.symm, some (.int j), some (eQ q), ?_⟩
            subst c3
            simp [same, eS, eQ, c2]
          · have p0 : 0 < p.length := by cases p with | nil => exact absurd rfl c3 | cons _ _ => simp
            by_cases c4 : mshT p = mshT q
            · simp -implicitDefEqProofs [turnF_is, hq, eQ, eS, o1, o2, e0, -ixR_s, ixz, p0, m1, m2, mshape_is, o3, o4, eMs_inj, c4, cl] at hZ2
              refine ⟨_, hZ2.symm, some (.int j), some (eQ q), ?_⟩
              simp [same, eS, eQ, c2, c3, c4, letr]
            · simp -implicitDefEqProofs [turnF_is, hq, eQ, eS, o1, o2, e0, -ixR_s, ixz, p0, m1, m2, mshape_is, o3, o4, eMs_inj, c4, cl] at hZ2
              refine ⟨_, hZ2.symm, some (.int j), some (eQ q), ?_⟩
              simp [same, eS, eQ, c2, c3, c4, letr])
    have lz : (List.map (fun (p : Nat × D) => D.tup [D.int p.1, p.2]) ((List.range s.1.length).zip (s.1.map eQ))).length = s.1.length := by simp
    rw [lz] at e3
    rw [e2, e3] at hZ
    clear e2 e3 hX2
    have k2 : s.2.length < line := lt_line (by omega)
    have k1 : s.1.length < line := lt_line (by omega)
    have stp : stepL s p = match letS s.1 p s.1.length with
      | some z => some (s.1, s.2 ++ [z])
      | none => if s.1.length = 26 then none else some (s.1 ++ [p], s.2 ++ [chr s.1.length]) := rfl
    cases hls : letS s.1 p s.1.length with
    | some z =>
      rw [hls] at hZ stp
      simp -implicitDefEqProofs [eS, k2] at hZ
      rw [← hZ]
      exact ⟨_, some (.str z), s5', s6', some (.lst (p.map eN)), stp, hm, h26, by simp [h2], by simp [eS]⟩
    | none =>
      rw [hls] at hZ stp
      by_cases h6 : s.1.length = 26
      · have h6' : (s.1.length : Int) = 26 := by omega
        simp only [h6, if_true] at stp
        simp -implicitDefEqProofs [eS, k2, h6'] at hZ
        rw [← hZ]
        exact ⟨rfl, done stp⟩
      · have h6' : ¬ (s.1.length : Int) = 26 := by omega
        have ixz := az_ix (k := s.1.length) (by omega)
        unfold az at ixz
        simp only [h6, if_false] at stp
        simp -implicitDefEqProofs [eS, k1, k2, h6', -ixR_s, ixz] at hZ
        rw [← hZ]
        refine ⟨_, some (.str (chr s.1.length)), s5', s6', some (.lst (p.map eN)), stp, ?_, by simp; omega, by simp [h2], by simp [eQ]⟩
        intro q m
        rcases List.mem_append.mp m with m | m
        · exact hm q m
        · cases List.mem_singleton.mp m; exact pm)
  cases X with
  | next ρ' =>
    obtain ⟨s, s4, s5, s6, s3, es, hm, h26, h2, rfl⟩ := hE
    rw [List.length_map, List.take_length] at es
    simp -implicitDefEqProofs at hY
    rw [es, ← hY]
  | exc k =>
    obtain ⟨rfl, hc⟩ := hE
    simp -implicitDefEqProofs at hY
    rw [hc, ← hY]
  | ret v ρ' => exact hE.elim
  | brk _ => exact hE.elim
  | cont _ => exact hE.elim
  | bad => exact hE.elim
end
end K11
end
section
set_option maxRecDepth 100000
set_option maxHeartbeats 4000000
open PySem
namespace K11
open MZ MZ.V
theorem list_enc {ys : List D} (h : ∀ y ∈ ys, ∃ n, y = eN n ∧ GN n) : ∃ ms : List Nt, ys = ms.map eN ∧ ∀ x ∈ ms, GN x := by
  induction ys with
  | nil => exact ⟨[], rfl, by simp⟩
  | cons y r ih =>
    obtain ⟨n, rfl, g⟩ := h y List.mem_cons_self
    obtain ⟨ms, rfl, gs⟩ := ih fun z m => h z (List.mem_cons_of_mem _ m)
    exact ⟨n :: ms, rfl, fun x m => by
      rcases List.mem_cons.mp m with rfl | m
      · exact g
      · exact gs x m⟩
def GP (p : List Nt) : Prop := p.length ≤ 4 ∧ ∀ x ∈ p, GN x
theorem ok_eP (n) (p : List Nt) : okD (n + 3) (eP p) = true := by unfold eP; rw [okD_lst]; exact ok_eNs n p
theorem ok_ePs (n) (ps : List (List Nt)) : okL (n + 3) (ps.map eP) = true := okL_map (ok_eP n) ps
/-- the lambda that moves a part -/
theorem lam0 {cf : FnI} {n : Nat} (hcf : cf = callF fds n) (hn : 2 ≤ n) {lf : Nat → MZ.Env → Out D} {ρ : MZ.Env} {p : List Nt} {x y : Int} (hx : 0 ≤ x ∧ x ≤ 4) (hy : 0 ≤ y ∧ y ≤ 7) (hp : GP p) {v0 v1 v2 v3 v4 v5 v6 v7 v8 v10 v11 v12 v13 v14 v15 v16 v18 v19 v20 v21 v22 v23 v24 v25 v28 v29 v30 : SV}
    (hρ : ρ = [v0, v1, v2, v3, v4, v5, v6, v7, v8, .no, v10, v11, v12, v13, v14, v15, v16, .no, v18, v19, v20, v21, v22, v23, v24, v25, .pu (eP p), .pu (.tup [.int x, .int y]), v28, v29, v30]) :
    (∃ q, GP q ∧ evalE cf lf l_law_0 ρ = .ok (eP q) ρ) ∨ evalE cf lf l_law_0 ρ = .exc 1 := by
  subst hcf
  unfold l_law_0
  rcases comp_exc (cf := callF fds n) (lf := lf) (ρ := ρ) (p := .tp (.cons (.nm 17) (.cons (.nm 9) .nil))) (k := .seq) (as := .ex (.var 26) .nil) (own := [17, 9]) (items := p.map eN) (c := .cst (.bl true)) (e := .tup (.ex (.ite (.prim .isN (.ex (.var 17) .nil)) (.cst .non) (.call 3 (.ex (.var 17) (.ex (.var 27) .nil)))) (.ex (.var 9) .nil))) ρ (fun d => ∃ n, d = eN n ∧ GN n) (fun k => k = 1) (by subst hρ; simp [eP]) (by rw [List.length_map]; exact le_line (by have := hp.1; omega)) (by subst hρ; simp) (fun d m => by
    obtain ⟨a, ma, rfl⟩ := List.mem_map.mp m
    subst hρ
    have ga := hp.2 a ma
    obtain ⟨a1, a2, a3⟩ := a
    refine ⟨_, by simp [eN]; rfl, by simp, ?_, by simp⟩
    cases a1 with
    | none => exact .inl ⟨eN (none, a2, a3), ⟨_, rfl, by intro t e; cases e⟩, by simp [eN, eT_none]⟩
    | some t =>
      rcases f_moved (n := n) hn (ga t rfl) hx hy with ⟨u, gu, e⟩ | e
      · exact .inl ⟨eN (some u, a2, a3), ⟨_, rfl, by intro t e; cases e; exact gu⟩, by simp [eN, e]⟩
      · exact .inr ⟨1, rfl, by simp [eN, e]⟩) with ⟨ys, e, hl, hy⟩ | ⟨j, rfl, e⟩
  · obtain ⟨ms, rfl, gs⟩ := list_enc hy
    exact .inl ⟨ms, ⟨by have := hp.1; simp at hl; omega, gs⟩, e⟩
  · exact .inr e


theorem part_step {d : D} {B : Nat} {ps : List (List Nt)} {lf : Nat → MZ.Env → Out D} (hlf : ∀ ρ, lf 0 ρ = evalE (callF fds 12) (fun _ _ => .bad) l_law_0 ρ) (hd : Dice (B + 40) d) (hp : ∀ p ∈ ps, GP p) (hl : ps.length ≤ 5) {s4 s5 s26 s27 : Option D} {k : Nat} {body : SL} (hb : body = (.cons (.asg (.nm 26) (.call 16 (.mu 1 (.ex (.cst (.int 5)) .nil))))
  (.cons (.ife (.and (.prim .ne (.bo 2 (.ex (.lst .nil) .nil))) (.prim .eq (.ex (.call 11 (.mu 1 (.ex (.cst (.int 2)) .nil))) (.ex (.cst (.int 0)) .nil)))) (.cons (.asg (.nm 26) (.prim .ix (.bo 2 (.ex (.call 11 (.mu 1 (.ex (.prim .len (.bo 2 .nil)) .nil))) .nil))))
  (.cons (.asg (.nm 27) (.prim .ix (.ex (.lst (.ex (.tup (.ex (.cst (.int 0)) (.ex (.cst (.int 0)) .nil))) (.ex (.tup (.ex (.cst (.int 1)) (.ex (.cst (.int 2)) .nil))) (.ex (.tup (.ex (.cst (.int 4)) (.ex (.cst (.int 7)) .nil))) .nil)))) (.ex (.call 11 (.mu 1 (.ex (.cst (.int 3)) .nil))) .nil))))
  (.cons (.asg (.nm 5) (.told (.lam 0) told_ks told_ret))
  (.cons (.asg (.nm 26) (.ite (.prim .ne (.ex (.var 5) (.ex (.cst (.str "MusicError")) .nil))) (.var 5) (.var 26)))
  .nil)))) .nil)
  (.cons (.app 2 (.var 26))
  .nil)))) :
    ∃ p d' s5' s27', GP p ∧ Dice B d' ∧ turnF (.nm 4) (evalSL (callF fds 12) lf body) (.int k) [.no, .ow d, .ow (.lst (ps.map eP)), .ow (.lst []), o2 s4, o2 s5, .no, .no, .no, .no, .no, .no, .no, .no, .no, .no, .no, .no, .no, .no, .no, .no, .no, .no, .no, .no, o2 s26, o2 s27, .no, .no, .no] = .next [.no, (.ow d'), .ow (.lst ((ps ++ [p]).map eP)), .ow (.lst []), .pu (.int k), o2 s5', .no, .no, .no, .no, .no, .no, .no, .no, .no, .no, .no, .no, .no, .no, .no, .no, .no, .no, .no, .no, .pu (eP p), o2 s27', .no, .no, .no] := by
  subst hb
  obtain ⟨ns, d1, ln, gn, e1, h1⟩ := f_notes (n := 12) (by decide) (B := B + 10) hd
  have hk : ps.length < line := lt_line (by omega)
  have oks := ok_ePs 56 ps
  generalize hY : turnF _ _ _ _ = Y
  by_cases c1 : ps = []
  · subst c1
    simp -implicitDefEqProofs [turnF_is, e1] at hY
    exact ⟨ns, d1, s5, s27, ⟨ln, gn⟩, h1.mono (by omega), hY.symm⟩
  · have c2 : eqL (ps.map eP) [] = false := by cases ps with | nil => exact absurd rfl c1 | cons a b => simp
    have c3 : 0 < ps.length := by cases ps with | nil => exact absurd rfl c1 | cons a b => simp
    obtain ⟨r2, d2, e2, l2, h2⟩ := f_roll (n := 12) (by decide) (B := B + 9) h1 (m := 2) (by decide) (by decide)
    by_cases c4 : r2 = 0
    · subst c4
      obtain ⟨r3, d3, e3, l3, h3⟩ := f_roll (n := 12) (by decide) (B := B + 8) h2 (m := ps.length) (by omega) (by omega)
      obtain ⟨r4, d4, e4, l4, h4⟩ := f_roll (n := 12) (by decide) (B := B + 7) h3 (m := 3) (by decide) (by decide)
      have l3' : r3 < ps.length := by omega
      have gp := hp _ (List.getElem_mem l3')
      generalize hq : ps[r3] = q at gp
      have ix : (ps.map eP)[r3]? = some (eP q) := by rw [List.getElem?_map, List.getElem?_eq_getElem l3', hq]; rfl
      obtain ⟨x, y, exy, hx, hy⟩ : ∃ x y : Int, [D.tup [.int 0, .int 0], .tup [.int 1, .int 2], .tup [.int 4, .int 7]][r4]? = some (.tup [.int x, .int y]) ∧ (0 ≤ x ∧ x ≤ 4) ∧ (0 ≤ y ∧ y ≤ 7) := by
        have : r4 = 0 ∨ r4 = 1 ∨ r4 = 2 := by omega
        rcases this with rfl | rfl | rfl <;> exact ⟨_, _, rfl, by decide, by decide⟩
      simp -implicitDefEqProofs [turnF_is, e1, oks, c2, e2, e3, -List.getElem?_map, ix, e4, exy, hlf] at hY
      rcases lam0 (cf := callF fds 12) (n := 12) rfl (by decide) (lf := fun _ _ => .bad) hx hy gp rfl with ⟨m, gm, el⟩ | el
      · rw [el] at hY
        have om := ok_eP 57 m
        have nm : eqD (eP m) (.str "MusicError") = false := by unfold eP; simp
        simp -implicitDefEqProofs [om, nm, hk, (by decide +kernel : PySem.PyData.strOk ("MusicError" : Str) = true)] at hY
        exact ⟨m, d4, some (eP m), some (.tup [.int x, .int y]), gm, h4.mono (by omega), hY.symm.trans (by simp)⟩
      · rw [el] at hY
        simp -implicitDefEqProofs [hk, told_ks, told_ret, (by decide +kernel : PySem.PyData.strOk ("MusicError" : Str) = true)] at hY
        exact ⟨q, d4, some (.str "MusicError"), some (.tup [.int x, .int y]), gp, h4.mono (by omega), hY.symm.trans (by simp)⟩
    · have c5 : ¬ (r2 : Int) = 0 := by omega
      simp -implicitDefEqProofs [turnF_is, e1, oks, c2, e2, c4, c5, hk] at hY
      exact ⟨ns, d2, s5, s27, ⟨ln, gn⟩, h2.mono (by omega), hY.symm.trans (by simp [eP])⟩
end K11
end
section
set_option maxRecDepth 100000
set_option maxHeartbeats 8000000
open PySem
namespace K11
open MZ MZ.V
def tune (ps : List (List Nt)) : List Nt := ps.flatten
theorem tune_take (ps : List (List Nt)) (k : Nat) (h : k < ps.length) : tune (ps.take (k + 1)) = tune (ps.take k) ++ ps[k] := by
  unfold tune
  rw [List.take_add_one, List.getElem?_eq_getElem h, List.flatten_append]
  simp
theorem tune_len {ps : List (List Nt)} (h : ∀ p ∈ ps, GP p) : (tune ps).length ≤ 4 * ps.length := by
  unfold tune
  induction ps with
  | nil => simp
  | cons p r ih =>
    have := ih fun q m => h q (List.mem_cons_of_mem _ m)
    have := (h p List.mem_cons_self).1
    simp only [List.flatten_cons, List.length_append, List.length_cons]
    omega
theorem tune_good {ps : List (List Nt)} (h : ∀ p ∈ ps, GP p) : ∀ x ∈ tune ps, GN x := fun x m => by
  obtain ⟨p, mp, mx⟩ := List.mem_flatten.mp m
  exact (h p mp).2 x mx
theorem shp_ok (n : Nat) (ns : List Nt) (k : Nat) : okD (n + 2) (shp ns k) = true := by
  unfold shp
  cases ns[k]? with
  | none => simp
  | some a =>
    have : okD (n + 1) (difD a.1 (ns[k + 1]?.bind (·.1))) = true := by
      unfold difD
      split <;> simp
    simp [this]
theorem shape_ok (n : Nat) (ns : List Nt) : okL (n + 2) (shape ns) = true := okL_map (shp_ok n ns) _

def q0 : S := (.par true true 2 3 (.lst .nil) (.lst .nil))
def q1 : S := (.fors (.nm 4) .range1 (.ex (.prim .add (.ex (.cst (.int 1)) (.ex (.call 11 (.mu 1 (.ex (.cst (.int 5)) .nil))) .nil))) .nil) (.cons (.asg (.nm 26) (.call 16 (.mu 1 (.ex (.cst (.int 5)) .nil))))
  (.cons (.ife (.and (.prim .ne (.bo 2 (.ex (.lst .nil) .nil))) (.prim .eq (.ex (.call 11 (.mu 1 (.ex (.cst (.int 2)) .nil))) (.ex (.cst (.int 0)) .nil)))) (.cons (.asg (.nm 26) (.prim .ix (.bo 2 (.ex (.call 11 (.mu 1 (.ex (.prim .len (.bo 2 .nil)) .nil))) .nil))))
  (.cons (.asg (.nm 27) (.prim .ix (.ex (.lst (.ex (.tup (.ex (.cst (.int 0)) (.ex (.cst (.int 0)) .nil))) (.ex (.tup (.ex (.cst (.int 1)) (.ex (.cst (.int 2)) .nil))) (.ex (.tup (.ex (.cst (.int 4)) (.ex (.cst (.int 7)) .nil))) .nil)))) (.ex (.call 11 (.mu 1 (.ex (.cst (.int 3)) .nil))) .nil))))
  (.cons (.asg (.nm 5) (.told (.lam 0) told_ks told_ret))
  (.cons (.asg (.nm 26) (.ite (.prim .ne (.ex (.var 5) (.ex (.cst (.str "MusicError")) .nil))) (.var 5) (.var 26)))
  .nil)))) .nil)
  (.cons (.app 2 (.var 26))
  .nil))))
def q2 : S := (.asg (.nm 6) (.lst .nil))
def q3 : S := (.fors (.nm 7) .seq (.bo 2 .nil) (.cons (.asg (.nm 6) (.prim .add (.ex (.var 6) (.ex (.var 7) .nil))))
  .nil))
def q4 : S := (.own 8 (.lst .nil))
def q5 : S := (.fors (.tp (.cons (.nm 4) (.cons (.tp (.cons (.nm 17) (.cons (.nm 9) .nil))) .nil))) .enum (.ex (.var 6) .nil) (.cons (.asg (.nm 10) (.ite (.prim .lt (.ex (.prim .add (.ex (.var 4) (.ex (.cst (.int 1)) .nil))) (.ex (.prim .len (.ex (.var 6) .nil)) .nil))) (.prim .ix (.ex (.prim .ix (.ex (.var 6) (.ex (.prim .add (.ex (.var 4) (.ex (.cst (.int 1)) .nil))) .nil))) (.ex (.cst (.int 0)) .nil))) (.cst .non)))
  (.cons (.app 8 (.tup (.ex (.ite (.or (.prim .isN (.ex (.var 17) .nil)) (.prim .isN (.ex (.var 10) .nil))) (.cst .non) (.prim .sub (.ex (.call 15 (.ex (.var 10) .nil)) (.ex (.call 15 (.ex (.var 17) .nil)) .nil)))) (.ex (.var 9) .nil))))
  .nil)))
def q6 : S := (.ife (.prim .ne (.ex (.prim .lstOf (.ex (.call 4 (.ex (.var 6) .nil)) .nil)) (.bo 8 .nil))) (.cons (.ret (.cst (.bl false)))
  .nil) .nil)
def q7 : S := (.asg (.nm 11) (.cst .non))
def q8 : S := (.fors (.nm 12) .range1 (.ex (.prim .len (.ex (.var 6) .nil)) .nil) (.cons (.fors (.nm 13) .range2 (.ex (.prim .add (.ex (.var 12) (.ex (.cst (.int 1)) .nil))) (.ex (.prim .len (.ex (.var 6) .nil)) .nil)) (.cons (.asg (.nm 14) (.comp true (.nm 28) .range2 (.ex (.cst (.int 1)) (.ex (.prim .add (.ex (.prim .min2 (.ex (.prim .sub (.ex (.var 13) (.ex (.var 12) .nil))) (.ex (.prim .sub (.ex (.prim .len (.ex (.var 6) .nil)) (.ex (.var 13) .nil))) .nil))) (.ex (.cst (.int 1)) .nil))) .nil)) (.prim .eq (.ex (.prim .cut2 (.ex (.var 6) (.ex (.ck (.var 12)) (.ex (.ck (.prim .add (.ex (.var 12) (.ex (.var 28) .nil)))) .nil)))) (.ex (.prim .cut2 (.ex (.var 6) (.ex (.ck (.var 13)) (.ex (.ck (.prim .add (.ex (.var 13) (.ex (.var 28) .nil)))) .nil)))) .nil))) (.var 28) [28]))
  (.cons (.ife (.and (.prim .ne (.ex (.var 14) (.ex (.lst .nil) .nil))) (.or (.prim .isN (.ex (.var 11) .nil)) (.prim .gt (.ex (.prim .maxL (.ex (.var 14) .nil)) (.ex (.prim .ix (.ex (.var 11) (.ex (.cst (.int 0)) .nil))) .nil))))) (.cons (.asg (.nm 11) (.tup (.ex (.prim .maxL (.ex (.var 14) .nil)) (.ex (.var 12) (.ex (.var 13) .nil)))))
  .nil) .nil)
  .nil)))
  .nil))
def q9 : S := (.ife (.or (.prim .ne (.ex (.call 5 (.ex (.var 6) .nil)) (.ex (.var 11) .nil))) (.and (.prim .notN (.ex (.var 11) .nil)) (.prim .ne (.ex (.comp true (.nm 29) .seq (.ex (.lst (.ex (.prim .ix (.ex (.var 11) (.ex (.cst (.int 1)) .nil))) (.ex (.prim .ix (.ex (.var 11) (.ex (.cst (.int 2)) .nil))) .nil))) .nil) (.prim .notIn (.ex (.var 29) (.ex (.call 6 (.ex (.var 6) (.ex (.prim .cut2 (.ex (.var 6) (.ex (.ck (.prim .ix (.ex (.var 11) (.ex (.cst (.int 1)) .nil)))) (.ex (.ck (.prim .add (.ex (.prim .ix (.ex (.var 11) (.ex (.cst (.int 1)) .nil))) (.ex (.prim .ix (.ex (.var 11) (.ex (.cst (.int 0)) .nil))) .nil)))) .nil)))) .nil))) .nil))) (.var 29) [29]) (.ex (.lst .nil) .nil))))) (.cons (.ret (.cst (.bl false)))
  .nil) .nil)
def q10 : S := (.ife (.prim .ne (.ex (.prim .lstOf (.ex (.call 6 (.ex (.var 6) (.ex (.prim .cutHi (.ex (.var 6) (.ex (.ck (.cst (.int 2))) .nil))) .nil))) .nil)) (.ex (.comp true (.nm 4) .range1 (.ex (.prim .add (.ex (.prim .sub (.ex (.prim .len (.ex (.var 6) .nil)) (.ex (.prim .len (.ex (.prim .cutHi (.ex (.var 6) (.ex (.ck (.cst (.int 2))) .nil))) .nil)) .nil))) (.ex (.cst (.int 1)) .nil))) .nil) (.prim .eq (.ex (.prim .cut2 (.ex (.var 6) (.ex (.ck (.var 4)) (.ex (.ck (.prim .add (.ex (.var 4) (.ex (.prim .len (.ex (.prim .cutHi (.ex (.var 6) (.ex (.ck (.cst (.int 2))) .nil))) .nil)) .nil)))) .nil)))) (.ex (.prim .cutHi (.ex (.var 6) (.ex (.ck (.cst (.int 2))) .nil))) .nil))) (.var 4) [4]) .nil))) (.cons (.ret (.cst (.bl false)))
  .nil) .nil)
def q11 : S := (.par false true 15 16 (.lst .nil) (.lst .nil))
def q12 : S := (.fors (.nm 7) .seq (.bo 2 .nil) (.cons (.asg (.nm 18) (.comp true (.tp (.cons (.nm 17) (.cons (.nm 9) .nil))) .seq (.ex (.var 7) .nil) (.prim .notN (.ex (.var 17) .nil)) (.var 17) [17, 9]))
  (.cons (.asg (.nm 19) (.comp true (.tp (.cons (.nm 17) (.cons (.nm 9) .nil))) .seq (.ex (.var 7) .nil) (.cst (.bl true)) (.tup (.ex (.ite (.prim .isN (.ex (.var 17) .nil)) (.cst .non) (.prim .sub (.ex (.call 15 (.ex (.var 17) .nil)) (.ex (.call 15 (.ex (.prim .ix (.ex (.var 18) (.ex (.cst (.int 0)) .nil))) .nil)) .nil)))) (.ex (.var 9) .nil))) [17, 9]))
  (.cons (.ife (.prim .ne (.ex (.prim .lstOf (.ex (.call 8 (.ex (.var 7) .nil)) .nil)) (.ex (.var 19) .nil))) (.cons (.ret (.cst (.bl false)))
  .nil) .nil)
  (.cons (.asg (.nm 20) (.comp true (.nm 4) .range1 (.ex (.prim .len (.ex (.var 15) .nil)) .nil) (.or (.prim .eq (.ex (.prim .ix (.ex (.prim .ix (.ex (.var 15) (.ex (.var 4) .nil))) (.ex (.cst (.int 0)) .nil))) (.ex (.var 7) .nil))) (.and (.prim .ne (.ex (.var 7) (.ex (.lst .nil) .nil))) (.prim .eq (.ex (.prim .ix (.ex (.prim .ix (.ex (.var 15) (.ex (.var 4) .nil))) (.ex (.cst (.int 1)) .nil))) (.ex (.var 19) .nil))))) (.var 4) [4]))
  (.cons (.app 16 (.ite (.prim .ne (.ex (.var 20) (.ex (.lst .nil) .nil))) (.prim .add (.ex (.prim .ix (.ex (.cst (.str "ABCDE")) (.ex (.prim .ix (.ex (.var 20) (.ex (.cst (.int 0)) .nil))) .nil))) (.ex (.ite (.prim .eq (.ex (.prim .ix (.ex (.prim .ix (.ex (.var 15) (.ex (.prim .ix (.ex (.var 20) (.ex (.cst (.int 0)) .nil))) .nil))) (.ex (.cst (.int 0)) .nil))) (.ex (.var 7) .nil))) (.cst (.str "")) (.cst (.str "'"))) .nil))) (.prim .ix (.ex (.cst (.str "ABCDE")) (.ex (.prim .len (.ex (.var 15) .nil)) .nil)))))
  (.cons (.asg (.nm 15) (.prim .add (.ex (.var 15) (.ex (.prim .mul (.ex (.lst (.ex (.tup (.ex (.var 7) (.ex (.var 19) .nil))) .nil)) (.ex (.prim .toInt (.ex (.prim .eq (.ex (.var 20) (.ex (.lst .nil) .nil))) .nil)) .nil))) .nil))))
  .nil)))))))
def q13 : S := (.ife (.prim .ne (.ex (.prim .lstOf (.ex (.call 7 (.ex (.var 2) .nil)) .nil)) (.bo 16 .nil))) (.cons (.ret (.cst (.bl false)))
  .nil) .nil)
def q14 : S := (.asg (.tp (.cons (.nm 21) (.cons (.nm 22) .nil))) (.tup (.ex (.prim .add (.ex (.cst (.int 1)) (.ex (.call 11 (.mu 1 (.ex (.cst (.int 4)) .nil))) .nil))) (.ex (.prim .ix (.ex (.lst (.ex (.cst (.int 0)) (.ex (.cst (.int 2)) (.ex (.cst (.int 7)) .nil)))) (.ex (.call 11 (.mu 1 (.ex (.cst (.int 3)) .nil))) .nil))) .nil))))
def q15 : S := (.asg (.nm 23) (.comp true (.tp (.cons (.nm 12) (.cons (.nm 13) .nil))) .zip (.ex (.var 6) (.ex (.prim .cutLo (.ex (.var 6) (.ex (.ck (.var 21)) .nil))) .nil)) (.cst (.bl true)) (.tup (.ex (.var 12) (.ex (.var 13) .nil))) [12, 13]))
def q16 : S := (.asg (.nm 24) (.prim .eq (.ex (.comp true (.tp (.cons (.nm 12) (.cons (.nm 13) .nil))) .seq (.ex (.var 23) .nil) (.or (.prim .ne (.ex (.prim .ix (.ex (.var 12) (.ex (.cst (.int 1)) .nil))) (.ex (.prim .ix (.ex (.var 13) (.ex (.cst (.int 1)) .nil))) .nil))) (.or (.prim .ne (.ex (.prim .isN (.ex (.prim .ix (.ex (.var 12) (.ex (.cst (.int 0)) .nil))) .nil)) (.ex (.prim .isN (.ex (.prim .ix (.ex (.var 13) (.ex (.cst (.int 0)) .nil))) .nil)) .nil))) (.and (.prim .notN (.ex (.prim .ix (.ex (.var 12) (.ex (.cst (.int 0)) .nil))) .nil)) (.prim .ne (.ex (.prim .sub (.ex (.call 15 (.ex (.prim .ix (.ex (.var 13) (.ex (.cst (.int 0)) .nil))) .nil)) (.ex (.call 15 (.ex (.prim .ix (.ex (.var 12) (.ex (.cst (.int 0)) .nil))) .nil)) .nil))) (.ex (.var 22) .nil)))))) (.cst (.int 1)) [12, 13]) (.ex (.lst .nil) .nil))))
def q17 : S := (.ife (.or (.prim .ne (.ex (.call 9 (.ex (.var 6) (.ex (.var 21) (.ex (.var 22) .nil)))) (.ex (.var 24) .nil))) (.prim .nt (.ex (.call 9 (.ex (.prim .add (.ex (.var 6) (.ex (.var 6) .nil))) (.ex (.prim .max2 (.ex (.cst (.int 1)) (.ex (.prim .len (.ex (.var 6) .nil)) .nil))) (.ex (.cst (.int 0)) .nil)))) .nil))) (.cons (.ret (.cst (.bl false)))
  .nil) .nil)
theorem b_law_in_is : b_law_in = .cons q0 (.cons q1 (.cons q2 (.cons q3 (.cons q4 (.cons q5 (.cons q6 (.cons q7 (.cons q8 (.cons q9 (.cons q10 (.cons q11 (.cons q12 (.cons q13 (.cons q14 (.cons q15 (.cons q16 (.cons q17 (.nil)))))))))))))))))) := rfl
section
variable {lf : Nat → MZ.Env → Out D} (hlf : ∀ ρ, lf 0 ρ = evalE (callF fds 12) (fun _ _ => .bad) l_law_0 ρ)
include hlf
theorem stage1 (K : MZ.Env → Rs) {d : D} (hd : Dice 1000 d) : ∃ (ps : List (List Nt)) (d' : D) (s4 s5 s26 s27 : Option D), (∀ p ∈ ps, GP p) ∧ ps.length ≤ 5 ∧ Dice 700 d' ∧
    ((evalS (callF fds 12) lf q0 ((List.replicate 31 SV.no).set 1 (.ow d))).seq fun ρ => (evalS (callF fds 12) lf q1 ρ).seq K) = K [.no, (.ow d'), .ow (.lst (ps.map eP)), .ow (.lst []), o2 s4, o2 s5, .no, .no, .no, .no, .no, .no, .no, .no, .no, .no, .no, .no, .no, .no, .no, .no, .no, .no, .no, .no, o2 s26, o2 s27, .no, .no, .no] := by
  obtain ⟨r, d1, e1, l1, h1⟩ := f_roll (n := 12) (by decide) (B := 999) hd (m := 5) (by decide) (by decide)
  generalize hY : Rs.seq _ _ = Y
  have hr : (1 : Int) + r = ((1 + r : Nat) : Int) := by omega
  have hr2 : 1 + r ≤ line := le_line (by omega)
  simp -implicitDefEqProofs [q0, q1, List.replicate, e1, rng1_ok (a := 1 + (r : Int)) (by omega) (by omega)] at hY
  generalize hX : forF _ _ _ _ = X at hY
  obtain ⟨ρ', e2, ps, d', s4, s5, s26, s27, hp, hl, hd', e3⟩ := forF_at hX (fun k ρ => ∃ (ps : List (List Nt)) (d' : D) (s4 s5 s26 s27 : Option D), (∀ p ∈ ps, GP p) ∧ ps.length = k ∧ Dice (750 + 40 * (5 - k)) d' ∧ ρ = [.no, (.ow d'), .ow (.lst (ps.map eP)), .ow (.lst []), o2 s4, o2 s5, .no, .no, .no, .no, .no, .no, .no, .no, .no, .no, .no, .no, .no, .no, .no, .no, .no, .no, .no, .no, o2 s26, o2 s27, .no, .no, .no])
    ⟨[], d1, none, none, none, none, by simp, rfl, h1.mono (by omega), rfl⟩ (fun k hk ρ => by
    rintro ⟨ps, d', s4, s5, s26, s27, hp, hl, hd', rfl⟩
    rw [v_rng_len] at hk
    rw [v_rng_get, Int.zero_add]
    obtain ⟨p, d2, s5', s27', gp, h2, e⟩ := part_step (k := k) (s4 := s4) (s5 := s5) (s26 := s26) (s27 := s27) (B := 750 + 40 * (5 - (k + 1))) hlf (hd'.mono (by omega)) hp (by omega) rfl
    refine ⟨_, e, ps ++ [p], d2, some (.int k), s5', some (eP p), s27', ?_, by simp [hl], h2, rfl⟩
    intro q m
    rcases List.mem_append.mp m with m | m
    · exact hp q m
    · cases List.mem_singleton.mp m; exact gp)
  rw [e2, e3] at hY
  rw [v_rng_len] at hl
  simp -implicitDefEqProofs at hY
  exact ⟨ps, d', s4, s5, s26, s27, hp, by omega, hd'.mono (by omega), hY.symm⟩
omit hlf in
theorem stage2 (K : MZ.Env → Rs) {d : D} {ps : List (List Nt)} {s4 s5 s26 s27 : Option D} (hp : ∀ p ∈ ps, GP p) (hl : ps.length ≤ 5) : ∃ s7 : Option D,
    ((evalS (callF fds 12) lf q2 [.no, (.ow d), .ow (.lst (ps.map eP)), .ow (.lst []), o2 s4, o2 s5, .no, .no, .no, .no, .no, .no, .no, .no, .no, .no, .no, .no, .no, .no, .no, .no, .no, .no, .no, .no, o2 s26, o2 s27, .no, .no, .no]).seq fun ρ => (evalS (callF fds 12) lf q3 ρ).seq K) = K [.no, (.ow d), .ow (.lst (ps.map eP)), .ow (.lst []), o2 s4, o2 s5, .pu (.lst ((tune ps).map eN)), o2 s7, .no, .no, .no, .no, .no, .no, .no, .no, .no, .no, .no, .no, .no, .no, .no, .no, .no, .no, o2 s26, o2 s27, .no, .no, .no] := by
  generalize hY : Rs.seq _ _ = Y
  simp -implicitDefEqProofs [q2, q3] at hY
  generalize hX : forF _ _ _ _ = X at hY
  obtain ⟨ρ', e2, s7, e3⟩ := forF_at hX (fun k ρ => ∃ s7 : Option D, ρ = [.no, (.ow d), .lk (.lst (ps.map eP)), .ow (.lst []), o2 s4, o2 s5, .pu (.lst ((tune (ps.take k)).map eN)), o2 s7, .no, .no, .no, .no, .no, .no, .no, .no, .no, .no, .no, .no, .no, .no, .no, .no, .no, .no, o2 s26, o2 s27, .no, .no, .no]) ⟨none, rfl⟩ (fun k hk ρ => by
    rintro ⟨s7, rfl⟩
    have hk' : k < ps.length := by simpa using hk
    have e : (ps.map eP)[k] = .lst (ps[k].map eN) := by rw [List.getElem_map]; rfl
    have l1 := tune_len (ps := ps.take k) fun p m => hp p (List.mem_of_mem_take m)
    have l2 := (hp _ (List.getElem_mem hk')).1
    have l3 : (ps.take k).length ≤ 5 := by simp; omega
    have hl : (tune (ps.take k)).length + ps[k].length ≤ line := le_line (by omega)
    rw [e, tune_take ps k hk']
    generalize ps[k] = p at *
    generalize hZ : turnF _ _ _ _ = Z
    simp -implicitDefEqProofs [turnF_is, hl] at hZ
    exact ⟨_, hZ.symm, some (.lst (p.map eN)), by simp⟩)
  rw [List.length_map, List.take_length] at e3
  rw [e2, e3] at hY
  simp -implicitDefEqProofs at hY
  exact ⟨s7, hY.symm⟩
omit hlf in
theorem stage3 (K : MZ.Env → Rs) {d : D} {ps : List (List Nt)} {ns : List Nt} {t4 s5 s7 s26 s27 : Option D} (hg : ∀ x ∈ ns, GN x) (hl : ns.length ≤ 20) : ∃ s4 s9 s10 s17 : Option D,
    ((evalS (callF fds 12) lf q4 [.no, (.ow d), .ow (.lst (ps.map eP)), .ow (.lst []), o2 t4, o2 s5, .pu (.lst (ns.map eN)), o2 s7, .no, .no, .no, .no, .no, .no, .no, .no, .no, .no, .no, .no, .no, .no, .no, .no, .no, .no, o2 s26, o2 s27, .no, .no, .no]).seq fun ρ => (evalS (callF fds 12) lf q5 ρ).seq fun ρ => (evalS (callF fds 12) lf q6 ρ).seq K) = K [.no, (.ow d), .ow (.lst (ps.map eP)), .ow (.lst []), o2 s4, o2 s5, .pu (.lst (ns.map eN)), o2 s7, .ow (.lst (shape ns)), o2 s9, o2 s10, .no, .no, .no, .no, .no, .no, o2 s17, .no, .no, .no, .no, .no, .no, .no, .no, o2 s26, o2 s27, .no, .no, .no] := by
  generalize hY : Rs.seq _ _ = Y
  simp -implicitDefEqProofs [q4, q5] at hY
  generalize hX : forF _ _ _ _ = X at hY
  obtain ⟨ρ', e2, s4, s9, s10, s17, e3⟩ := forF_at hX (fun k ρ => ∃ s4 s9 s10 s17 : Option D, ρ = [.no, (.ow d), .ow (.lst (ps.map eP)), .ow (.lst []), o2 s4, o2 s5, .pu (.lst (ns.map eN)), o2 s7, .ow (.lst ((List.range k).map (shp ns))), o2 s9, o2 s10, .no, .no, .no, .no, .no, .no, o2 s17, .no, .no, .no, .no, .no, .no, .no, .no, o2 s26, o2 s27, .no, .no, .no]) ⟨t4, none, none, none, rfl⟩ (fun k hk ρ => by
    rintro ⟨s4, s9, s10, s17, rfl⟩
    have hk' : k < ns.length := by simpa using hk
    have g1 := hg _ (List.getElem_mem hk')
    have lk : k < line := lt_line (by omega)
    have es : shp ns k = .tup [difD ns[k].1 (ns[k + 1]?.bind (·.1)), .tup [.int ns[k].2.1, .int ns[k].2.2]] := by
      unfold shp
      rw [List.getElem?_eq_getElem hk']
    have ei : (List.map (fun (p : Nat × D) => D.tup [D.int p.1, p.2]) ((List.range ns.length).zip (ns.map eN)))[k]'(by simpa using hk') = .tup [.int k, .tup [eT ns[k].1, .tup [.int ns[k].2.1, .int ns[k].2.2]]] := by simp [eN]
    rw [ei, List.range_succ, List.map_append, List.map_cons, List.map_nil, es]
    generalize hZ : turnF _ _ _ _ = Z
    by_cases h1 : k + 1 < ns.length
    · have g2 := hg _ (List.getElem_mem h1)
      have c1 : (k : Int) + 1 < ns.length := by omega
      have e5 : (ns.map eN)[k + 1]? = some (.tup [eT ns[k + 1].1, .tup [.int ns[k + 1].2.1, .int ns[k + 1].2.2]]) := by rw [List.getElem?_map, List.getElem?_eq_getElem h1]; rfl
      rw [List.getElem?_eq_getElem h1]
      generalize ns[k + 1] = b at *
      generalize ns[k] = a at *
      obtain ⟨a1, a2, a3⟩ := a
      obtain ⟨b1, b2, b3⟩ := b
      cases a1 with
      | none =>
        simp -implicitDefEqProofs [turnF_is, lk, c1, eT_none, -List.getElem?_map, e5] at hZ
        exact ⟨_, hZ.symm, some (.int k), some (.tup [.int a2, .int a3]), some (eT b1), some .non, by simp [difD]⟩
      | some t => cases b1 with
        | none =>
          simp -implicitDefEqProofs [turnF_is, lk, c1, eT_none, -List.getElem?_map, e5] at hZ
          exact ⟨_, hZ.symm, some (.int k), some (.tup [.int a2, .int a3]), some .non, some (eT (some t)), by simp [difD]⟩
        | some u =>
          simp -implicitDefEqProofs [turnF_is, lk, c1, -List.getElem?_map, e5, f_halves (n := 12) (by decide) (g1 t rfl), f_halves (n := 12) (by decide) (g2 u rfl)] at hZ
          exact ⟨_, hZ.symm, some (.int k), some (.tup [.int a2, .int a3]), some (eT (some u)), some (eT (some t)), by simp [difD]⟩
    · have c1 : ¬ (k : Int) + 1 < ns.length := by omega
      rw [List.getElem?_eq_none (by omega)]
      generalize ns[k] = a at *
      obtain ⟨a1, a2, a3⟩ := a
      cases a1 with
      | none =>
        simp -implicitDefEqProofs [turnF_is, lk, c1, eT_none] at hZ
        exact ⟨_, hZ.symm, some (.int k), some (.tup [.int a2, .int a3]), some .non, some .non, by simp [difD]⟩
      | some t =>
        simp -implicitDefEqProofs [turnF_is, lk, c1] at hZ
        exact ⟨_, hZ.symm, some (.int k), some (.tup [.int a2, .int a3]), some .non, some (eT (some t)), by simp [difD]⟩)
  have lz : (List.map (fun (p : Nat × D) => D.tup [D.int p.1, p.2]) ((List.range ns.length).zip (ns.map eN))).length = ns.length := by simp
  rw [lz] at e3
  change ρ' = [.no, (.ow d), .ow (.lst (ps.map eP)), .ow (.lst []), o2 s4, o2 s5, .pu (.lst (ns.map eN)), o2 s7, .ow (.lst (shape ns)), o2 s9, o2 s10, .no, .no, .no, .no, .no, .no, o2 s17, .no, .no, .no, .no, .no, .no, .no, .no, o2 s26, o2 s27, .no, .no, .no] at e3
  rw [e2, e3] at hY
  have f := f_shape (n := 12) (by decide) hg (by omega)
  have o1 := shape_ok 57 ns
  have r1 := eqL_refl _ _ o1
  simp -implicitDefEqProofs [q6, f, o1, r1] at hY
  exact ⟨s4, s9, s10, s17, hY.symm⟩
end
end K11
end
section
set_option maxRecDepth 100000
set_option maxHeartbeats 8000000
open PySem
namespace K11
open MZ MZ.V
theorem filt_lt (r : Nat) : ∀ M, r ≤ M → (List.range M).filter (fun j => decide (1 + j ≤ r)) = List.range r
  | 0, h => by
    have : r = 0 := by omega
    subst this
    rfl
  | M + 1, h => by
    rw [List.range_succ, List.filter_append]
    by_cases z : r = M + 1
    · subst z
      rw [List.range_succ]
      congr 1
      · exact List.filter_eq_self.mpr fun j m => by
          have : j < M := by simpa using m
          exact decide_eq_true (by omega)
      · simp; omega
    · rw [filt_lt r M (by omega), List.filter_cons_of_neg (by simp; omega)]
      simp
theorem max_range (r : Nat) (h : 0 < r) : (((List.range r).map fun (j : Nat) => (1 + j : Int)).max?) = some (r : Int) := by
  rw [List.max?_eq_some_iff]
  constructor
  · exact List.mem_map.mpr ⟨r - 1, by simp; omega, by omega⟩
  · intro b m
    obtain ⟨j, mj, rfl⟩ := List.mem_map.mp m
    have : j < r := by simpa using mj
    omega
theorem take_eq {rs : List D} {f t k : Nat} (h : f < t) (ht : t < rs.length) (hk : k ≤ t - f) (hk2 : k ≤ rs.length - t) : eqL ((rs.drop f).take k) ((rs.drop t).take k) = decide (k ≤ rl rs f t) := by
  unfold rl
  rw [← cpl_take _ _ k (by simp; omega) (by simp; omega), List.take_take, Nat.min_eq_left hk]
/-- what the best tells -/
def BOk (rs : List D) (m : Nat) : Bst → Prop
  | none => True
  | some b => 0 < b.1 ∧ b.2.1 < b.2.2 ∧ b.2.2 < rs.length ∧ b.1 = rl rs b.2.1 b.2.2
theorem upd_ok {rs : List D} {b : Bst} {f t : Nat} (h : BOk rs 0 b) (l : f < t) (lt : t < rs.length) : BOk rs 0 (upd b (rl rs f t) f t) := by
  unfold upd
  split
  · exact ⟨by omega, l, lt, rfl⟩
  · exact h
theorem inB_ok {rs : List D} {f : Nat} {b : Bst} (h : BOk rs 0 b) : ∀ m, m ≤ rs.length - (f + 1) → BOk rs 0 (inB rs f b m)
  | 0, _ => h
  | m + 1, l => by
    rw [inB_s]
    exact upd_ok (inB_ok h m (by omega)) (by omega) (by omega)
theorem outB_ok {rs : List D} : ∀ m, BOk rs 0 (outB rs m)
  | 0 => trivial
  | m + 1 => by
    rw [outB_s]
    exact inB_ok (outB_ok m) _ (Nat.le_refl _)
theorem best_ok (rs : List D) : BOk rs 0 (best rs) := outB_ok _
theorem ok_eB (n) (b : Bst) : okD (n + 1) (eB b) = true := by cases b <;> simp [eB]
theorem eB_refl (b : Bst) : eqD (eB b) (eB b) = true := eqD_refl 60 _ (ok_eB 59 b)
theorem oneD (a j : Nat) : ((1 : Int) + j) = ((1 + j : Nat) : Int) := by omega

theorem best_step {d : D} {ps : List (List Nt)} {ns : List Nt} {lf : Nat → MZ.Env → Out D} {s4 s5 s7 s9 s10 s14 s13 s17 s26 s27 : Option D} {f j : Nat} {b : Bst} (hl : ns.length ≤ 20) (hj : f + 1 + j < ns.length) {body : SL} (hb : body = (.cons (.asg (.nm 14) (.comp true (.nm 28) .range2 (.ex (.cst (.int 1)) (.ex (.prim .add (.ex (.prim .min2 (.ex (.prim .sub (.ex (.var 13) (.ex (.var 12) .nil))) (.ex (.prim .sub (.ex (.prim .len (.ex (.var 6) .nil)) (.ex (.var 13) .nil))) .nil))) (.ex (.cst (.int 1)) .nil))) .nil)) (.prim .eq (.ex (.prim .cut2 (.ex (.var 6) (.ex (.ck (.var 12)) (.ex (.ck (.prim .add (.ex (.var 12) (.ex (.var 28) .nil)))) .nil)))) (.ex (.prim .cut2 (.ex (.var 6) (.ex (.ck (.var 13)) (.ex (.ck (.prim .add (.ex (.var 13) (.ex (.var 28) .nil)))) .nil)))) .nil))) (.var 28) [28]))
  (.cons (.ife (.and (.prim .ne (.ex (.var 14) (.ex (.lst .nil) .nil))) (.or (.prim .isN (.ex (.var 11) .nil)) (.prim .gt (.ex (.prim .maxL (.ex (.var 14) .nil)) (.ex (.prim .ix (.ex (.var 11) (.ex (.cst (.int 0)) .nil))) .nil))))) (.cons (.asg (.nm 11) (.tup (.ex (.prim .maxL (.ex (.var 14) .nil)) (.ex (.var 12) (.ex (.var 13) .nil)))))
  .nil) .nil)
  .nil))) :
    ∃ s14' : Option D, turnF (.nm 13) (evalSL (callF fds 12) lf body) (.int ((f : Int) + 1 + j)) [.no, .ow d, .ow (.lst (ps.map eP)), .ow (.lst []), o2 s4, o2 s5, .pu (.lst (ns.map eN)), o2 s7, .ow (.lst (shape ns)), o2 s9, o2 s10, .pu (eB b), .pu (.int f), o2 s13, o2 s14, .no, .no, o2 s17, .no, .no, .no, .no, .no, .no, .no, .no, o2 s26, o2 s27, .no, .no, .no] = .next [.no, .ow d, .ow (.lst (ps.map eP)), .ow (.lst []), o2 s4, o2 s5, .pu (.lst (ns.map eN)), o2 s7, .ow (.lst (shape ns)), o2 s9, o2 s10, .pu (eB (upd b (rl (ns.map eN) f (f + 1 + j)) f (f + 1 + j))), .pu (.int f), .pu (.int ((f : Int) + 1 + j)), o2 s14', .no, .no, o2 s17, .no, .no, .no, .no, .no, .no, .no, .no, o2 s26, o2 s27, .no, .no, .no] := by
  subst hb
  generalize hY : turnF _ _ _ _ = Y
  have r1 := rl_le (rs := ns.map eN) (show f < f + 1 + j by omega) (by simpa using hj)
  have tq := fun k hk hk2 => take_eq (rs := ns.map eN) (k := k) (show f < f + 1 + j by omega) (by simpa using hj) hk hk2
  rw [List.length_map] at r1 tq
  generalize hr : rl (ns.map eN) f (f + 1 + j) = r at *
  have mn : (if (ns.length : Int) - (f + 1 + j) < (f : Int) + 1 + j - f then (ns.length : Int) - (f + 1 + j) else (f : Int) + 1 + j - f) + 1 = ((min (1 + j) (ns.length - (f + 1 + j)) + 1 : Nat) : Int) := by
    split <;> omega
  simp -implicitDefEqProofs [turnF_is] at hY
  rw [comp_p (List.range (min (1 + j) (ns.length - (f + 1 + j)))) (fun j => .int (1 + (j : Int))) (fun i => decide (1 + i ≤ r)) (fun j => .int (1 + (j : Int))) ?h1 ?h2 ?h3 ?h4] at hY
  case h1 =>
    simp -implicitDefEqProofs [mn, -Int.natCast_add, rng2_ok (a := 1) (b := ((min (1 + j) (ns.length - (f + 1 + j)) + 1 : Nat) : Int)) (by decide) (by decide) (by omega) (by omega)]
    rw [rng_map]
  case h2 => rw [List.length_range]; exact le_line (by omega)
  case h3 => simp
  case h4 =>
    intro i m
    have hi : i < min (1 + j) (ns.length - (f + 1 + j)) := by simpa using m
    have o1 := okL_take (okL_drop (ok_eNs 57 ns) f) (1 + i)
    have o2 := okL_take (okL_drop (ok_eNs 57 ns) (f + 1 + j)) (1 + i)
    have c1 := cutD_is (ns.map eN) f (f + (1 + i)) (by omega)
    have c2 := cutD_is (ns.map eN) (f + 1 + j) (f + 1 + j + (1 + i)) (by omega)
    rw [List.length_map] at c1 c2
    rw [show f + (1 + i) - f = 1 + i by omega] at c1
    rw [show f + 1 + j + (1 + i) - (f + 1 + j) = 1 + i by omega] at c2
    have tt := tq (1 + i) (by omega) (by omega)
    have a1 := cutAt_of ns.length (x := (f : Int) + (1 + (i : Int))) (f + (1 + i)) (by omega)
    have a2 := cutAt_of ns.length (x := (f : Int) + 1 + j) (f + 1 + j) (by omega)
    have a3 := cutAt_of ns.length (x := (f : Int) + 1 + j + (1 + (i : Int))) (f + 1 + j + (1 + i)) (by omega)
    refine ⟨_, by simp -implicitDefEqProofs; rfl, ?_, by simp -implicitDefEqProofs, by simp -implicitDefEqProofs⟩
    simp -implicitDefEqProofs [a1, a2, a3, c1, c2, o1, o2, tt]
  rw [filt_lt r _ (by omega)] at hY
  unfold upd
  have cs : r = 0 ∨ 0 < r := by omega
  rcases cs with r0 | r0
  · subst r0
    simp -implicitDefEqProofs at hY
    exact ⟨some (.lst []), hY.symm.trans (by simp)⟩
  · have io : intsOf ((List.range r).map fun (j : Nat) => D.int (1 + (j : Int))) = some ((List.range r).map fun (j : Nat) => (1 + j : Int)) := by
      rw [← intsOf_map, List.map_map]
      rfl
    have mx := max_range r r0
    have ol : okL 59 ((List.range r).map fun (j : Nat) => D.int (1 + (j : Int))) = true := okL_map (fun _ => by simp) _
    have ne : eqL ((List.range r).map fun (j : Nat) => D.int (1 + (j : Int))) [] = false := by
      cases r with
      | zero => omega
      | succ r => rw [List.range_succ_eq_map]; simp
    cases b with
    | none =>
      have c : bsz none < r := r0
      simp -implicitDefEqProofs [ol, ne, io, mx, eB] at hY
      exact ⟨some (.lst ((List.range r).map fun (j : Nat) => D.int (1 + (j : Int)))), hY.symm.trans (by rw [if_pos c]; simp [eB])⟩
    | some z =>
      by_cases c : z.1 < r
      · have c' : (z.1 : Int) < r := by omega
        simp -implicitDefEqProofs [ol, ne, io, mx, eB, c, c'] at hY
        exact ⟨some (.lst ((List.range r).map fun (j : Nat) => D.int (1 + (j : Int)))), hY.symm.trans (by rw [if_pos (show bsz (some z) < r from c)]; simp [eB])⟩
      · have c' : ¬ (z.1 : Int) < r := by omega
        simp -implicitDefEqProofs [ol, ne, io, mx, eB, c, c'] at hY
        exact ⟨some (.lst ((List.range r).map fun (j : Nat) => D.int (1 + (j : Int)))), hY.symm.trans (by rw [if_neg (show ¬ bsz (some z) < r from c)]; simp [eB])⟩

end K11
end
section
set_option maxRecDepth 100000
set_option maxHeartbeats 8000000
open PySem
namespace K11
open MZ MZ.V
theorem eNs_len (ns : List Nt) : (ns.map eN).length = ns.length := List.length_map ..
theorem any_intD (l : List Nat) (k : Nat) : ((l.map intD).any fun y => eqD y (.int k)) = decide (k ∈ l) := by
  induction l with
  | nil => simp
  | cons a r ih =>
    rw [List.map_cons, List.any_cons, ih]
    unfold intD
    rw [eq_ii]
    by_cases h1 : k = a
    · subst h1; simp
    · have : ¬ ((a : Int) = k) := by omega
      simp [h1, this]
theorem places_best {ns : List Nt} {s f t : Nat} (h : BOk (ns.map eN) 0 (some (s, f, t))) : f ∈ placesL (ns.map eN) (((ns.drop f).take s).map eN) ∧ t ∈ placesL (ns.map eN) (((ns.drop f).take s).map eN) := by
  obtain ⟨h1, h2, h3, h4⟩ := h
  simp only at h1 h2 h3 h4
  have r1 := rl_le h2 h3
  rw [List.length_map] at h3 r1
  have te := take_eq (rs := ns.map eN) (k := s) h2 (by simpa using h3) (by omega) (by simp; omega)
  rw [← h4, ← List.map_drop, ← List.map_drop, ← List.map_take, ← List.map_take, eNs_inj] at te
  have te' : (ns.drop f).take s = (ns.drop t).take s := by simpa using te
  have wl : ((ns.drop f).take s).length = s := by simp; omega
  unfold placesL
  rw [List.length_map, List.length_map, wl]
  constructor
  · refine List.mem_filter.mpr ⟨by simp; omega, ?_⟩
    rw [← List.map_drop, ← List.map_take, eNs_inj]
    simp
  · refine List.mem_filter.mpr ⟨by simp; omega, ?_⟩
    rw [← List.map_drop, ← List.map_take, eNs_inj, te']
    simp

section
variable {lf : Nat → MZ.Env → Out D}
theorem stage4 (K : MZ.Env → Rs) {d : D} {ps : List (List Nt)} {ns : List Nt} {s4 s5 s7 s9 s10 s17 s26 s27 : Option D} (hl : ns.length ≤ 20) : ∃ s12 s13 s14 : Option D,
    ((evalS (callF fds 12) lf q7 [.no, .ow d, .ow (.lst (ps.map eP)), .ow (.lst []), o2 s4, o2 s5, .pu (.lst (ns.map eN)), o2 s7, .ow (.lst (shape ns)), o2 s9, o2 s10, .no, .no, .no, .no, .no, .no, o2 s17, .no, .no, .no, .no, .no, .no, .no, .no, o2 s26, o2 s27, .no, .no, .no]).seq fun ρ => (evalS (callF fds 12) lf q8 ρ).seq K) = K [.no, .ow d, .ow (.lst (ps.map eP)), .ow (.lst []), o2 s4, o2 s5, .pu (.lst (ns.map eN)), o2 s7, .ow (.lst (shape ns)), o2 s9, o2 s10, .pu (eB (best (ns.map eN))), o2 s12, o2 s13, o2 s14, .no, .no, o2 s17, .no, .no, .no, .no, .no, .no, .no, .no, o2 s26, o2 s27, .no, .no, .no] := by
  generalize hY : Rs.seq _ _ = Y
  have hn : ns.length ≤ line := le_line (by omega)
  simp -implicitDefEqProofs [q7, q8, hn] at hY
  generalize hX : forF _ _ _ _ = X at hY
  obtain ⟨ρ', e2, s12, s13, s14, e3⟩ := forF_at hX (fun f ρ => ∃ s12 s13 s14 : Option D, ρ = [.no, .ow d, .ow (.lst (ps.map eP)), .ow (.lst []), o2 s4, o2 s5, .pu (.lst (ns.map eN)), o2 s7, .ow (.lst (shape ns)), o2 s9, o2 s10, .pu (eB (outB (ns.map eN) f)), o2 s12, o2 s13, o2 s14, .no, .no, o2 s17, .no, .no, .no, .no, .no, .no, .no, .no, o2 s26, o2 s27, .no, .no, .no]) ⟨none, none, none, rfl⟩ (fun f hf ρ => by
    rintro ⟨s12, s13, s14, rfl⟩
    rw [v_rng_len] at hf
    rw [v_rng_get, Int.zero_add]
    generalize hZ : turnF _ _ _ _ = Z
    simp -implicitDefEqProofs [turnF_is, rng2_ok (a := (f : Int) + 1) (b := ns.length) (by omega) (by omega) (by omega) (by omega)] at hZ
    generalize hX2 : forF _ _ _ _ = X2 at hZ
    obtain ⟨ρ2, e2, s13', s14', e3⟩ := forF_at hX2 (fun j ρ => ∃ s13 s14 : Option D, ρ = [.no, .ow d, .ow (.lst (ps.map eP)), .ow (.lst []), o2 s4, o2 s5, .pu (.lst (ns.map eN)), o2 s7, .ow (.lst (shape ns)), o2 s9, o2 s10, .pu (eB (inB (ns.map eN) f (outB (ns.map eN) f) j)), .pu (.int f), o2 s13, o2 s14, .no, .no, o2 s17, .no, .no, .no, .no, .no, .no, .no, .no, o2 s26, o2 s27, .no, .no, .no]) ⟨s13, s14, by rw [inB_0]⟩ (fun j hj ρ => by
      rintro ⟨s13, s14, rfl⟩
      rw [v_rng_len] at hj
      rw [v_rng_get]
      obtain ⟨s14', e⟩ := best_step (d := d) (ps := ps) (ns := ns) (lf := lf) (s4 := s4) (s5 := s5) (s7 := s7) (s9 := s9) (s10 := s10) (s14 := s14) (s13 := s13) (s17 := s17) (s26 := s26) (s27 := s27) (f := f) (j := j) (b := inB (ns.map eN) f (outB (ns.map eN) f) j) hl (by omega) rfl
      exact ⟨_, e, some (.int ((f : Int) + 1 + j)), s14', by rw [inB_s]; rfl⟩)
    have e6 : ((ns.length : Int) - (f + 1)).toNat = (ns.map eN).length - (f + 1) := by rw [List.length_map]; omega
    rw [v_rng_len, e6, ← outB_s] at e3
    rw [e2, e3] at hZ
    clear e2 e3 hX2
    simp -implicitDefEqProofs at hZ
    exact ⟨_, hZ.symm, some (.int f), s13', s14', rfl⟩)
  rw [v_rng_len] at e3
  have e7 : outB (ns.map eN) ns.length = best (ns.map eN) := by unfold best; rw [List.length_map]
  rw [e7] at e3
  rw [e2, e3] at hY
  clear e2 e3 hX
  simp -implicitDefEqProofs at hY
  exact ⟨s12, s13, s14, hY.symm⟩
theorem stage5 (K : MZ.Env → Rs) {d : D} {ps : List (List Nt)} {rs shp : List D} {s4 s5 s7 s9 s10 s12 s13 s14 s17 s26 s27 : Option D} (hl : rs.length ≤ 20) (ok : okL 59 rs = true)
    (hpb : ∀ s f t, best rs = some (s, f, t) → f ∈ placesL rs ((rs.drop f).take s) ∧ t ∈ placesL rs ((rs.drop f).take s)) :
    ((evalS (callF fds 12) lf q9 [.no, .ow d, .ow (.lst (ps.map eP)), .ow (.lst []), o2 s4, o2 s5, .pu (.lst rs), o2 s7, .ow (.lst shp), o2 s9, o2 s10, .pu (eB (best rs)), o2 s12, o2 s13, o2 s14, .no, .no, o2 s17, .no, .no, .no, .no, .no, .no, .no, .no, o2 s26, o2 s27, .no, .no, .no]).seq fun ρ => (evalS (callF fds 12) lf q10 ρ).seq K) = K [.no, .ow d, .ow (.lst (ps.map eP)), .ow (.lst []), o2 s4, o2 s5, .pu (.lst rs), o2 s7, .ow (.lst shp), o2 s9, o2 s10, .pu (eB (best rs)), o2 s12, o2 s13, o2 s14, .no, .no, o2 s17, .no, .no, .no, .no, .no, .no, .no, .no, o2 s26, o2 s27, .no, .no, .no] := by
  have fl := f_longest (n := 12) (rs := rs) (by decide) (okL_up ok) (by omega)
  have ob := ok_eB 59 (best rs)
  have rb := eB_refl (best rs)
  generalize hY : Rs.seq _ _ = Y
  have e9 : evalS (callF fds 12) lf q9 [.no, .ow d, .ow (.lst (ps.map eP)), .ow (.lst []), o2 s4, o2 s5, .pu (.lst rs), o2 s7, .ow (.lst shp), o2 s9, o2 s10, .pu (eB (best rs)), o2 s12, o2 s13, o2 s14, .no, .no, o2 s17, .no, .no, .no, .no, .no, .no, .no, .no, o2 s26, o2 s27, .no, .no, .no] = .next [.no, .ow d, .ow (.lst (ps.map eP)), .ow (.lst []), o2 s4, o2 s5, .pu (.lst rs), o2 s7, .ow (.lst shp), o2 s9, o2 s10, .pu (eB (best rs)), o2 s12, o2 s13, o2 s14, .no, .no, o2 s17, .no, .no, .no, .no, .no, .no, .no, .no, o2 s26, o2 s27, .no, .no, .no] := by
    generalize hZ : evalS _ _ _ _ = Z
    cases hb : best rs with
    | none =>
      rw [hb] at fl hZ ob rb
      simp -implicitDefEqProofs [q9, fl, eB] at hZ
      exact hZ.symm
    | some z =>
      obtain ⟨s, f, t⟩ := z
      have bo := best_ok rs
      have pb := hpb s f t hb
      rw [hb] at fl hZ ob rb bo
      obtain ⟨b1, b2, b3, b4⟩ := bo
      simp only at b1 b2 b3 b4
      have r1 := rl_le b2 b3
      simp -implicitDefEqProofs [q9, fl, eB] at hZ
      rw [comp_p [f, t] intD (fun _ => false) intD ?h1 ?h2 ?h3 ?h4] at hZ
      case h1 => simp -implicitDefEqProofs [intD]
      case h2 => simp
      case h3 => simp
      case h4 =>
        intro k m
        have km : k ∈ placesL rs ((rs.drop f).take s) := by
          simp only [List.mem_cons, List.not_mem_nil, or_false] at m
          rcases m with rfl | rfl
          · exact pb.1
          · exact pb.2
        have o2 := okL_take (okL_drop ok f) s
        have fp := f_places (n := 12) (rs := rs) (ws := (rs.drop f).take s) (by decide) ok o2 (by simp; omega) (by omega)
        have cd := cutD_is rs f (f + s) (by omega)
        rw [show f + s - f = s by omega] at cd
        have fi : ((placesL rs ((rs.drop f).take s)).map intD).all flatD = true := List.all_eq_true.mpr fun d m => by
          obtain ⟨a, _, rfl⟩ := List.mem_map.mp m
          rfl
        have ay := any_intD (placesL rs ((rs.drop f).take s)) k
        rw [decide_eq_true km] at ay
        generalize placesL rs ((rs.drop f).take s) = pl at *
        generalize (rs.drop f).take s = ws at *
        have fk : flatD (.int k) = true := rfl
        refine ⟨_, by simp -implicitDefEqProofs [intD]; rfl, ?_, by simp, by simp⟩
        simp -implicitDefEqProofs [intD, cd, fp, fk, -List.any_map, -List.all_map]
        exact ⟨.int k, ⟨k, km, rfl⟩, by simp⟩
      simp -implicitDefEqProofs at hZ
      exact hZ.symm
  rw [e9] at hY
  have l2 : (rs.take 2).length ≤ rs.length := by simp; omega
  have o2 := okL_take ok 2
  have fp := f_places (n := 12) (rs := rs) (ws := rs.take 2) (by decide) ok o2 l2 (by omega)
  have tk := take_min rs 2
  generalize hw : rs.take 2 = ws at *
  simp -implicitDefEqProofs [q10, tk, fp] at hY
  rw [comp_p (List.range (rs.length - ws.length + 1)) intD (fun k => eqL ((rs.drop k).take ws.length) ws) intD ?h1 ?h2 ?h3 ?h4] at hY
  case h1 =>
    simp -implicitDefEqProofs [tk, hw, rng1_ok (a := (rs.length : Int) - (ws.length : Int) + 1) (by omega) (by omega)]
    rw [show ((rs.length : Int) - (ws.length : Int) + 1).toNat = rs.length - ws.length + 1 by omega, rng_map]
    simp -implicitDefEqProofs [intD]
  case h2 => rw [List.length_range]; exact le_line (by omega)
  case h3 => simp
  case h4 =>
    intro k m
    have hk : k < rs.length - ws.length + 1 := by simpa using m
    have e := cutD_is rs k (k + ws.length) (by omega)
    rw [show k + ws.length - k = ws.length by omega] at e
    have o := okL_take (okL_drop ok k) ws.length
    refine ⟨_, by simp -implicitDefEqProofs [intD]; rfl, ?_, by simp [intD], by simp⟩
    simp -implicitDefEqProofs [intD, tk, hw, e, o, o2]
  have pe : (List.range (rs.length - ws.length + 1)).filter (fun k => eqL ((rs.drop k).take ws.length) ws) = placesL rs ws := rfl
  rw [pe] at hY
  have ol : okL 59 ((placesL rs ws).map intD) = true := okL_map (fun _ => by simp [intD]) _
  have rf := eqL_refl _ _ ol
  simp -implicitDefEqProofs [ol, rf] at hY
  exact hY.symm
end
end K11
end
section
set_option maxRecDepth 100000
set_option maxHeartbeats 8000000
open PySem
namespace K11
open MZ MZ.V
def eF (p : List Nt) : D := .tup [eP p, .lst (mshape p)]
theorem ab_ix {k : Nat} (h : k < 5) : ixR [.str "ABCDE", .int k] = some (.str (chr k)) := by
  have : k = 0 ∨ k = 1 ∨ k = 2 ∨ k = 3 ∨ k = 4 := by omega
  have l : ("ABCDE" : Str).length = 5 := by decide +kernel
  have l2 : ("ABCDE" : Str).cps.toList.length = 5 := by decide +kernel
  rw [ixR_s, if_pos ⟨by omega, by omega, by rw [l]; exact le_line (by omega)⟩, Int.toNat_natCast, List.getElem?_eq_getElem (by omega)]
  have : ∀ k : Fin 5, (⟨#[("ABCDE" : Str).cps.toList.getD k 0]⟩ : Str) = chr k := by decide +kernel
  have := this ⟨k, h⟩
  rw [List.getD_eq_getElem?_getD, List.getElem?_eq_getElem (by simpa [l2] using (show k < 5 from h))] at this
  exact congrArg some (congrArg D.str this)
theorem chr_app {k : Nat} (h : k < 26) : chr k ++ ("" : Str) = chr k := by
  have : ∀ k < 26, chr k ++ ("" : Str) = chr k := by decide +kernel
  exact this k h
theorem e_len : ("" : Str).length = 0 := by decide +kernel
theorem mul_one (x : D) : mulR [.lst [x], .int 1] = some (.lst [x]) := by
  have := big_line
  rw [mulR_l, if_pos ⟨by omega, by simp, by omega⟩]
  rfl
theorem mul_nil (x : D) : mulR [.lst [x], .int 0] = some (.lst []) := by
  have := big_line
  rw [mulR_l, if_pos ⟨by omega, by simp, by omega⟩]
  rfl
theorem f0_first {p : List Nt} {a : Nt} {t : Tn} (m : a ∈ p) (e : a.1 = some t) : ∃ b, b ∈ p ∧ ∃ u, b.1 = some u ∧ f0 p = hs u ∧ ixD ((p.filter fun a => a.1.isSome).map fun a => eT a.1) 0 = some (eT (some u)) := by
  induction p with
  | nil => cases m
  | cons b r ih =>
    cases hb : b.1 with
    | some u =>
      refine ⟨b, List.mem_cons_self, u, hb, ?_, ?_⟩
      · unfold f0
        rw [List.findSome?_cons, hb]
      · rw [List.filter_cons_of_pos (by rw [hb]; rfl), List.map_cons, hb]
        rfl
    | none =>
      have mr : a ∈ r := by
        rcases List.mem_cons.mp m with rfl | m
        · rw [hb] at e; cases e
        · exact m
      obtain ⟨c, mc, u, h1, h2, h3⟩ := ih mr
      refine ⟨c, List.mem_cons_of_mem _ mc, u, h1, ?_, ?_⟩
      · rw [← h2]
        unfold f0
        rw [List.findSome?_cons, hb]
      · rw [← h3, List.filter_cons_of_neg (by rw [hb]; simp)]
theorem same_is (p q : List Nt) : (eqD (eP q) (eP p) || (!eqL (p.map eN) [] && eqL (mshape q) (mshape p))) = same p q := by
  unfold same eP
  rw [eq_ll, eNs_inj, mshape_is, mshape_is, eMs_inj]
  congr 2
  · cases p <;> simp
  · exact decide_eq_decide.mpr ⟨Eq.symm, Eq.symm⟩

theorem form_step {d b11 : D} {ps : List (List Nt)} {rs shp : List D} {lf : Nat → MZ.Env → Out D} {s4 s5 s7 s9 s10 s12 s13 s14 s17 s18 s19 s20 s26 s27 : Option D} {fs : List (List Nt)} {ls : List Str} {p : List Nt} (hp : GP p) (hfs : ∀ q ∈ fs, GP q) (hl : fs.length < 5) (hls : ls.length < 5) {body : SL} (hb : body = (.cons (.asg (.nm 18) (.comp true (.tp (.cons (.nm 17) (.cons (.nm 9) .nil))) .seq (.ex (.var 7) .nil) (.prim .notN (.ex (.var 17) .nil)) (.var 17) [17, 9]))
  (.cons (.asg (.nm 19) (.comp true (.tp (.cons (.nm 17) (.cons (.nm 9) .nil))) .seq (.ex (.var 7) .nil) (.cst (.bl true)) (.tup (.ex (.ite (.prim .isN (.ex (.var 17) .nil)) (.cst .non) (.prim .sub (.ex (.call 15 (.ex (.var 17) .nil)) (.ex (.call 15 (.ex (.prim .ix (.ex (.var 18) (.ex (.cst (.int 0)) .nil))) .nil)) .nil)))) (.ex (.var 9) .nil))) [17, 9]))
  (.cons (.ife (.prim .ne (.ex (.prim .lstOf (.ex (.call 8 (.ex (.var 7) .nil)) .nil)) (.ex (.var 19) .nil))) (.cons (.ret (.cst (.bl false)))
  .nil) .nil)
  (.cons (.asg (.nm 20) (.comp true (.nm 4) .range1 (.ex (.prim .len (.ex (.var 15) .nil)) .nil) (.or (.prim .eq (.ex (.prim .ix (.ex (.prim .ix (.ex (.var 15) (.ex (.var 4) .nil))) (.ex (.cst (.int 0)) .nil))) (.ex (.var 7) .nil))) (.and (.prim .ne (.ex (.var 7) (.ex (.lst .nil) .nil))) (.prim .eq (.ex (.prim .ix (.ex (.prim .ix (.ex (.var 15) (.ex (.var 4) .nil))) (.ex (.cst (.int 1)) .nil))) (.ex (.var 19) .nil))))) (.var 4) [4]))
  (.cons (.app 16 (.ite (.prim .ne (.ex (.var 20) (.ex (.lst .nil) .nil))) (.prim .add (.ex (.prim .ix (.ex (.cst (.str "ABCDE")) (.ex (.prim .ix (.ex (.var 20) (.ex (.cst (.int 0)) .nil))) .nil))) (.ex (.ite (.prim .eq (.ex (.prim .ix (.ex (.prim .ix (.ex (.var 15) (.ex (.prim .ix (.ex (.var 20) (.ex (.cst (.int 0)) .nil))) .nil))) (.ex (.cst (.int 0)) .nil))) (.ex (.var 7) .nil))) (.cst (.str "")) (.cst (.str "'"))) .nil))) (.prim .ix (.ex (.cst (.str "ABCDE")) (.ex (.prim .len (.ex (.var 15) .nil)) .nil)))))
  (.cons (.asg (.nm 15) (.prim .add (.ex (.var 15) (.ex (.prim .mul (.ex (.lst (.ex (.tup (.ex (.var 7) (.ex (.var 19) .nil))) .nil)) (.ex (.prim .toInt (.ex (.prim .eq (.ex (.var 20) (.ex (.lst .nil) .nil))) .nil)) .nil))) .nil))))
  .nil))))))) :
    ∃ fs' ls', stepL (fs, ls) p = some (fs', ls') ∧ (∃ z, ls' = ls ++ [z] ∧ PySem.PyData.strOk z = true) ∧ (fs' = fs ∨ fs' = fs ++ [p]) ∧ ∃ s18' s19' s20' : Option D, turnF (.nm 7) (evalSL (callF fds 12) lf body) (eP p) [.no, .ow d, .lk (.lst (ps.map eP)), .ow (.lst []), o2 s4, o2 s5, .pu (.lst rs), o2 s7, .ow (.lst shp), o2 s9, o2 s10, .pu b11, o2 s12, o2 s13, o2 s14, .pu (.lst (fs.map eF)), .ow (.lst (ls.map D.str)), o2 s17, o2 s18, o2 s19, o2 s20, .no, .no, .no, .no, .no, o2 s26, o2 s27, .no, .no, .no] = .next [.no, .ow d, .lk (.lst (ps.map eP)), .ow (.lst []), o2 s4, o2 s5, .pu (.lst rs), .pu (eP p), .ow (.lst shp), o2 s9, o2 s10, .pu b11, o2 s12, o2 s13, o2 s14, .pu (.lst (fs'.map eF)), .ow (.lst (ls'.map D.str)), o2 s17, o2 s18', o2 s19', o2 s20', .no, .no, .no, .no, .no, o2 s26, o2 s27, .no, .no, .no] := by
  subst hb
  generalize hY : turnF _ _ _ _ = Y
  obtain ⟨pl, pg⟩ := hp
  have o1 := ok_eNs 57 p
  have hit : (List.range fs.length).filter (fun k => same p (fs.getD k [])) = hits fs p fs.length := rfl
  have ms := (f_mshape (n := 12) (by decide) pg (by omega)).1
  have om : okL 59 (mshape p) = true := by rw [mshape_is]; exact ok_eMs 57 _
  have rm := eqL_refl _ _ om
  have lls : ls.length < line := lt_line (by omega)
  simp -implicitDefEqProofs [turnF_is, eP] at hY
  rw [comp_p p eN (fun a => a.1.isSome) (fun a => eT a.1) ?h1 ?h2 ?h3 ?h4] at hY
  case h1 => simp -implicitDefEqProofs
  case h2 => exact le_line (by omega)
  case h3 => simp
  case h4 =>
    intro a m
    refine ⟨_, by simp -implicitDefEqProofs [eN]; rfl, ?_, by simp, by simp⟩
    cases a.1 <;> simp [eT_none]
  simp -implicitDefEqProofs at hY
  rw [comp_p p eN (fun _ => true) (mvd (f0 p)) ?h1 ?h2 ?h3 ?h4] at hY
  case h1 => simp -implicitDefEqProofs
  case h2 => exact le_line (by omega)
  case h3 => simp
  case h4 =>
    intro a m
    refine ⟨_, by simp -implicitDefEqProofs [eN]; rfl, by simp, fun _ => ?_, by simp⟩
    cases e1 : a.1 with
    | none => simp -implicitDefEqProofs [eT_none, mvd, e1]
    | some t =>
      obtain ⟨b, mb, u, hu, hf, hix⟩ := f0_first m e1
      have h1 := f_halves (n := 12) (by decide) (pg a m t e1)
      have h2 := f_halves (n := 12) (by decide) (pg b mb u hu)
      simp -implicitDefEqProofs [mvd, e1, h1, h2, hix, hf]
  have ef : (p.filter fun _ => true).map (mvd (f0 p)) = mshape p := by rw [filt_true]; rfl
  rw [ef] at hY
  have flen : fs.length ≤ line := le_line (by omega)
  simp -implicitDefEqProofs [ms, om, rm] at hY
  rw [comp_p (List.range fs.length) intD (fun k => same p (fs.getD k [])) intD ?h1 ?h2 ?h3 ?h4] at hY
  case h1 =>
    simp -implicitDefEqProofs [flen, rng_map, intD]
  case h2 => rw [List.length_range]; exact flen
  case h3 => simp
  case h4 =>
    intro k m
    have hk : k < fs.length := by simpa using m
    have fg : fs.getD k [] = fs[k] := by rw [List.getD_eq_getElem?_getD, List.getElem?_eq_getElem hk]; rfl
    have ix : (fs.map eF)[k]? = some (.tup [eP fs[k], .lst (mshape fs[k])]) := by rw [List.getElem?_map, List.getElem?_eq_getElem hk]; rfl
    have o3 := ok_eP 57 fs[k]
    have o4 : okL 59 (mshape fs[k]) = true := by rw [mshape_is]; exact ok_eMs 57 _
    have sm := same_is p fs[k]
    rw [fg]
    generalize fs[k] = q at *
    have o5 := ok_eP 57 p
    refine ⟨_, by simp -implicitDefEqProofs [intD]; rfl, ?_, by simp [intD], by simp⟩
    rw [← sm]
    unfold eP at *
    cases c1 : eqL (q.map eN) (p.map eN) with
    | true => simp -implicitDefEqProofs [-List.getElem?_map, ix, o1, o3, c1]
    | false => cases c2 : eqL (p.map eN) [] with
      | true => simp -implicitDefEqProofs [-List.getElem?_map, ix, o1, o3, c1, c2]
      | false => simp -implicitDefEqProofs [-List.getElem?_map, ix, o1, o3, o4, om, c1, c2]
  rw [hit] at hY
  have hm : ∀ k ∈ hits fs p fs.length, k < fs.length := fun k m => by
    have := (List.mem_filter.mp m).1
    simpa using this
  have stp : stepL (fs, ls) p = match (hits fs p fs.length).head?.map fun k => letr p (fs.getD k []) k with
    | some z => some (fs, ls ++ [z])
    | none => if fs.length = 26 then none else some (fs ++ [p], ls ++ [chr fs.length]) := rfl
  cases hh : hits fs p fs.length with
  | nil =>
    rw [hh] at hY stp
    have n26 : ¬ fs.length = 26 := by omega
    have ax := ab_ix hl
    have l2 : fs.length + 1 ≤ line := le_line (by omega)
    simp only [List.head?_nil, Option.map_none, n26, if_false] at stp
    simp -implicitDefEqProofs [-ixR_s, ax, -mulR_l, mul_one, lls, l2] at hY
    exact ⟨_, _, stp, ⟨_, rfl, (chr_ok (by omega)).1⟩, .inr rfl, some (.lst ((p.filter fun a => a.1.isSome).map fun a => eT a.1)), some (.lst (mshape p)), some (.lst []), hY.symm.trans (by simp [eF, eP])⟩
  | cons k r =>
    have hk : k < fs.length := hm k (by rw [hh]; exact List.mem_cons_self)
    rw [hh] at hY stp
    have ax := ab_ix (show k < 5 by omega)
    have fg : fs.getD k [] = fs[k] := by rw [List.getD_eq_getElem?_getD, List.getElem?_eq_getElem hk]; rfl
    have ix : (fs.map eF)[k]? = some (.tup [eP fs[k], .lst (mshape fs[k])]) := by rw [List.getElem?_map, List.getElem?_eq_getElem hk]; rfl
    have o3 := ok_eP 57 fs[k]
    have oh : okL 59 (r.map intD) = true := okL_map (fun _ => by simp [intD]) _
    simp only [List.head?_cons, Option.map_some, fg] at stp
    have ij := eNs_inj fs[k] p
    have c26 := chr_ok (show k < 26 by omega)
    have cl : (chr k).length + Str.length "" ≤ line := by rw [c26.2.2, e_len]; simp
    have cl2 : (chr k).length + Str.length "'" ≤ line := by rw [c26.2.2, q_len]; simp
    have ca := chr_app (show k < 26 by omega)
    have fl2 : fs.length ≤ line := flen
    generalize fs[k] = q at *
    unfold eP at *
    by_cases c1 : q = p
    · rw [decide_eq_true c1] at ij
      have lz : letr p q k = chr k := if_pos c1
      rw [lz] at stp
      simp -implicitDefEqProofs [-ixR_s, ax, -mulR_l, mul_nil, lls, oh, -List.getElem?_map, ix, intD, ij, o1, o3, cl, ca, fl2] at hY
      exact ⟨_, _, stp, ⟨_, rfl, c26.1⟩, .inl rfl, some (.lst ((p.filter fun a => a.1.isSome).map fun a => eT a.1)), some (.lst (mshape p)), some (.lst (.int k :: r.map intD)), hY.symm.trans (by simp [intD])⟩
    · rw [decide_eq_false c1] at ij
      have lz : letr p q k = chr k ++ "'" := if_neg c1
      rw [lz] at stp
      simp -implicitDefEqProofs [-ixR_s, ax, -mulR_l, mul_nil, lls, oh, -List.getElem?_map, ix, intD, ij, o1, o3, cl2, fl2] at hY
      exact ⟨_, _, stp, ⟨_, rfl, c26.2.1⟩, .inl rfl, some (.lst ((p.filter fun a => a.1.isSome).map fun a => eT a.1)), some (.lst (mshape p)), some (.lst (.int k :: r.map intD)), hY.symm.trans (by simp [intD])⟩

end K11
end
section
set_option maxRecDepth 100000
set_option maxHeartbeats 8000000
open PySem
namespace K11
open MZ MZ.V
theorem pair_refl (x : Nt) : pairOk 0 (x, x) = true := by
  obtain ⟨a, b, c⟩ := x
  cases a <;> simp [pairOk]
theorem canon_two (ns : List Nt) (M : Nat) (h : M = if ns.length > 1 then ns.length else 1) : canonB (ns ++ ns) M 0 = true := by
  unfold canonB
  cases ns with
  | nil => simp
  | cons a r =>
    have hM : M = (a :: r).length := by
      rw [h]
      simp
    generalize a :: r = l at *
    subst hM
    rw [List.drop_append_of_le_length (Nat.le_refl _), List.drop_length, List.nil_append]
    have : (l ++ l).zip l = l.zip l := by
      have z := List.zip_append (l₁ := l) (r₁ := l) (l₂ := l) (r₂ := []) rfl
      rw [List.append_nil, List.zip_nil_right, List.append_nil] at z
      exact z
    rw [this, List.all_eq_true]
    intro q m
    obtain ⟨k, hk, rfl⟩ := List.getElem_of_mem m
    rw [List.getElem_zip]
    exact pair_refl _
theorem good_is {ns : List Nt} {p : Nat} {h : Int} : eqL (((ns.zip (ns.drop p)).filter fun q => !pairOk h q).map fun _ => D.int 1) [] = canonB ns p h := by
  unfold canonB
  generalize ns.zip (ns.drop p) = l
  induction l with
  | nil => simp
  | cons q r ih =>
    rw [List.filter_cons, List.all_cons]
    cases pairOk h q with
    | true => simpa using ih
    | false => simp

section
variable {lf : Nat → MZ.Env → Out D}
theorem stage6 (K : MZ.Env → Rs) {d b11 : D} {ps : List (List Nt)} {rs shp : List D} {s4 s5 t7 s9 s10 s12 s13 s14 s17 s26 s27 : Option D} (hp : ∀ p ∈ ps, GP p) (hl : ps.length ≤ 5) : ∃ (s : List (List Nt) × List Str) (s7 s18 s19 s20 : Option D),
    ((evalS (callF fds 12) lf q11 [.no, .ow d, .ow (.lst (ps.map eP)), .ow (.lst []), o2 s4, o2 s5, .pu (.lst rs), o2 t7, .ow (.lst shp), o2 s9, o2 s10, .pu b11, o2 s12, o2 s13, o2 s14, .no, .no, o2 s17, .no, .no, .no, .no, .no, .no, .no, .no, o2 s26, o2 s27, .no, .no, .no]).seq fun ρ => (evalS (callF fds 12) lf q12 ρ).seq fun ρ => (evalS (callF fds 12) lf q13 ρ).seq K) = K [.no, .ow d, .pu (.lst (ps.map eP)), .ow (.lst []), o2 s4, o2 s5, .pu (.lst rs), o2 s7, .ow (.lst shp), o2 s9, o2 s10, .pu b11, o2 s12, o2 s13, o2 s14, .pu (.lst (s.1.map eF)), .ow (.lst (s.2.map D.str)), o2 s17, o2 s18, o2 s19, o2 s20, .no, .no, .no, .no, .no, o2 s26, o2 s27, .no, .no, .no] := by
  generalize hY : Rs.seq _ _ = Y
  simp -implicitDefEqProofs [q11, q12] at hY
  generalize hX : forF _ _ _ _ = X at hY
  obtain ⟨ρ', e2, s, s7, s18, s19, s20, h1, h2, h3, h4, h5, e3⟩ := forF_at hX (fun k ρ => ∃ (s : List (List Nt) × List Str) (s7 s18 s19 s20 : Option D), loopL (some ([], [])) (ps.take k) = some s ∧ (∀ q ∈ s.1, GP q) ∧ s.1.length ≤ k ∧ s.2.length = k ∧ (∀ z ∈ s.2, PySem.PyData.strOk z = true) ∧ ρ = [.no, .ow d, .lk (.lst (ps.map eP)), .ow (.lst []), o2 s4, o2 s5, .pu (.lst rs), o2 s7, .ow (.lst shp), o2 s9, o2 s10, .pu b11, o2 s12, o2 s13, o2 s14, .pu (.lst (s.1.map eF)), .ow (.lst (s.2.map D.str)), o2 s17, o2 s18, o2 s19, o2 s20, .no, .no, .no, .no, .no, o2 s26, o2 s27, .no, .no, .no])
    ⟨([], []), t7, none, none, none, rfl, by simp, by simp, rfl, by simp, rfl⟩ (fun k hk ρ => by
    rintro ⟨s, s7, s18, s19, s20, h1, h2, h3, h4, h5, rfl⟩
    have hk' : k < ps.length := by simpa using hk
    have gp := hp _ (List.getElem_mem hk')
    rw [List.getElem_map]
    obtain ⟨fs, ls⟩ := s
    obtain ⟨fs', ls', e, ⟨z, rfl, zok⟩, hf, s18', s19', s20', et⟩ := form_step (d := d) (b11 := b11) (ps := ps) (rs := rs) (shp := shp) (lf := lf) (s4 := s4) (s5 := s5) (s7 := s7) (s9 := s9) (s10 := s10) (s12 := s12) (s13 := s13) (s14 := s14) (s17 := s17) (s18 := s18) (s19 := s19) (s20 := s20) (s26 := s26) (s27 := s27) (fs := fs) (ls := ls) (p := ps[k]) gp h2 (by simp only at h3; omega) (by simp only at h4; omega) rfl
    refine ⟨_, et, (fs', ls ++ [z]), some (eP ps[k]), s18', s19', s20', ?_, ?_, ?_, by simp only at h4; simp [h4], ?_, rfl⟩
    · rw [List.take_add_one, List.getElem?_eq_getElem hk', Option.toList_some, loopL_snoc, h1]
      exact e
    · intro q m
      rcases hf with rfl | rfl
      · exact h2 q m
      · rcases List.mem_append.mp m with m | m
        · exact h2 q m
        · cases List.mem_singleton.mp m; exact gp
    · simp only at h3
      rcases hf with rfl | rfl
      · simp only; omega
      · simp; omega
    · intro y m
      rcases List.mem_append.mp m with m | m
      · exact h5 y m
      · cases List.mem_singleton.mp m; exact zok)
  rw [List.length_map, List.take_length] at h1
  rw [e2, e3] at hY
  clear e2 e3 hX
  have ff := f_form (n := 12) (ps := ps) (by decide) (fun p m => ⟨by have := (hp p m).1; omega, (hp p m).2⟩) (by omega)
  rw [h1] at ff
  simp only at ff
  have ok : okL 59 (s.2.map D.str) = true := okL_of fun d m => by
    obtain ⟨z, mz, rfl⟩ := List.mem_map.mp m
    rw [okD_str]
    exact h5 z mz
  have rf := eqL_refl _ _ ok
  have op : (fun p => eP p) = eP := rfl
  simp -implicitDefEqProofs [q13, ff, ok, rf] at hY
  exact ⟨s, s7, s18, s19, s20, hY.symm⟩

theorem stage7 {d b2 b11 b15 b16 : D} {ps : List (List Nt)} {ns : List Nt} {shp : List D} {s4 s5 s7 s9 s10 s12 s13 s14 s17 s18 s19 s20 s26 s27 : Option D} (hd : Dice 100 d) (hg : ∀ x ∈ ns, GN x) (hl : ns.length ≤ 20) : ∃ (d' : D) (b21 b22 b23 b24 : D),
    ((evalS (callF fds 12) lf q14 [.no, .ow d, .pu b2, .ow (.lst []), o2 s4, o2 s5, .pu (.lst (ns.map eN)), o2 s7, .ow (.lst shp), o2 s9, o2 s10, .pu b11, o2 s12, o2 s13, o2 s14, .pu b15, .ow b16, o2 s17, o2 s18, o2 s19, o2 s20, .no, .no, .no, .no, .no, o2 s26, o2 s27, .no, .no, .no]).seq fun ρ => (evalS (callF fds 12) lf q15 ρ).seq fun ρ => (evalS (callF fds 12) lf q16 ρ).seq fun ρ => evalS (callF fds 12) lf q17 ρ) = .next [.no, (.ow d'), .pu b2, .ow (.lst []), o2 s4, o2 s5, .pu (.lst (ns.map eN)), o2 s7, .ow (.lst shp), o2 s9, o2 s10, .pu b11, o2 s12, o2 s13, o2 s14, .pu b15, .ow b16, o2 s17, o2 s18, o2 s19, o2 s20, .pu b21, .pu b22, .pu b23, .pu b24, .no, o2 s26, o2 s27, .no, .no, .no] := by
  obtain ⟨r1, d1, e1, l1, h1⟩ := f_roll (n := 12) (by decide) (B := 99) hd (m := 4) (by decide) (by decide)
  obtain ⟨r2, d2, e2, l2, h2⟩ := f_roll (n := 12) (by decide) (B := 98) h1 (m := 3) (by decide) (by decide)
  obtain ⟨h, ix⟩ : ∃ h : Int, [D.int 0, .int 2, .int 7][r2]? = some (.int h) := by
    have : r2 = 0 ∨ r2 = 1 ∨ r2 = 2 := by omega
    rcases this with rfl | rfl | rfl <;> exact ⟨_, rfl⟩
  generalize hY : Rs.seq _ _ = Y
  have ep : (1 : Int) + r1 = ((1 + r1 : Nat) : Int) := by omega
  simp -implicitDefEqProofs [q14, q15, e1, e2, ix, ep, -Int.natCast_add] at hY
  generalize hpl : 1 + r1 = pl at *
  have p1 : 1 ≤ pl := by omega
  have hz : zipR [.lst (ns.map eN), .lst ((ns.map eN).drop (min pl ns.length))] = some ((ns.zip (ns.drop pl)).map fun q => .tup [eN q.1, eN q.2]) := by
    rw [← zipR_map, List.map_drop]
    congr 4
    have := drop_min (ns.map eN) pl
    rwa [List.length_map] at this
  have zl : (ns.zip (ns.drop pl)).length ≤ line := le_line (by simp; omega)
  rw [comp_p (ns.zip (ns.drop pl)) (fun q => .tup [eN q.1, eN q.2]) (fun _ => true) (fun q => .tup [eN q.1, eN q.2]) ?h1 ?h2 ?h3 ?h4] at hY
  case h1 => simp -implicitDefEqProofs [-zipR_l, hz]
  case h2 => exact zl
  case h3 => simp
  case h4 =>
    intro q m
    exact ⟨_, by simp -implicitDefEqProofs; rfl, by simp, fun _ => by simp -implicitDefEqProofs, by simp⟩
  rw [filt_true] at hY
  simp -implicitDefEqProofs [q16] at hY
  rw [comp_p (ns.zip (ns.drop pl)) (fun q => .tup [eN q.1, eN q.2]) (fun q => !pairOk h q) (fun _ => .int 1) ?h1 ?h2 ?h3 ?h4] at hY
  case h1 => simp -implicitDefEqProofs
  case h2 => exact zl
  case h3 => simp
  case h4 =>
    intro q m
    obtain ⟨k, hk, rfl⟩ := List.getElem_of_mem m
    have m1 : (ns.zip (ns.drop pl))[k].1 ∈ ns := by rw [List.getElem_zip]; exact List.getElem_mem _
    have m2 : (ns.zip (ns.drop pl))[k].2 ∈ ns := by rw [List.getElem_zip]; exact List.mem_of_mem_drop (List.getElem_mem _)
    have g1 := hg _ m1
    have g2 := hg _ m2
    generalize (ns.zip (ns.drop pl))[k] = q at *
    refine ⟨_, by simp -implicitDefEqProofs; rfl, ?_, fun _ => by simp, by simp⟩
    obtain ⟨⟨a1, a2, a3⟩, b1, b2, b3⟩ := q
    by_cases z2 : a2 = b2
    · by_cases z3 : a3 = b3
      · cases a1 with
        | none => cases b1 with
          | none => simp -implicitDefEqProofs [eN, eT_none, pairOk, z2, z3]
          | some u => simp -implicitDefEqProofs [eN, eT_none, eT_some, pairOk, z2, z3]
        | some t => cases b1 with
          | none => simp -implicitDefEqProofs [eN, eT_none, eT_some, pairOk, z2, z3]
          | some u =>
            have h1 := f_halves (n := 12) (by decide) (g1 t rfl)
            have h2 := f_halves (n := 12) (by decide) (g2 u rfl)
            simp -implicitDefEqProofs [eN, h1, h2, pairOk, z2, z3, nonD_eT]
      · simp -implicitDefEqProofs [eN, pairOk, z2, z3]
    · simp -implicitDefEqProofs [eN, pairOk, z2]
  have fc := f_canon (n := 12) (p := pl) (h := h) (by decide) hg p1
  generalize hM : (if ns.length > 1 then ns.length else 1) = M
  have M1 : 1 ≤ M := by rw [← hM]; split <;> omega
  have fc2 := f_canon (n := 12) (ns := ns ++ ns) (p := M) (h := 0) (by decide) (fun x m => by
    rcases List.mem_append.mp m with m | m <;> exact hg x m) M1
  rw [canon_two ns M hM.symm] at fc2
  have eM : (if (ns.length : Int) > 1 then (ns.length : Int) else 1) = (M : Int) := by
    rw [← hM]
    split <;> split <;> omega
  have eM2 : (if (1 : Int) < ns.length then (ns.length : Int) else 1) = (M : Int) := eM
  have la : ns.length + ns.length ≤ line := le_line (by omega)
  have ol : okL 59 (((ns.zip (ns.drop pl)).filter fun q => !pairOk h q).map fun _ => D.int 1) = true := okL_map (fun _ => by simp) _
  have gi := good_is (ns := ns) (p := pl) (h := h)
  generalize hF : List.map _ (List.filter (fun q => !pairOk h q) _) = F at hY ol gi
  rw [List.map_append] at fc2
  simp -implicitDefEqProofs [q17, ol, gi, fc, la, eM2, fc2] at hY
  exact ⟨_, _, _, _, _, hY.symm⟩
end

end K11
end
section
set_option maxRecDepth 100000
set_option maxHeartbeats 8000000
open PySem
namespace K11
open MZ MZ.V
def tn0 : Tn := (0, 0, 4)
def p27 : List (List Nt) := (List.range 27).map fun (k : Nat) => [(some tn0, 1 + (k : Int), 4)]
theorem gt0 : GT tn0 := by unfold tn0 GT; decide
theorem l_none : loopL (some ([], [])) p27 = none := by decide +kernel
def p3 : List (List Nt) := [[(some (0, 0, 4), 1, 4)], [(some (1, 0, 4), 1, 4)], []]
theorem l_three' : (loopL (some ([], [])) p3).map (fun s => s.2) = some (["A", "A'", "B"] : List Str) := by decide +kernel
theorem l_three : ∃ fs : List (List Nt), loopL (some ([], [])) p3 = some (fs, (["A", "A'", "B"] : List Str)) := by
  have h := l_three'
  cases e : loopL (some ([], [])) p3 with
  | none => rw [e] at h; cases h
  | some s =>
    rw [e] at h
    obtain ⟨fs, ls⟩ := s
    simp only [Option.map_some, Option.some.injEq] at h
    exact ⟨fs, by rw [h]⟩
def n3 : List Nt := [(some (0, 0, 4), 1, 4), (some (1, 0, 4), 1, 4), (some (2, 0, 4), 1, 4)]
theorem c_three : canonB n3 1 2 = true := by decide +kernel
theorem b_111 : best [.int 1, .int 1, .int 1] = some (1, 0, 1) := by decide +kernel
theorem b_1212 : best [.int 1, .int 2, .int 1, .int 2] = some (2, 0, 2) := by decide +kernel
theorem pl_11 : placesL [.int 1, .int 1, .int 1] [.int 1, .int 1] = [0, 1] := by decide +kernel
theorem good3 : ∀ x ∈ n3, GN x := by
  intro x m t e
  simp only [n3, List.mem_cons, List.not_mem_nil, or_false] at m
  rcases m with rfl | rfl | rfl <;> cases e <;> (unfold GT; decide)
theorem sok : PySem.PyData.strOk ("MusicError" : Str) = true := by decide +kernel
theorem sA : PySem.PyData.strOk ("A" : Str) = true := by decide +kernel
theorem sA' : PySem.PyData.strOk ("A'" : Str) = true := by decide +kernel
theorem sB : PySem.PyData.strOk ("B" : Str) = true := by decide +kernel
section
variable {lf : Nat → MZ.Env → Out D}
theorem lam1 {ρ : MZ.Env} (h : ρ[17]? = some (.pu (.tup [.int 0, .int 0, .int 4]))) : evalE (callF fds 12) lf l_law_1 ρ = .exc 2 := by
  have fx := f_longest_x (n := 12) (rs := (List.replicate 201 [D.tup [.tup [.int 0, .int 0, .int 4], .tup [.int 1, .int 4]]]).flatten) (by decide) (by simp)
  have ml : mulR [.lst [D.tup [.tup [.int 0, .int 0, .int 4], .tup [.int 1, .int 4]]], .int 201] = some (.lst (List.replicate 201 [D.tup [.tup [.int 0, .int 0, .int 4], .tup [.int 1, .int 4]]]).flatten) := by
    have := big_line
    rw [mulR_l, if_pos ⟨by omega, by simpa using le_line (k := 201) (by decide), by omega⟩]
    rfl
  generalize (List.replicate 201 [D.tup [.tup [.int 0, .int 0, .int 4], .tup [.int 1, .int 4]]]).flatten = z at *
  simp -implicitDefEqProofs [l_law_1, h, -mulR_l, ml, fx]
theorem lam2 {ρ : MZ.Env} : evalE (callF fds 12) lf l_law_2 ρ = .exc 2 := by
  have fx := f_canon0 (n := 12) (h := 0) (d := .lst []) (by decide)
  simp -implicitDefEqProofs [l_law_2, fx]
theorem lam3 {ρ : MZ.Env} (h : ρ[17]? = some (.pu (.tup [.int 0, .int 0, .int 4]))) {v : SV} (h4 : ρ[4]? = some v) (hv : freeV v = true) (ho : isOwn v = false) : evalE (callF fds 12) lf l_law_3 ρ = .exc 2 := by
  have ff := f_form (n := 12) (ps := p27) (by decide) (fun p m => by
    obtain ⟨k, _, rfl⟩ := List.mem_map.mp m
    refine ⟨by simp, fun x mx t e => ?_⟩
    cases List.mem_singleton.mp mx
    cases e
    exact gt0) (by decide)
  rw [l_none] at ff
  simp only at ff
  have l4 : 4 < List.length ρ := (List.getElem?_eq_some_iff.mp h4).1
  have hs : ∀ u, setS (ρ.set 4 .no) 4 u = some (ρ.set 4 u) := fun u => by
    rw [setS_is, List.getElem?_set_self l4]
    simp
  have e : evalE (callF fds 12) lf (.comp true (.nm 4) .range1 (.ex (.cst (.int 27)) .nil) (.cst (.bl true)) (.lst (.ex (.tup (.ex (.var 17) (.ex (.tup (.ex (.prim .add (.ex (.cst (.int 1)) (.ex (.var 4) .nil))) (.ex (.cst (.int 4)) .nil))) .nil))) .nil)) [4]) ρ = .ok (.lst (p27.map eP)) ρ := by
    rw [comp_p (List.range 27) intD (fun _ => true) (fun k => eP [(some tn0, 1 + (k : Int), 4)]) ?h1 ?h2 ?h3 ?h4]
    case h1 =>
      simp -implicitDefEqProofs [rng1_ok (a := 27) (by decide) (by decide), rng_map, intD]
    case h2 => rw [List.length_range]; exact le_line (by decide)
    case h3 => simp [h4, ho]
    case h4 =>
      intro k m
      refine ⟨ρ.set 4 (.pu (.int k)), ?_, by simp, fun _ => ?_, by simp⟩
      · simp -implicitDefEqProofs [hs, intD]
      · have g17 : (ρ.set 4 (.pu (.int k)))[17]? = some (.pu (.tup [.int 0, .int 0, .int 4])) := by rw [List.getElem?_set_ne (by decide), h]
        have g4 : (ρ.set 4 (.pu (.int k)))[4]? = some (.pu (.int k)) := by rw [List.getElem?_set_self l4]
        simp -implicitDefEqProofs [g17, g4, eP, eN, tn0, eT_some]
    rw [filt_true]
    unfold p27
    rw [List.map_map]
    rfl
  simp -implicitDefEqProofs [l_law_3, e, ff]

theorem law_rest (h1 : ∀ ρ, lf 1 ρ = evalE (callF fds 12) (fun _ _ => .bad) l_law_1 ρ) (h2 : ∀ ρ, lf 2 ρ = evalE (callF fds 12) (fun _ _ => .bad) l_law_2 ρ) (h3 : ∀ ρ, lf 3 ρ = evalE (callF fds 12) (fun _ _ => .bad) l_law_3 ρ)
    {d b2 b6 b8 b11 b15 b16 b21 b22 b23 b24 : D} {s4 s5 s7 s9 s10 s12 s13 s14 s17 s18 s19 s20 s26 s27 : Option D} : ∃ ρ', evalSL (callF fds 12) lf b_law [.no, .ow d, .pu b2, .ow (.lst []), o2 s4, o2 s5, .pu b6, o2 s7, .ow b8, o2 s9, o2 s10, .pu b11, o2 s12, o2 s13, o2 s14, .pu b15, .ow b16, o2 s17, o2 s18, o2 s19, o2 s20, .pu b21, .pu b22, .pu b23, .pu b24, .no, o2 s26, o2 s27, .no, .no, .no] = .ret (.bl true) ρ' := by
  generalize hY : evalSL _ _ _ _ = Y
  have f1 := f_longest (n := 12) (rs := [.int 1, .int 1, .int 1]) (by decide) (by simp) (by simp)
  have f2 := f_longest (n := 12) (rs := [.int 1, .int 2, .int 1, .int 2]) (by decide) (by simp) (by simp)
  rw [b_111] at f1
  rw [b_1212] at f2
  have f3 := f_form (n := 12) (ps := p3) (by decide) (fun p m => by
    simp only [p3, List.mem_cons, List.not_mem_nil, or_false] at m
    rcases m with rfl | rfl | rfl
    · exact ⟨by simp, fun x mx t e => by cases List.mem_singleton.mp mx; cases e; unfold GT; decide⟩
    · exact ⟨by simp, fun x mx t e => by cases List.mem_singleton.mp mx; cases e; unfold GT; decide⟩
    · exact ⟨by simp, by simp⟩) (by decide)
  obtain ⟨fs3, l3⟩ := l_three
  rw [l3] at f3
  simp only at f3
  have f4 := f_canon (n := 12) (ns := n3) (p := 1) (h := 2) (by decide) good3 (by decide)
  rw [c_three] at f4
  have f5 := f_places (n := 12) (rs := [.int 1, .int 1, .int 1]) (ws := [.int 1, .int 1]) (by decide) (by simp) (by simp) (by simp) (by simp)
  rw [pl_11] at f5
  simp -implicitDefEqProofs [p3, eP, eN, eT_some] at f3
  simp -implicitDefEqProofs [n3, eN, eT_some] at f4
  simp -implicitDefEqProofs [intD] at f5
  simp -implicitDefEqProofs [eB] at f1 f2
  simp -implicitDefEqProofs [b_law] at hY
  rw [comp_p [1, 2, 3] (fun k => .clo k) (fun _ => false) (fun _ => .int 1) ?h1 ?h2 ?h3 ?h4] at hY
  case h1 => simp -implicitDefEqProofs
  case h2 => simp
  case h3 => simp
  case h4 =>
    intro k m
    refine ⟨_, by simp -implicitDefEqProofs; rfl, ?_, by simp, by simp⟩
    simp only [List.mem_cons, List.not_mem_nil, or_false] at m
    rcases m with rfl | rfl | rfl
    · rw [e_prim]
      simp -implicitDefEqProofs [h1]
      rw [lam1 (by simp)]
      simp -implicitDefEqProofs [told_ks, told_ret, sok]
    · simp -implicitDefEqProofs [h2]
      rw [lam2]
      simp -implicitDefEqProofs [told_ks, told_ret, sok]
    · simp -implicitDefEqProofs [h3]
      rw [lam3 (v := o2 s4) (by simp) (by simp) (by simp) (by simp)]
      simp -implicitDefEqProofs [told_ks, told_ret, sok]
  simp -implicitDefEqProofs [f1, f2, f3, f4, f5, sA, sA', sB] at hY
  exact ⟨_, hY.symm⟩
end

theorem dice_start {c : Int} (h : Builtin.Int.intBits c ≤ 1048576) : Dice 1000 (.lst (diceL c)) := by
  have hb : c.natAbs.log2 ≤ 1048600 := by
    unfold Builtin.Int.intBits at h
    split at h
    · rename_i z
      have : c = 0 := by simpa using z
      subst this
      decide
    · omega
  unfold diceL
  split
  · rename_i z
    refine ⟨_, 0, 2, rfl, ?_, by decide, by decide, .inr (.inr rfl)⟩
    have : (if c < 0 then -c else c).natAbs = c.natAbs := by split <;> omega
    rw [this]
    exact hb
  · have m := Int.emod_nonneg c (show (1009 : Int) ≠ 0 by decide)
    have m2 := Int.emod_lt_of_pos c (show (0 : Int) < 1009 by decide)
    refine ⟨c, 1 + c % 1009, _, rfl, hb, by omega, by omega, ?_⟩
    cases decide ((10 : Int) ^ 18 ≤ c)
    · exact .inl rfl
    · exact .inr (.inl rfl)
theorem run_all {lf : Nat → MZ.Env → Out D} (h0 : ∀ ρ, lf 0 ρ = evalE (callF fds 12) (fun _ _ => .bad) l_law_0 ρ) (h1 : ∀ ρ, lf 1 ρ = evalE (callF fds 12) (fun _ _ => .bad) l_law_1 ρ) (h2 : ∀ ρ, lf 2 ρ = evalE (callF fds 12) (fun _ _ => .bad) l_law_2 ρ) (h3 : ∀ ρ, lf 3 ρ = evalE (callF fds 12) (fun _ _ => .bad) l_law_3 ρ)
    (c : Int) (hc : Builtin.Int.intBits c ≤ 1048576) : ∃ ρ, lawR (callF fds 12) lf b_law_dice_slot 31 b_law_in b_law (.lst (diceL c)) = .ret (.bl true) ρ := by
  have hd := dice_start hc
  unfold lawR b_law_dice_slot
  rw [b_law_in_is]
  have seq : ∀ s r (ρ : MZ.Env), evalSL (callF fds 12) lf (.cons s r) ρ = (evalS (callF fds 12) lf s ρ).seq fun ρ => evalSL (callF fds 12) lf r ρ := fun s r ρ => by rw [sl_cons]
  have nil : ∀ (ρ : MZ.Env), evalSL (callF fds 12) lf .nil ρ = .next ρ := fun ρ => sl_nil
  have sn : ∀ r : Rs, (r.seq fun ρ => .next ρ) = r := fun r => by cases r <;> rfl
  simp only [seq, nil, sn]
  obtain ⟨ps, d1, s4, s5, s26, s27, hp, hl, hd1, e1⟩ := stage1 h0 (fun ρ => (evalS (callF fds 12) lf q2 ρ).seq fun ρ => (evalS (callF fds 12) lf q3 ρ).seq fun ρ => (evalS (callF fds 12) lf q4 ρ).seq fun ρ => (evalS (callF fds 12) lf q5 ρ).seq fun ρ => (evalS (callF fds 12) lf q6 ρ).seq fun ρ => (evalS (callF fds 12) lf q7 ρ).seq fun ρ => (evalS (callF fds 12) lf q8 ρ).seq fun ρ => (evalS (callF fds 12) lf q9 ρ).seq fun ρ => (evalS (callF fds 12) lf q10 ρ).seq fun ρ => (evalS (callF fds 12) lf q11 ρ).seq fun ρ => (evalS (callF fds 12) lf q12 ρ).seq fun ρ => (evalS (callF fds 12) lf q13 ρ).seq fun ρ => (evalS (callF fds 12) lf q14 ρ).seq fun ρ => (evalS (callF fds 12) lf q15 ρ).seq fun ρ => (evalS (callF fds 12) lf q16 ρ).seq fun ρ => evalS (callF fds 12) lf q17 ρ) hd
  rw [e1]
  clear e1
  obtain ⟨s7, e2⟩ := stage2 (lf := lf) (fun ρ => (evalS (callF fds 12) lf q4 ρ).seq fun ρ => (evalS (callF fds 12) lf q5 ρ).seq fun ρ => (evalS (callF fds 12) lf q6 ρ).seq fun ρ => (evalS (callF fds 12) lf q7 ρ).seq fun ρ => (evalS (callF fds 12) lf q8 ρ).seq fun ρ => (evalS (callF fds 12) lf q9 ρ).seq fun ρ => (evalS (callF fds 12) lf q10 ρ).seq fun ρ => (evalS (callF fds 12) lf q11 ρ).seq fun ρ => (evalS (callF fds 12) lf q12 ρ).seq fun ρ => (evalS (callF fds 12) lf q13 ρ).seq fun ρ => (evalS (callF fds 12) lf q14 ρ).seq fun ρ => (evalS (callF fds 12) lf q15 ρ).seq fun ρ => (evalS (callF fds 12) lf q16 ρ).seq fun ρ => evalS (callF fds 12) lf q17 ρ) (d := d1) (s4 := s4) (s5 := s5) (s26 := s26) (s27 := s27) hp hl
  rw [e2]
  clear e2
  have tl := tune_len hp
  have tg := tune_good hp
  generalize tune ps = ns at *
  have nl : ns.length ≤ 20 := by omega
  obtain ⟨u4, s9, s10, s17, e3⟩ := stage3 (lf := lf) (fun ρ => (evalS (callF fds 12) lf q7 ρ).seq fun ρ => (evalS (callF fds 12) lf q8 ρ).seq fun ρ => (evalS (callF fds 12) lf q9 ρ).seq fun ρ => (evalS (callF fds 12) lf q10 ρ).seq fun ρ => (evalS (callF fds 12) lf q11 ρ).seq fun ρ => (evalS (callF fds 12) lf q12 ρ).seq fun ρ => (evalS (callF fds 12) lf q13 ρ).seq fun ρ => (evalS (callF fds 12) lf q14 ρ).seq fun ρ => (evalS (callF fds 12) lf q15 ρ).seq fun ρ => (evalS (callF fds 12) lf q16 ρ).seq fun ρ => evalS (callF fds 12) lf q17 ρ) (d := d1) (ps := ps) (t4 := s4) (s5 := s5) (s7 := s7) (s26 := s26) (s27 := s27) tg nl
  rw [e3]
  clear e3
  obtain ⟨s12, s13, s14, e4⟩ := stage4 (lf := lf) (fun ρ => (evalS (callF fds 12) lf q9 ρ).seq fun ρ => (evalS (callF fds 12) lf q10 ρ).seq fun ρ => (evalS (callF fds 12) lf q11 ρ).seq fun ρ => (evalS (callF fds 12) lf q12 ρ).seq fun ρ => (evalS (callF fds 12) lf q13 ρ).seq fun ρ => (evalS (callF fds 12) lf q14 ρ).seq fun ρ => (evalS (callF fds 12) lf q15 ρ).seq fun ρ => (evalS (callF fds 12) lf q16 ρ).seq fun ρ => evalS (callF fds 12) lf q17 ρ) (d := d1) (ps := ps) (ns := ns) (s4 := u4) (s5 := s5) (s7 := s7) (s9 := s9) (s10 := s10) (s17 := s17) (s26 := s26) (s27 := s27) nl
  rw [e4]
  clear e4
  have e5 := stage5 (lf := lf) (fun ρ => (evalS (callF fds 12) lf q11 ρ).seq fun ρ => (evalS (callF fds 12) lf q12 ρ).seq fun ρ => (evalS (callF fds 12) lf q13 ρ).seq fun ρ => (evalS (callF fds 12) lf q14 ρ).seq fun ρ => (evalS (callF fds 12) lf q15 ρ).seq fun ρ => (evalS (callF fds 12) lf q16 ρ).seq fun ρ => evalS (callF fds 12) lf q17 ρ) (d := d1) (ps := ps) (rs := ns.map eN) (shp := shape ns) (s4 := u4) (s5 := s5) (s7 := s7) (s9 := s9) (s10 := s10) (s12 := s12) (s13 := s13) (s14 := s14) (s17 := s17) (s26 := s26) (s27 := s27) (by simpa using nl) (ok_eNs 57 ns) (fun s f t hb => by
    have bo := best_ok (ns.map eN)
    rw [hb] at bo
    have := places_best bo
    rwa [List.map_take, List.map_drop] at this)
  rw [e5]
  clear e5
  obtain ⟨s, v7, s18, s19, s20, e6⟩ := stage6 (lf := lf) (fun ρ => (evalS (callF fds 12) lf q14 ρ).seq fun ρ => (evalS (callF fds 12) lf q15 ρ).seq fun ρ => (evalS (callF fds 12) lf q16 ρ).seq fun ρ => evalS (callF fds 12) lf q17 ρ) (d := d1) (b11 := eB (best (ns.map eN))) (ps := ps) (rs := ns.map eN) (shp := shape ns) (s4 := u4) (s5 := s5) (t7 := s7) (s9 := s9) (s10 := s10) (s12 := s12) (s13 := s13) (s14 := s14) (s17 := s17) (s26 := s26) (s27 := s27) hp hl
  rw [e6]
  clear e6
  obtain ⟨d2, b21, b22, b23, b24, e7⟩ := stage7 (lf := lf) (d := d1) (b2 := .lst (ps.map eP)) (b11 := eB (best (ns.map eN))) (b15 := .lst (s.1.map eF)) (b16 := .lst (s.2.map D.str)) (ps := ps) (ns := ns) (shp := shape ns) (s4 := u4) (s5 := s5) (s7 := v7) (s9 := s9) (s10 := s10) (s12 := s12) (s13 := s13) (s14 := s14) (s17 := s17) (s18 := s18) (s19 := s19) (s20 := s20) (s26 := s26) (s27 := s27) (hd1.mono (by decide)) tg nl
  rw [e7]
  clear e7
  exact law_rest h1 h2 h3
end K11
end
section
open PySem PySem.Spec PyProof.Rows L2 MX LamX
namespace K11
open MZ
theorem run_ok : ∀ c : Int, Builtin.Int.intBits c ≤ 1048576 → ∃ ρ, lawR (callF fds 12) (lfOf (callF fds 12) fd_law.lams) b_law_dice_slot N_law.length b_law_in b_law (.lst (diceL c)) = .ret (.bl true) ρ :=
  fun c hc => run_all (lf := lfOf (callF fds 12) fd_law.lams) (fun _ => rfl) (fun _ => rfl) (fun _ => rfl) (fun _ => rfl) c hc
end K11
end
open PySem PySem.W PyProof.Rows
set_option maxRecDepth 100000 in
set_option maxHeartbeats 0 in
theorem PySem.Challenge.cw_musicstack_k11_what_comes_again_holds : PySem.Challenge.rw_musicstack_k11_what_comes_again.Holds := by
  w_on; o_law; k_head; (case hw => w_witness2)
  k_fill
  refine MZ.walk_ofAll (l := PySem.Challenge.rw_musicstack_k11_what_comes_again) (n := 63) (k := 3 * 12 + 3) (x := "script") (CX := fun w => L2.CX (PySem.Challenge.rw_musicstack_k11_what_comes_again).prog w) rfl (by decide) rfl ⟨rfl, by decide, by decide⟩ (fun w h Y => (by first | exact PySem.W.kIn_of Y | exact PySem.W.km_in_of Y)) ?F (fun w H s e s' z => (by obtain ⟨_, _, _, _, _, _, _, _, _, _, _, _, h⟩ := z; exact h))
  case F =>
    intro w mg fa h Y KX G hmg own
    refine' K11.end_mk (n := 12) KX G hmg ?o_moved_shape ?o_places_of ?o_law ?a__law_halves ?l__law_halves ?c__law_halves ?k__law_halves ?a__law_notes ?l__law_notes ?c__law_notes ?k__law_notes ?a__law_roll ?l__law_roll ?c__law_roll ?k__law_roll ?a__law_tone ?l__law_tone ?c__law_tone ?k__law_tone ?a_form_letters ?l_form_letters ?c_form_letters ?k_form_letters ?a_half_steps ?l_half_steps ?c_half_steps ?k_half_steps ?a_is_canon ?l_is_canon ?c_is_canon ?k_is_canon ?a_longest_again ?l_longest_again ?c_longest_again ?k_longest_again ?a_moved_by ?l_moved_by ?c_moved_by ?k_moved_by ?a_moved_shape ?l_moved_shape ?c_moved_shape ?k_moved_shape ?a_pitch ?l_pitch ?c_pitch ?k_pitch ?a_place_in ?l_place_in ?c_place_in ?k_place_in ?a_places_of ?l_places_of ?c_places_of ?k_places_of ?a_shape_of ?l_shape_of ?c_shape_of ?k_shape_of ?a__law_dice ?l__law_dice ?c__law_dice ?k__law_dice ?a__law_rounds ?l__law_rounds ?c__law_rounds ?k__law_rounds ?a__law_told ?l__law_told ?c__law_told ?k__law_told ?a_law ?l_law ?c_law ?k_law ?e_moved_shape ?d_moved_shape ?n_moved_shape ?e_places_of ?d_places_of ?n_places_of ?e_law ?d_law ?n_law ?a_MOST_TONES ?r_MOST_TONES ?a_STEPS ?r_STEPS ?a_MusicError ?xF_MusicError ?kF_MusicError ?bF_MusicError ?tF_MusicError ?sF_MusicError ?mF_MusicError ?a_PitchError ?xF_PitchError ?kF_PitchError ?bF_PitchError ?tF_PitchError ?sF_PitchError ?mF_PitchError ?a_ScoreError ?xF_ScoreError ?kF_ScoreError ?bF_ScoreError ?tF_ScoreError ?sF_ScoreError ?mF_ScoreError ?z_abs ?z_enumerate ?z_int ?z_len ?z_list ?z_max ?z_min ?z_range ?z_tuple ?z_zip ?ne_moved_shape ?ne_places_of K11.run_ok
    (case a__law_halves => k_is)
    (case l__law_halves => k_is)
    (case c__law_halves => k_is)
    (case k__law_halves => k_is)
    (case a__law_notes => k_is)
    (case l__law_notes => k_is)
    (case c__law_notes => k_is)
    (case k__law_notes => k_is)
    (case a__law_roll => k_is)
    (case l__law_roll => k_is)
    (case c__law_roll => k_is)
    (case k__law_roll => k_is)
    (case a__law_tone => k_is)
    (case l__law_tone => k_is)
    (case c__law_tone => k_is)
    (case k__law_tone => k_is)
    (case a_form_letters => k_is)
    (case l_form_letters => k_is)
    (case c_form_letters => k_is)
    (case k_form_letters => k_is)
    (case a_half_steps => k_is)
    (case l_half_steps => k_is)
    (case c_half_steps => k_is)
    (case k_half_steps => k_is)
    (case a_is_canon => k_is)
    (case l_is_canon => k_is)
    (case c_is_canon => k_is)
    (case k_is_canon => k_is)
    (case a_longest_again => k_is)
    (case l_longest_again => k_is)
    (case c_longest_again => k_is)
    (case k_longest_again => k_is)
    (case a_moved_by => k_is)
    (case l_moved_by => k_is)
    (case c_moved_by => k_is)
    (case k_moved_by => k_is)
    (case a_moved_shape => k_is)
    (case l_moved_shape => k_is)
    (case c_moved_shape => k_is)
    (case k_moved_shape => k_is)
    (case a_pitch => k_is)
    (case l_pitch => k_is)
    (case c_pitch => k_is)
    (case k_pitch => k_is)
    (case a_place_in => k_is)
    (case l_place_in => k_is)
    (case c_place_in => k_is)
    (case k_place_in => k_is)
    (case a_places_of => k_is)
    (case l_places_of => k_is)
    (case c_places_of => k_is)
    (case k_places_of => k_is)
    (case a_shape_of => k_is)
    (case l_shape_of => k_is)
    (case c_shape_of => k_is)
    (case k_shape_of => k_is)
    (case a__law_dice => k_is)
    (case l__law_dice => k_is)
    (case c__law_dice => k_is)
    (case k__law_dice => k_is)
    (case a__law_rounds => k_is)
    (case l__law_rounds => k_is)
    (case c__law_rounds => k_is)
    (case k__law_rounds => k_is)
    (case a__law_told => k_is)
    (case l__law_told => k_is)
    (case c__law_told => k_is)
    (case k__law_told => k_is)
    (case a_law => k_is)
    (case l_law => k_is)
    (case c_law => k_is)
    (case k_law => k_is)
    (case e_moved_shape => rfl)
    (case d_moved_shape => exact MZ.codeHd_mk (by k_is) (by rfl) (by decide +kernel))
    (case n_moved_shape => first | rfl | kernel_rfl)
    (case e_places_of => rfl)
    (case d_places_of => exact MZ.codeHd_mk (by k_is) (by rfl) (by decide +kernel))
    (case n_places_of => first | rfl | kernel_rfl)
    (case e_law => rfl)
    (case d_law => exact MZ.codeHd_mk (by k_is) (by rfl) (by decide +kernel))
    (case n_law => first | rfl | kernel_rfl)
    (case a_MOST_TONES => k_is)
    (case r_MOST_TONES => first | rfl | decide +kernel | k_is)
    (case a_STEPS => k_is)
    (case r_STEPS => first | rfl | decide +kernel | k_is)
    (case a_MusicError => k_is)
    (case xF_MusicError => k_exc)
    (case kF_MusicError => k_is)
    (case bF_MusicError => k_is)
    (case tF_MusicError => k_is)
    (case sF_MusicError => k_is)
    (case mF_MusicError => exact MZ.exm_mk (by k_is) (by k_is) (by k_is) (by first | rfl | k_is))
    (case a_PitchError => k_is)
    (case xF_PitchError => k_exc)
    (case kF_PitchError => k_is)
    (case bF_PitchError => k_is)
    (case tF_PitchError => k_is)
    (case sF_PitchError => k_is)
    (case mF_PitchError => exact MZ.exm_mk (by k_is) (by k_is) (by k_is) (by first | rfl | k_is))
    (case a_ScoreError => k_is)
    (case xF_ScoreError => k_exc)
    (case kF_ScoreError => k_is)
    (case bF_ScoreError => k_is)
    (case tF_ScoreError => k_is)
    (case sF_ScoreError => k_is)
    (case mF_ScoreError => exact MZ.exm_mk (by k_is) (by k_is) (by k_is) (by first | rfl | k_is))
    (case z_abs => k_is)
    (case z_enumerate => k_is)
    (case z_int => k_is)
    (case z_len => k_is)
    (case z_list => k_is)
    (case z_max => k_is)
    (case z_min => k_is)
    (case z_range => k_is)
    (case z_tuple => k_is)
    (case z_zip => k_is)
    (case ne_moved_shape => decide)
    (case ne_places_of => decide)
    (case o_moved_shape => exact own "moved_shape" _ (by decide +kernel) (PySem.W.mg_of KX G (by k_is)))
    (case o_places_of => exact own "places_of" _ (by decide +kernel) (PySem.W.mg_of KX G (by k_is)))
    (case o_law => exact own "law" _ (by decide +kernel) (PySem.W.mg_of KX G (by k_is)))
