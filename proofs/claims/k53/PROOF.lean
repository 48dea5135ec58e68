import PyProof.Rows.All
import Wide.All
import OpenK.AllK
import Wide.FinOn
import HandS.ForMost
import HandS.ForExc
import HandS.TryMany
import HandS.Flow
import HandS.Style
import HandS.IsInst
import HandS.TupAny
import HandS.TupMul
import HandS.Wide
import HandS.RaiseMore
import HandS.Deep
import HandS.Conv
import HandS.Zip
import HandS.SetFor
import HandS.ReCall
import PySem.Challenge.RW_undonewords_k53_whole_brackets_and_rules
set_option Elab.async false
set_option linter.all false
set_option maxRecDepth 100000
/-! Pi A: values, heaps, a small language, its plain meaning. -/
namespace Pi
open PySem PySem.Spec PyProof.Rows L2

/-- a plain value: tuples are deep; n tells a cell of the plain heap; f a def of the table -/
inductive PV where
  | non | bl (b : Bool) | int (i : Int) | str (x : Str) | fn (f : Nat)
  | tup (xs : List PV)
  | rol (xs : List PV)
  | ref (n : Nat)

inductive Cell where
  | lst (xs : List PV)

abbrev IH := List Cell
/-- an exception: its class, what it keeps -/
structure XV where
  cls : Nat
  fs : List PV

inductive R (α : Type) where
  | ok (a : α) (h : IH)
  | ex (x : XV) (h : IH)
  | bad

def R.bind {α β : Type} (r : R α) (k : α → IH → R β) : R β := match r with
  | .ok a h => k a h
  | .ex x h => .ex x h
  | .bad => .bad
@[simp] theorem R.bind_ok {α β : Type} (a : α) (h : IH) (k : α → IH → R β) : (R.ok a h).bind k = k a h := rfl
@[simp] theorem R.bind_bad {α β : Type} (k : α → IH → R β) : (R.bad : R α).bind k = .bad := rfl
@[simp] theorem R.bind_ex {α β : Type} (x : XV) (h : IH) (k : α → IH → R β) : (R.ex x h : R α).bind k = .ex x h := rfl

def ofO {α : Type} : Option (α × IH) → R α
  | some (a, h) => .ok a h
  | none => .bad
def ofP {α : Type} (h : IH) : Option α → R α
  | some a => .ok a h
  | none => .bad
@[simp] theorem ofO_some {α : Type} (a : α) (h : IH) : ofO (some (a, h)) = .ok a h := rfl
@[simp] theorem ofO_none {α : Type} : ofO (none : Option (α × IH)) = .bad := rfl
@[simp] theorem ofP_some {α : Type} (a : α) (h : IH) : ofP h (some a) = .ok a h := rfl
@[simp] theorem ofP_none {α : Type} (h : IH) : ofP h (none : Option α) = .bad := rfl

/-! ### reading the heap -/
def lstAt (h : IH) (n : Nat) : Option (List PV) := match h[n]? with
  | some (.lst xs) => some xs
  | _ => none
/-- the items of a list or a tuple -/
def seqOf (h : IH) : PV → Option (List PV)
  | .tup xs => some xs
  | .rol xs => some xs
  | .ref n => lstAt h n
  | _ => none
/-- the items of a list -/
def listOf (h : IH) : PV → Option (List PV)
  | .rol xs => some xs
  | .ref n => lstAt h n
  | _ => none

/-- a value as data, k deep -/
def toD (h : IH) : Nat → PV → Option PyData
  | _, .non => some .none
  | _, .bl b => some (.bool b)
  | _, .int i => some (.int i)
  | _, .str x => some (.str x)
  | _, .fn _ => none
  | 0, _ => none
  | k + 1, .tup xs => (xs.mapM (toD h k)).map .tuple
  | k + 1, .rol xs => (xs.mapM (toD h k)).map .list
  | k + 1, .ref n => (lstAt h n).bind fun xs => (xs.mapM (toD h k)).map .list
def dMost : Nat := 60

/-! ### operators -/
inductive BO where | add | sub | mul | fdiv | mod | pow
inductive CO where | eq | ne | lt | le | gt | ge | is | isNot | inn | notIn

def bigOk (i j : Int) : Bool := decide (i.natAbs.log2 + j.natAbs.log2 < 1000000)
def binO (o : BO) (p q : PV) (h : IH) : Option (PV × IH) := match o, p, q with
  | .add, .int i, .int j => some (.int (i + j), h)
  | .add, .str x, .str y => if x.length + y.length ≤ sizeLine then some (.str (x ++ y), h) else none
  | .add, .tup xs, .tup ys => if xs.length + ys.length ≤ sizeLine then some (.tup (xs ++ ys), h) else none
  | .add, .ref n, .ref m => match lstAt h n, lstAt h m with
    | some xs, some ys => if xs.length + ys.length ≤ sizeLine then some (.ref h.length, h ++ [.lst (xs ++ ys)]) else none
    | _, _ => none
  | .sub, .int i, .int j => some (.int (i - j), h)
  | .mul, .int i, .int j => if bigOk i j then some (.int (i * j), h) else none
  | .mul, .tup xs, .int k => if xs.isEmpty = false ∧ 2 ≤ k ∧ k ≤ 1000 ∧ xs.length ≤ 1000 then some (.tup (List.replicate k.toNat xs).flatten, h) else none
  | .mul, .ref n, .int k => match lstAt h n with
    | some xs => if -(2 ^ 63) ≤ k ∧ k < 2 ^ 63 ∧ xs.length * k.toNat ≤ sizeLine then some (.ref h.length, h ++ [.lst (List.replicate k.toNat xs).flatten]) else none
    | none => none
  | .fdiv, .int i, .int j => if 0 < j ∧ j.natAbs.log2 < 9000 then some (.int (i / j), h) else none
  | .mod, .int i, .int j => if 0 < j then some (.int (i % j), h) else none
  | .pow, .int i, .int j => if 0 ≤ j ∧ j ≤ 1000000 ∧ i.natAbs < 2 ^ 64 then some (.int (i ^ j.toNat), h) else none
  | _, _, _ => none

/-- == by data -/
def eqD (h : IH) (p q : PV) : Option Bool := match toD h dMost p, toD h dMost q with
  | some d, some e => if SeqAt.shaped d = true ∧ SeqAt.shaped e = true then some (PyData.eqv d e) else none
  | _, _ => none
def eqO (h : IH) (p q : PV) : Option Bool := match p, q with
  | .int i, .int j => some (decide (i = j))
  | .bl i, .bl j => some (decide (i = j))
  | .str i, .str j => some (decide (i = j))
  | p, q => eqD h p q
def intsP : List PV → Option (List Int)
  | [] => some []
  | .int b :: r => (intsP r).map (b :: ·)
  | _ => none
def ltInts (xs ys : List PV) : Option Bool := match intsP xs, intsP ys with
  | some ns, some ms => some (HT.lexLt ns ms)
  | _, _ => none
def isO (p q : PV) : Option Bool := match p, q with
  | .bl a, .bl b => some (decide (a = b))
  | .non, .non => some true
  | .bl _, .non => some false
  | .int _, .non => some false
  | .str _, .non => some false
  | .tup _, .non => some false
  | .rol _, .non => some false
  | .ref _, .non => some false
  | .fn _, .non => some false
  | _, _ => none
/-- in, by data -/
def inD (h : IH) (p q : PV) : Option Bool := match toD h dMost p, toD h dMost q with
  | some d, some (.list ds) => if SeqAt.shaped d = true ∧ SeqAt.shaped (.list ds) = true then some (ds.any fun e => PyData.eqv e d) else none
  | some d, some (.tuple ds) => if SeqAt.shaped d = true ∧ SeqAt.shaped (.list ds) = true then some (ds.any fun e => PyData.eqv e d) else none
  | _, _ => none
def cmpO (o : CO) (p q : PV) (h : IH) : Option Bool := match o with
  | .eq => eqO h p q
  | .ne => (eqO h p q).map not
  | .lt => (match p, q with
    | .int i, .int j => some (decide (i < j))
    | .tup xs, .tup ys => ltInts xs ys
    | _, _ => none)
  | .le => (match p, q with | .int i, .int j => some (decide (i ≤ j)) | _, _ => none)
  | .gt => (match p, q with | .int i, .int j => some (decide (j < i)) | _, _ => none)
  | .ge => (match p, q with | .int i, .int j => some (decide (j ≤ i)) | _, _ => none)
  | .is => isO p q
  | .isNot => (isO p q).map not
  | .inn => inD h p q
  | .notIn => (inD h p q).map not
def truO (h : IH) : PV → Option Bool
  | .non => some false
  | .bl b => some b
  | .int i => some (i != 0)
  | .str x => if x.length ≤ sizeLine then some ((x.length : Int) != 0) else none
  | .tup xs => some (!xs.isEmpty)
  | .rol xs => some (!xs.isEmpty)
  | .ref n => (lstAt h n).map fun xs => !xs.isEmpty
  | .fn _ => none

/-! ### built-in functions -/
inductive Bi where | len | abs | max | min | int | sum | all | any | tuple | list | repr
def bools : List PV → Option (List Bool)
  | [] => some []
  | .bl b :: r => (bools r).map (b :: ·)
  | .int i :: r => (bools r).map ((i != 0) :: ·)
  | .non :: r => (bools r).map (false :: ·)
  | _ => none
def reprO (h : IH) (p : PV) : Option Str := match toD h dMost p with
  | some d => if d.showable = true ∧ d.shown.length ≤ sizeLine ∧ d.depth ≤ 64 then some d.shown else none
  | none => none
def biO (b : Bi) (ps : List PV) (h : IH) : Option (PV × IH) := match b, ps with
  | .len, [.str x] => if x.length ≤ sizeLine then some (.int x.length, h) else none
  | .len, [p] => (seqOf h p).map fun xs => (.int xs.length, h)
  | .abs, [.int i] => some (.int (if i < 0 then -i else i), h)
  | .max, [.int i, .int j] => some (.int (if j > i then j else i), h)
  | .min, [.int i, .int j] => some (.int (if j < i then j else i), h)
  | .int, [.int i] => some (.int i, h)
  | .int, [.bl b] => some (.int (if b then 1 else 0), h)
  | .sum, [p] => (listOf h p).bind fun xs => (intsP xs).map fun ns => (.int ns.sum, h)
  | .all, [p] => (seqOf h p).bind fun xs => (bools xs).map fun bs => (.bl (bs.all id), h)
  | .any, [p] => (seqOf h p).bind fun xs => (bools xs).map fun bs => (.bl (bs.any id), h)
  | .tuple, [p] => (seqOf h p).map fun xs => (.tup xs, h)
  | .list, [p] => (seqOf h p).map fun xs => (.ref h.length, h ++ [.lst xs])
  | .repr, [p] => (reprO h p).map fun x => (.str x, h)
  | _, _ => none

def tyN (h : IH) : PV → Option String
  | .non => some "NoneType"
  | .bl _ => some "bool"
  | .int _ => some "int"
  | .str _ => some "str"
  | .tup _ => some "tuple"
  | .rol _ => some "list"
  | .ref n => (lstAt h n).map fun _ => "list"
  | .fn _ => none
def isiO (h : IH) (p : PV) (t : String) : Option Bool := (tyN h p).bind fun n => kitB n t

/-! ### methods of lists, tuples -/
inductive Mt where | append | extend | pop | count
def mtO (m : Mt) (o : PV) (ps : List PV) (h : IH) : Option (PV × IH) := match m, o, ps with
  | .append, .ref n, [p] => (lstAt h n).bind fun xs => if xs.length < sizeLine then some (.non, h.set n (.lst (xs ++ [p]))) else none
  | .extend, .ref n, [.ref m] => (lstAt h n).bind fun xs => (lstAt h m).bind fun ys => if xs.length + ys.length ≤ sizeLine then some (.non, h.set n (.lst (xs ++ ys))) else none
  | .pop, .ref n, [] => (lstAt h n).bind fun xs => xs.getLast?.map fun y => (y, h.set n (.lst xs.dropLast))
  | .count, .tup xs, [.int k] => (intsP xs).map fun ns => (.int (ns.count k : Nat), h)
  | _, _, _ => none
/-- what has such a method -/
def mtPre (m : Mt) (p : PV) : Bool := match m, p with
  | .append, .ref _ => true
  | .extend, .ref _ => true
  | .pop, .ref _ => true
  | .count, .tup _ => true
  | _, _ => false
def ixO (p q : PV) (h : IH) : Option PV := match p, q with
  | .str z, .int i => if z.length ≤ sizeLine then (atI z.cps.toList i).map fun c => .str ⟨#[c]⟩ else none
  | p, .int i => (seqOf h p).bind fun xs => atI xs i
  | _, _ => none
def cutP (xs : List PV) (lo hi : Option Int) : List PV := (xs.drop (HT.sIx xs.length 0 lo)).take (HT.sIx xs.length xs.length hi - HT.sIx xs.length 0 lo)
def slO (p : PV) (lo hi : Option Int) (h : IH) : Option (PV × IH) := match p with
  | .tup xs => some (.tup (cutP xs lo hi), h)
  | .rol xs => some (.ref h.length, h ++ [.lst (cutP xs lo hi)])
  | .ref n => (lstAt h n).map fun xs => (.ref h.length, h ++ [.lst (cutP xs lo hi)])
  | _ => none
def revO (p : PV) (h : IH) : Option (PV × IH) := match p with
  | .tup xs => some (.tup xs.reverse, h)
  | _ => none

/-! ### the language -/
mutual
inductive Ex where
  | v (i : Nat)
  | gc (g : Nat)
  | int (i : Int) | str (s : Str) | bl (b : Bool) | non
  | neg (a : Ex) | not (a : Ex)
  | bin (o : BO) (a b : Ex)
  | cmp (o : CO) (a b : Ex)
  | chain (o p : CO) (a b c : Ex)
  | and (es : Exs) | or (es : Exs)
  | ite (c a b : Ex)
  | call (f : Nat) (es : Exs)
  | callv (i : Nat) (es : Exs)
  | bi (b : Bi) (es : Exs)
  | isi (a : Ex) (t : String)
  | meth (m : Mt) (o : Ex) (es : Exs)
  | ix (a b : Ex)
  | slF (a lo : Ex) | slT (a hi : Ex) | slB (a lo hi : Ex) | slN (a : Ex)
  | rev (a : Ex)
  | tup (es : Exs) | lst (es : Exs)
  | lc (elt : Ex) (tg : Tg) (it : Itr)
  | lcIf (elt : Ex) (tg : Tg) (it : Itr) (c : Ex)
inductive Exs where
  | nil
  | cons (e : Ex) (es : Exs)
/-- what a for walks -/
inductive Itr where
  | val (e : Ex)
  | rng1 (a : Ex)
  | rng2 (a b : Ex)
  | zip (a b : Ex)
/-- a target -/
inductive Tg where
  | name (i : Nat)
  | many (xs : List Nat)
end
mutual
inductive St where
  | set (i : Nat) (e : Ex)
  | asg (tg : Tg) (e : Ex)
  | par2 (i : Nat) (j : Nat) (a b : Ex)
  | par3 (i : Nat) (j : Nat) (k : Nat) (a b c : Ex)
  | setix (o i e : Ex)
  | aug (i : Nat) (o : BO) (e : Ex)
  | expr (e : Ex)
  | ret (e : Ex)
  | retN
  | ifs (c : Ex) (a b : Sts)
  | whl (c : Ex) (b : Sts)
  | for (tg : Tg) (it : Itr) (b : Sts)
  | raise
  | brk | cnt | pass
inductive Sts where
  | nil
  | cons (s : St) (ss : Sts)
end

abbrev PEnv := List (Option PV)
def setMany : List Nat → List PV → PEnv → Option PEnv
  | [], [], ρ => some ρ
  | x :: xs, p :: ps, ρ => setMany xs ps (ρ.set x (some p))
  | _, _, _ => none
def tgO (t : Tg) (p : PV) (ρ : PEnv) : Option PEnv := match t with
  | .name i => some (ρ.set i (some p))
  | .many xs => (match p with
    | .tup ps => setMany xs ps ρ
    | _ => none)
/-- the slots of a target -/
def Tg.slots : Tg → List Nat
  | .name i => [i]
  | .many xs => xs

/-- what is walked -/
inductive Src where
  | fix (xs : List PV)
  | lst (n : Nat)
  | zip (p q : PV)
/-- the item at a turn; some none: the end -/
def srcAt (s : Src) (i : Nat) (h : IH) : Option (Option PV) := match s with
  | .fix xs => some xs[i]?
  | .lst n => (lstAt h n).map fun xs => xs[i]?
  | .zip p q => (listOf h p).bind fun xs => (listOf h q).map fun ys => (match xs[i]?, ys[i]? with | some a, some b => some (.tup [a, b]) | _, _ => none)
def srcOf (h : IH) : PV → Option Src
  | .tup xs => some (.fix xs)
  | .rol xs => some (.fix xs)
  | .ref n => (lstAt h n).map fun _ => .lst n
  | _ => none
def rngL (lo : Int) (n : Nat) : List PV := (List.range n).map fun (k : Nat) => .int (lo + (k : Int))
def inR (i : Int) : Prop := -(2 ^ 62) ≤ i ∧ i < 2 ^ 62
instance (i : Int) : Decidable (inR i) := inferInstanceAs (Decidable (_ ∧ _))

/-- a comprehension's turns -/
def lcGo (src : Src) (step : PV → IH → R (Option PV)) : Nat → Nat → List PV → IH → R PV
  | 0, _, _, _ => .bad
  | m + 1, i, acc, h => match srcAt src i h with
    | some none => .ok (.ref h.length) (h ++ [.lst acc])
    | some (some p) => (step p h).bind fun o h1 => match o with
      | some y => if acc.length < sizeLine then lcGo src step m (i + 1) (acc ++ [y]) h1 else .bad
      | none => lcGo src step m (i + 1) acc h1
    | none => .bad
def noX {α : Type} : R α → R α
  | .ok a h => .ok a h
  | _ => .bad
def lcStep (tg : Tg) (tst : PEnv → IH → R Bool) (elt : PEnv → IH → R PV) (ρ : PEnv) (p : PV) (h : IH) : R (Option PV) := match tgO tg p ρ with
  | some ρ1 => (noX (tst ρ1 h)).bind fun t h => match t with
    | true => (noX (elt ρ1 h)).bind fun y h => .ok (some y) h
    | false => .ok none h
  | none => .bad
def wipeP (ρ : PEnv) : List Nat → PEnv
  | [] => ρ
  | v :: vs => (wipeP ρ vs).set v none

/-- the world of a run: the calls, the constants, the turns at most -/
structure Ctx where
  call : Nat → List PV → IH → R PV
  con : Nat → Option PV
  fuel : Nat

section
variable (C : Ctx)
mutual
def evE : Ex → PEnv → IH → R PV
  | .v i, ρ, h => ofP h (ρ[i]?.join)
  | .gc g, _, h => ofP h (C.con g)
  | .int i, _, h => .ok (.int i) h
  | .str s, _, h => .ok (.str s) h
  | .bl b, _, h => .ok (.bl b) h
  | .non, _, h => .ok .non h
  | .neg a, ρ, h => (evE a ρ h).bind fun p h => match p with | .int i => .ok (.int (-i)) h | _ => .bad
  | .not a, ρ, h => (evE a ρ h).bind fun p h => ofP h ((truO h p).map fun b => .bl (!b))
  | .bin o a b, ρ, h => (evE a ρ h).bind fun p h => (evE b ρ h).bind fun q h => ofO (binO o p q h)
  | .cmp o a b, ρ, h => (evE a ρ h).bind fun p h => (evE b ρ h).bind fun q h => ofP h ((cmpO o p q h).map .bl)
  | .chain o o' a b c, ρ, h => (evE a ρ h).bind fun p h => (evE b ρ h).bind fun q h => (ofP h (cmpO o p q h)).bind fun r h => match r with
    | true => (evE c ρ h).bind fun s h => ofP h ((cmpO o' q s h).map .bl)
    | false => .ok (.bl false) h
  | .and es, ρ, h => evAnd es ρ h
  | .or es, ρ, h => evOr es ρ h
  | .ite c a b, ρ, h => (evE c ρ h).bind fun p h => (ofP h (truO h p)).bind fun t h => match t with | true => evE a ρ h | false => evE b ρ h
  | .call f es, ρ, h => (evEs es ρ h).bind fun ps h => C.call f ps h
  | .callv i es, ρ, h => (match ρ[i]?.join with
    | some (.fn f) => (evEs es ρ h).bind fun ps h => C.call f ps h
    | _ => .bad)
  | .bi b es, ρ, h => (evEs es ρ h).bind fun ps h => ofO (biO b ps h)
  | .isi a t, ρ, h => (evE a ρ h).bind fun p h => ofP h ((isiO h p t).map .bl)
  | .meth m o es, ρ, h => (evE o ρ h).bind fun p h => match mtPre m p with
    | true => (evEs es ρ h).bind fun ps h => ofO (mtO m p ps h)
    | false => .bad
  | .ix a b, ρ, h => (evE a ρ h).bind fun p h => (evE b ρ h).bind fun q h => ofP h (ixO p q h)
  | .slF a lo, ρ, h => (evE a ρ h).bind fun p h => (evE lo ρ h).bind fun q h => match q with | .int i => ofO (slO p (some i) none h) | _ => .bad
  | .slT a hi, ρ, h => (evE a ρ h).bind fun p h => (evE hi ρ h).bind fun q h => match q with | .int i => ofO (slO p none (some i) h) | _ => .bad
  | .slB a lo hi, ρ, h => (evE a ρ h).bind fun p h => (evE lo ρ h).bind fun q h => match q with | .int i => (evE hi ρ h).bind fun r h => (match r with | .int j => ofO (slO p (some i) (some j) h) | _ => .bad) | _ => .bad
  | .slN a, ρ, h => (evE a ρ h).bind fun p h => ofO (slO p none none h)
  | .rev a, ρ, h => (evE a ρ h).bind fun p h => ofO (revO p h)
  | .tup es, ρ, h => (evEs es ρ h).bind fun ps h => if ps.length ≤ sizeLine then .ok (.tup ps) h else .bad
  | .lst es, ρ, h => (evEs es ρ h).bind fun ps h => if ps.length ≤ sizeLine then .ok (.ref h.length) (h ++ [.lst ps]) else .bad
  | .lc elt tg it, ρ, h => (evI it ρ h).bind fun s h => lcGo s (lcStep tg (fun _ h => .ok true h) (evE elt) (wipeP ρ tg.slots)) C.fuel 0 [] h
  | .lcIf elt tg it c, ρ, h => (evI it ρ h).bind fun s h => lcGo s (lcStep tg (fun ρ h => (evE c ρ h).bind fun p h => ofP h (truO h p)) (evE elt) (wipeP ρ tg.slots)) C.fuel 0 [] h
def evEs : Exs → PEnv → IH → R (List PV)
  | .nil, _, h => .ok [] h
  | .cons e es, ρ, h => (evE e ρ h).bind fun p h => (evEs es ρ h).bind fun ps h => .ok (p :: ps) h
def evAnd : Exs → PEnv → IH → R PV
  | .nil, _, _ => .bad
  | .cons e .nil, ρ, h => evE e ρ h
  | .cons e es, ρ, h => (evE e ρ h).bind fun p h => (ofP h (truO h p)).bind fun t h => match t with | true => evAnd es ρ h | false => .ok p h
def evOr : Exs → PEnv → IH → R PV
  | .nil, _, _ => .bad
  | .cons e .nil, ρ, h => evE e ρ h
  | .cons e es, ρ, h => (evE e ρ h).bind fun p h => (ofP h (truO h p)).bind fun t h => match t with | true => .ok p h | false => evOr es ρ h
def evI : Itr → PEnv → IH → R Src
  | .val e, ρ, h => (evE e ρ h).bind fun p h => ofP h (srcOf h p)
  | .rng1 a, ρ, h => (evE a ρ h).bind fun p h => match p with | .int j => if inR j then .ok (.fix (rngL 0 j.toNat)) h else .bad | _ => .bad
  | .rng2 a b, ρ, h => (evE a ρ h).bind fun p h => (evE b ρ h).bind fun q h => match p, q with | .int i, .int j => if inR i ∧ inR j then .ok (.fix (rngL i (j - i).toNat)) h else .bad | _, _ => .bad
  | .zip a b, ρ, h => (evE a ρ h).bind fun p h => (evE b ρ h).bind fun q h => match listOf h p, listOf h q with
    | some _, some _ => .ok (.zip p q) h
    | _, _ => (match p, q with | .tup xs, .tup ys => .ok (.fix (xs.zipWith (fun a b => .tup [a, b]) ys)) h | _, _ => .bad)
end
/-- how a statement ends -/
inductive SR where
  | nx (ρ : PEnv) (h : IH)
  | rt (p : PV) (h : IH)
  | bk (ρ : PEnv) (h : IH)
  | ct (ρ : PEnv) (h : IH)
  | ex (x : XV) (ρ : PEnv) (h : IH)
  | bad
def R.st {α : Type} (ρ : PEnv) (r : R α) (k : α → IH → SR) : SR := match r with
  | .ok a h => k a h
  | .ex x h => .ex x ρ h
  | .bad => .bad
@[simp] theorem R.st_ok {α : Type} (ρ : PEnv) (a : α) (h : IH) (k : α → IH → SR) : (R.ok a h).st ρ k = k a h := rfl
@[simp] theorem R.st_bad {α : Type} (ρ : PEnv) (k : α → IH → SR) : (R.bad : R α).st ρ k = .bad := rfl
@[simp] theorem R.st_ex {α : Type} (ρ : PEnv) (x : XV) (h : IH) (k : α → IH → SR) : (R.ex x h : R α).st ρ k = .ex x ρ h := rfl
def SR.then (r : SR) (k : PEnv → IH → SR) : SR := match r with
  | .nx ρ h => k ρ h
  | r => r
@[simp] theorem SR.then_nx (ρ : PEnv) (h : IH) (k : PEnv → IH → SR) : (SR.nx ρ h).then k = k ρ h := rfl
@[simp] theorem SR.then_rt (p : PV) (h : IH) (k : PEnv → IH → SR) : (SR.rt p h).then k = .rt p h := rfl
@[simp] theorem SR.then_bk (ρ : PEnv) (h : IH) (k : PEnv → IH → SR) : (SR.bk ρ h).then k = .bk ρ h := rfl
@[simp] theorem SR.then_ct (ρ : PEnv) (h : IH) (k : PEnv → IH → SR) : (SR.ct ρ h).then k = .ct ρ h := rfl
@[simp] theorem SR.then_ex (x : XV) (ρ : PEnv) (h : IH) (k : PEnv → IH → SR) : (SR.ex x ρ h).then k = .ex x ρ h := rfl
@[simp] theorem SR.then_bad (k : PEnv → IH → SR) : SR.bad.then k = .bad := rfl
/-- behind a loop's body -/
def SR.turn (r : SR) (k : PEnv → IH → SR) : SR := match r with
  | .nx ρ h => k ρ h
  | .ct ρ h => k ρ h
  | .bk ρ h => .nx ρ h
  | r => r
@[simp] theorem SR.turn_nx (ρ : PEnv) (h : IH) (k : PEnv → IH → SR) : (SR.nx ρ h).turn k = k ρ h := rfl
@[simp] theorem SR.turn_ct (ρ : PEnv) (h : IH) (k : PEnv → IH → SR) : (SR.ct ρ h).turn k = k ρ h := rfl
@[simp] theorem SR.turn_bk (ρ : PEnv) (h : IH) (k : PEnv → IH → SR) : (SR.bk ρ h).turn k = .nx ρ h := rfl
@[simp] theorem SR.turn_rt (p : PV) (h : IH) (k : PEnv → IH → SR) : (SR.rt p h).turn k = .rt p h := rfl
@[simp] theorem SR.turn_ex (x : XV) (ρ : PEnv) (h : IH) (k : PEnv → IH → SR) : (SR.ex x ρ h).turn k = .ex x ρ h := rfl
@[simp] theorem SR.turn_bad (k : PEnv → IH → SR) : SR.bad.turn k = .bad := rfl
def forGo (src : Src) (tg : Tg) (body : PEnv → IH → SR) : Nat → Nat → PEnv → IH → SR
  | 0, _, _, _ => .bad
  | m + 1, i, ρ, h => match srcAt src i h with
    | some none => .nx ρ h
    | some (some p) => (match tgO tg p ρ with
      | some ρ1 => (body ρ1 h).turn fun ρ h => forGo src tg body m (i + 1) ρ h
      | none => .bad)
    | none => .bad
def whlGo (c : PEnv → IH → R Bool) (body : PEnv → IH → SR) : Nat → PEnv → IH → SR
  | 0, _, _ => .bad
  | m + 1, ρ, h => (c ρ h).st ρ fun t h => match t with
    | true => (body ρ h).turn fun ρ h => whlGo c body m ρ h
    | false => .nx ρ h
def evT (e : Ex) (ρ : PEnv) (h : IH) : R Bool := (evE C e ρ h).bind fun p h => ofP h (truO h p)
def augO (o : BO) (p q : PV) : Option PV := match o, p, q with
  | .add, .int a, .int b => some (.int (a + b))
  | .sub, .int a, .int b => some (.int (a - b))
  | .mul, .int a, .int b => if (-(2 ^ 64) < a ∧ a < 2 ^ 64) ∨ (-(2 ^ 64) < b ∧ b < 2 ^ 64) then some (.int (a * b)) else none
  | .fdiv, .int a, .int b => if 0 < b ∧ b < 1073741824 then some (.int (a / b)) else none
  | .mod, .int a, .int b => if 0 < b then some (.int (a % b)) else none
  | _, _, _ => none
def setixO (o i p : PV) (h : IH) : Option IH := match o, i with
  | .ref n, .int k => (lstAt h n).bind fun xs => (ixN xs.length k).map fun j => h.set n (.lst (xs.set j p))
  | _, _ => none
mutual
def exS : St → PEnv → IH → SR
  | .set i e, ρ, h => (evE C e ρ h).st ρ fun p h => .nx (ρ.set i (some p)) h
  | .asg tg e, ρ, h => (evE C e ρ h).st ρ fun p h => (match tgO tg p ρ with | some ρ1 => .nx ρ1 h | none => .bad)
  | .par2 i j a b, ρ, h => (evE C a ρ h).st ρ fun p h => (evE C b ρ h).st ρ fun q h => .nx ((ρ.set i (some p)).set j (some q)) h
  | .par3 i j k a b c, ρ, h => (evE C a ρ h).st ρ fun p h => (evE C b ρ h).st ρ fun q h => (evE C c ρ h).st ρ fun r h => .nx (((ρ.set i (some p)).set j (some q)).set k (some r)) h
  | .setix o i e, ρ, h => (evE C e ρ h).st ρ fun p h => (evE C o ρ h).st ρ fun q h => (evE C i ρ h).st ρ fun k h => (match setixO q k p h with | some h => .nx ρ h | none => .bad)
  | .aug i o e, ρ, h => (match ρ[i]?.join with
    | some p => (evE C e ρ h).st ρ fun q h => (match augO o p q with
      | some r => .nx (ρ.set i (some r)) h
      | none => .bad)
    | none => .bad)
  | .expr e, ρ, h => (evE C e ρ h).st ρ fun _ h => .nx ρ h
  | .ret e, ρ, h => (evE C e ρ h).st ρ fun p h => .rt p h
  | .retN, _, h => .rt .non h
  | .ifs c a b, ρ, h => (evT C c ρ h).st ρ fun t h => match t with | true => exSs a ρ h | false => exSs b ρ h
  | .whl c b, ρ, h => whlGo (evT C c) (exSs b) C.fuel ρ h
  | .for tg it b, ρ, h => (evI C it ρ h).st ρ fun s h => forGo s tg (exSs b) C.fuel 0 ρ h
  | .raise, _, _ => .bad
  | .brk, ρ, h => .bk ρ h
  | .cnt, ρ, h => .ct ρ h
  | .pass, ρ, h => .nx ρ h
def exSs : Sts → PEnv → IH → SR
  | .nil, ρ, h => .nx ρ h
  | .cons s ss, ρ, h => (exS s ρ h).then fun ρ h => exSs ss ρ h
end
end

/-- a def: how many parameters, how many slots, its body -/
structure Fn where
  ps : Nat
  ns : Nat
  body : Sts
def startP (n : Nat) (ps : List PV) : PEnv := ps.map some ++ List.replicate (n - ps.length) none
def SR.fin : SR → R PV
  | .nx _ h => .ok .non h
  | .rt p h => .ok p h
  | .ex x _ h => .ex x h
  | _ => .bad
/-- a call, d deep at most -/
def runI (T : Nat → Option Fn) (con : Nat → Option PV) (N : Nat) : Nat → Nat → List PV → IH → R PV
  | 0, _, _, _ => .bad
  | d + 1, f, ps, h => match T f with
    | some F => if ps.length = F.ps then (exSs ⟨runI T con N d, con, N⟩ F.body (startP F.ns ps) h).fin else .bad
    | none => .bad
@[irreducible] def run (T : Nat → Option Fn) (con : Nat → Option PV) (N d f : Nat) (ps : List PV) (h : IH) : R PV := runI T con N d f ps h
section
variable {T : Nat → Option Fn} {con : Nat → Option PV} {N d f : Nat} {ps : List PV} {h : IH}
theorem run_0 : run T con N 0 f ps h = .bad := by unfold run; rfl
theorem run_s : run T con N (d + 1) f ps h = match T f with
    | some F => if ps.length = F.ps then (exSs ⟨run T con N d, con, N⟩ F.body (startP F.ns ps) h).fin else .bad
    | none => .bad := by
  have e : run T con N d = runI T con N d := by funext f ps h; unfold run; rfl
  rw [e]
  unfold run
  rfl
end
end Pi

set_option Elab.async false
set_option linter.all false
set_option maxRecDepth 100000
set_option maxHeartbeats 2000000
/-! Pi T: tuples whose own object is known (no dict): made, joined, cut, repeated; count; repr of data. -/
namespace Pi
open PySem PySem.Spec PyProof.Rows L2

/-- a tuple that is known to its object, which has no dict -/
def SqX (K : PySem.W.Frag) (H : Hp) (a : Addr) (xs : List V) : Prop := (∃ o, H a = some (.frz o (.tup xs)) ∧ o.dict = none) ∨
    ∃ (o : Obj) (its : Array Value) (n : Nat), K.lookup a = some o ∧ o.cls = .type "tuple" ∧ o.dict = none ∧ o.data = .seq its n ∧ its.size ≤ sizeLine ∧ Vals xs its.toList
theorem SqX.sqT {K : PySem.W.Frag} {H : Hp} {a : Addr} {xs : List V} (h : SqX K H a xs) : SqT K H a xs := by
  rcases h with ⟨o, h, _⟩ | ⟨o, its, n, h1, h2, _, h3⟩
  · exact .inl (.inr ⟨o, h⟩)
  · exact .inr ⟨o, its, n, h1, h2, h3⟩
def tupObj (its : List Value) : Obj := { cls := .type "tuple", data := .seq its.toArray }

section
variable {X : Cx} {pins : List (Addr × Obj)} {σ : L2.St} {H : Hp} {s : Shared}
/-- a new tuple is laid, known -/
theorem laidX {h0 : Heap} {xs : List V} {its : List Value} {Q : VK} {t' : Nat} {a : Addr} (I : Inv X pins σ H { s with heap := h0 }) (ha : a = h0.objs.size) (r : Vals xs its) (hz : xs.length ≤ sizeLine)
    (q : ∀ p o, H p = none → o.dict = none → Q (.ref p) (upd H p (.frz o (.tup xs)))) : EP X pins σ Q (.ref a) { s with heap := h0.push (tupObj its), toks := t' } := by
  subst ha
  have hg : (h0.push (tupObj its)).get? h0.objs.size = some (tupObj its) := Heap.get?_push_size _ rfl
  refine ⟨.ref h0.objs.size, _, I.laid (t' := t') (o := .frz (tupObj its) (.tup xs)) (fun b ob e => Heap.get?_push_of_some _ e) (Nat.le_refl _) ?_, rfl, q _ (tupObj its) (I.hok.fresh (Nat.le_refl _)) rfl⟩
  exact ⟨hg, hz, its, r, ⟨_, hg, rfl, _, rfl⟩⟩
abbrev tTupX (t : TA) : TE := fun σ H Q => t σ H fun xs H1 => xs.length ≤ sizeLine ∧ ∀ p o, H1 p = none → o.dict = none → Q (.ref p) (upd H1 p (.frz o (.tup xs)))
theorem pe_tupX {es : List Expr} {t : TA} {pos : Pos} {x1} (h : PA X es t) : PE X (.Tuple es x1 pos) (tTupX t) := by
  refine ⟨fun pins s σ H Q I hq => ?_⟩
  refine wpAny_Tuple_spliced (thn (h.run pos pins s σ H _ I hq) fun us s1 ⟨xs, H1, I1, r, z, q⟩ => ⟨by rw [← r.length]; exact z, ?_⟩)
  exact laidX (s := s1) (h0 := s1.heap) (t' := s1.toks) I1 rfl r z q
theorem call_tupleX : CallR X (.type "tuple") (fun xs H Q => ∃ p ys, xs = [.ref p] ∧ SqL X.K H p ys ∧ ∀ l o, H l = none → o.dict = none → Q (.ref l) (upd H l (.frz o (.tup ys)))) := by
  intro pins s σ H xs us Q I r h
  obtain ⟨p, ys, rfl, hq, q⟩ := h
  obtain ⟨u, rfl, rx⟩ := vals1 r
  cases rx
  obtain ⟨its, r', pl, hz⟩ := I.list hq
  have hlen := r'.length
  refine call_tuple_list pl.isList (fun h' kp => ?_) (by simp only [List.size_toArray] <;> omega)
  exact laidX (s := s) (h0 := h') (t' := s.toks) (I.kept (t' := s.toks) kp) rfl r' hz q
theorem op_catX : OpR X (binaryOp .Add) (fun x y H Q => ∃ a b xs ys, x = .ref a ∧ y = .ref b ∧ SqT X.K H a xs ∧ SqT X.K H b ys ∧ xs.length + ys.length ≤ sizeLine ∧
    (xs = [] → Q (.ref b) H) ∧ (ys = [] → Q (.ref a) H) ∧ ∀ p o, H p = none → o.dict = none → Q (.ref p) (upd H p (.frz o (.tup (xs ++ ys))))) := by
  intro pins s σ H x y v u Q I rx ry h
  obtain ⟨a, b, xs, ys, rfl, rfl, ha, hb, hz, q0, q1, q2⟩ := h
  by_cases hx : xs = []
  · subst hx
    cases rx
    cases ry
    obtain ⟨its, r1, p1, _⟩ := I.tuple ha
    obtain ⟨its2, r2, p2, _⟩ := I.tuple hb
    cases r1
    exact cat_tup0 p1 p2 ⟨.ref b, H, I, rfl, q0 rfl⟩
  · cases rx
    cases ry
    obtain ⟨its, r1, p1, _⟩ := I.tuple ha
    obtain ⟨its2, r2, p2, _⟩ := I.tuple hb
    refine HT.cat_tup p1 p2 (fun z => hx (r1.nil_iff.mp z)) (fun z => ⟨.ref a, H, I, rfl, q1 (r2.nil_iff.mp z)⟩) (fun z => ?_) (by rw [← r1.length, ← r2.length]; exact hz)
    exact laidX (s := s) (h0 := s.heap) (t' := s.toks) I rfl (r1.append r2) (by rw [List.length_append]; exact hz) q2
theorem sl_tupX : SlR X (fun x lo hi H Q => ∃ a xs, x = .ref a ∧ SqT X.K H a xs ∧ (HT.sIx xs.length 0 lo = 0 ∧ HT.sIx xs.length xs.length hi = xs.length → Q (.ref a) H) ∧
    ∀ p o, H p = none → o.dict = none → Q (.ref p) (upd H p (.frz o (.tup (cutV xs lo hi))))) := by
  intro pins s σ H x v vl vu lo hi sl Q I rx hs pl pu h
  obtain ⟨a, xs, rfl, hx, q1, q2⟩ := h
  cases rx
  obtain ⟨its, r, ht, hz⟩ := I.tuple hx
  have hlen : its.toArray.size = xs.length := by rw [List.size_toArray]; exact r.length.symm
  refine ⟨"tuple", _, PyProof.Rows.slot_tuple_getitem.lookup, ht.typeIs, ?_⟩
  by_cases hw : HT.sIx xs.length 0 lo = 0 ∧ HT.sIx xs.length xs.length hi = xs.length
  · exact getItem_tuple_whole ht hs pl pu (by rw [hlen]; exact hw) ⟨.ref a, H, I, rfl, q1 hw⟩
  · refine HT.getItem_tuple_cut ht hs pl pu (by rw [hlen]; exact hw) ?_ (by rw [hlen]; exact hz)
    rw [hlen]
    exact laidX (s := s) (h0 := s.heap) (t' := s.toks) I rfl ((r.drop (HT.sIx xs.length 0 lo)).take (HT.sIx xs.length xs.length hi - HT.sIx xs.length 0 lo)) (Nat.le_trans (cutV_length xs lo hi) hz) q2
theorem op_repX : OpR X (binaryOp .Mult) (fun x y H Q => ∃ l k xs, x = .ref l ∧ y = .int k ∧ SqT X.K H l xs ∧ xs ≠ [] ∧ 2 ≤ k ∧ k ≤ 1000 ∧ xs.length ≤ 1000 ∧ ∀ p o, H p = none → o.dict = none → Q (.ref p) (upd H p (.frz o (.tup (List.replicate k.toNat xs).flatten)))) := by
  intro pins s σ H x y v u Q I rx ry h
  obtain ⟨l, k, xs, rfl, rfl, hT, hne, h1, h2, hz, q⟩ := h
  cases rx
  obtain ⟨t, rfl⟩ := ry
  obtain ⟨its, r, ⟨⟨cls, dd, data, sl⟩, ho, hc, n, hd⟩, hs⟩ := I.tuple hT
  simp only at hc hd
  subst hc hd
  have hle : its.length = xs.length := r.length.symm
  have hi : its.toArray.isEmpty = false := by
    cases its with
    | nil => exact absurd (List.eq_nil_of_length_eq_zero hle.symm) hne
    | cons a b => rfl
  have hsz0 : its.toArray.size = xs.length := by rw [List.size_toArray, hle]
  have a1 : ((xs.length : Nat) : Int) * k ≤ 1000 * k := Int.mul_le_mul_of_nonneg_right (by omega) (by omega)
  have a2 : k.toNat * xs.length ≤ 1000 * 1000 := Nat.mul_le_mul (by omega) hz
  have hm : ((its.toArray.size : Nat) : Int) * k ≤ 1000000 := by rw [hsz0]; omega
  have c0 : (decide (k < -(2 ^ 63)) || decide (k ≥ 2 ^ 63)) = false := by
    rw [decide_eq_false (by omega), decide_eq_false (by omega)] <;> rfl
  have c1 : (its.toArray.isEmpty || k == 1) = false := by
    rw [hi, Bool.false_or]; exact beq_eq_false_iff_ne.mpr (by omega)
  have c2 : (decide (k ≤ 0) || its.toArray.isEmpty) = false := by
    rw [hi, Bool.or_false]; exact decide_eq_false (by omega)
  have c4 : Builtin.Tuple.tupleTooMany (((its.toArray.size : Nat) : Int) * k) = false := by
    unfold Builtin.Tuple.tupleTooMany
    rw [sizeLine_eq]; exact decide_eq_false (by omega)
  have flen : (List.replicate k.toNat its).flatten.length ≤ sizeLine := by
    rw [PyProof.Rows.lm_len_rep_flat, hle, sizeLine_eq]; omega
  refine wpAny_binaryOp_repeat_ref (T := "tuple") (U := "int") (by decide) ⟨_, ho, rfl⟩ (fun s' => typeIs_int s' k t) noFill_tuple_mul F.fills_int_mul F.slot_int_rmul repeat_tuple F.slot_int_index.lookup
    (call_meets F.slot_int_rmul (typeIs_int s k t) F.entry_int_rmul (F.args_int_rmul_2 _ _) (int_rmul_tuple k t l its.toArray n dd sl)
      ⟨ho, rfl, ⟨_, ho, rfl⟩, call_meets F.slot_tuple_mul ⟨_, ho, rfl⟩ F.entry_tuple_mul (F.args_tuple_mul_2 _ _) (tuple_mulW l its.toArray n dd sl k t c0 c1 c2 (by omega) c4 (by rw [size_rep, List.size_toArray]; exact flen)) ⟨ho, ?_⟩⟩)
  rw [size_rep]
  exact laidX (s := s) (h0 := s.heap) (t' := s.toks) I rfl (r.rep k.toNat) (by rw [PyProof.Rows.lm_len_rep_flat, sizeLine_eq]; omega) q

/-! ### t.count(k) -/
def tyX (K : PySem.W.Frag) (x : V) (H : Hp) : Prop := ∃ a xs, x = .ref a ∧ SqX K H a xs
theorem tyX_ok : TyOk X "tuple" (tyX X.K) := by
  intro pins σ H s x v I r h
  obtain ⟨a, xs, rfl, h⟩ := h
  cases r
  rcases h with ⟨o, h, hd⟩ | ⟨o, its, n, h1, h2, hd, h3⟩
  · obtain ⟨e, _, _, _, ob, e2, c, _⟩ := I.hok a _ h
    rw [e] at e2; cases e2
    exact ⟨⟨o, e, c⟩, fun b z => by cases z; exact ⟨o, e, hd⟩⟩
  · exact ⟨⟨o, I.kIn a o h1, h2⟩, fun b z => by cases z; exact ⟨o, I.kIn _ o h1, hd⟩⟩
theorem mt_tcount : MtR X "tuple.count" (fun x xs H Q => ∃ (p : Addr) (ns : List Int) (k : Int), x = .ref p ∧ xs = [.int k] ∧ SqT X.K H p (ns.map V.int) ∧ Q (.int (ns.count k : Nat)) H) := by
  intro pins s σ H x xs v us Q I rx rxs h
  obtain ⟨p, ns, k, rfl, rfl, hs, q⟩ := h
  cases rx
  obtain ⟨u, rfl, ru⟩ := rxs.one
  obtain ⟨t, rfl⟩ := ru
  obtain ⟨its, rv, ⟨⟨cls, dd, data, sl⟩, ho, hc, n, hd⟩, hlen⟩ := I.tuple hs
  simp only at hc hd
  subst hc hd
  have hi := intsAre_of rv
  refine call_meets PySem.F.slot_tuple_count ⟨_, ho, rfl⟩ PySem.F.entry_tuple_count (PySem.F.args_tuple_count_2 _ _)
    (SeqAt.tuple_countAt p its.toArray n dd sl (.int k t) (eqk k)) ⟨ho, fun y hy => (eqk_gives hi y (by simpa using hy)).at _ _, ?_⟩
  have ec : its.toArray.toList.countP (eqk k) = ns.count k := eqk_count hi
  refine ⟨.int (ns.count k : Nat), H, I.tok _, ⟨s.toks, ?_⟩, q⟩
  show Value.int ((its.toArray.toList.countP (eqk k) : Nat) : Int) s.toks = Value.int ((ns.count k : Nat) : Int) s.toks
  rw [ec]
end
/-! ### any, all of lists and tuples of bools, whole numbers, None -/
inductive TrV : List V → List Bool → Prop
  | nil : TrV [] []
  | bl (b : Bool) {vs : List V} {bs : List Bool} (h : TrV vs bs) : TrV (.bl b :: vs) (b :: bs)
  | int (i : Int) {vs : List V} {bs : List Bool} (h : TrV vs bs) : TrV (.int i :: vs) ((i != 0) :: bs)
  | non {vs : List V} {bs : List Bool} (h : TrV vs bs) : TrV (.non :: vs) (false :: bs)
theorem TrV.len {vs : List V} {bs : List Bool} (h : TrV vs bs) : vs.length = bs.length := by
  induction h with
  | nil => rfl
  | bl _ _ ih => simp [ih]
  | int _ _ ih => simp [ih]
  | non _ ih => simp [ih]
theorem TrV.at {prog : Program} {w : World} {A : Around} {vs : List V} {bs : List Bool} (h : TrV vs bs) : ∀ {its : List Value}, Vals vs its → ∀ (i : Nat) (v : Value), its[i]? = some v → ∀ (s : Shared) (Q : Bool → Shared → Prop) (E : Value → Shared → Prop), Q (bs.getD i false) s → wpAny (model prog w) A (truthy v) Q E s := by
  induction h with
  | nil => intro its r i v e; cases r; simp at e
  | bl b h ih =>
    intro its r i v e s Q E q
    cases r with
    | cons r rr =>
      cases i with
      | zero =>
        simp at e; subst e
        cases (show _ = Value.bool b from r)
        exact wpAny_truthy_bool (by simpa using q)
      | succ i => exact ih rr i v (by simpa using e) s Q E (by simpa using q)
  | int k h ih =>
    intro its r i v e s Q E q
    cases r with
    | cons r rr =>
      cases i with
      | zero =>
        simp at e; subst e
        obtain ⟨t, rfl⟩ := r
        exact PySem.P.truthy_int (by simpa using q)
      | succ i => exact ih rr i v (by simpa using e) s Q E (by simpa using q)
  | non h ih =>
    intro its r i v e s Q E q
    cases r with
    | cons r rr =>
      cases i with
      | zero =>
        simp at e; subst e
        cases (show _ = Value.none from r)
        exact truthy_none (by simpa using q)
      | succ i => exact ih rr i v (by simpa using e) s Q E (by simpa using q)
section
variable {X : Cx}
def rTr (f : List Bool → Bool) (K : PySem.W.Frag) : List V → Hp → VK → Prop := fun vs H Q => ∃ (a : Addr) (us : List V) (bs : List Bool), vs = [V.ref a] ∧ (SqL K H a us ∨ SqT K H a us) ∧ TrV us bs ∧ Q (.bl (f bs)) H
theorem cr_anyT (hc : X.calm = true) : CallR X (.builtin "any") (rTr (fun bs => bs.any id) X.K) := by
  intro pins s σ H vs us Q I r h
  obtain ⟨a, ws, bs, rfl, hs, ht, q⟩ := h
  rw [Vals.ref1 r]
  rcases hs with hs | hs
  · obtain ⟨its, rv, hl, _⟩ := I.list hs
    have el : its.length = bs.length := by rw [← rv.length]; exact ht.len
    refine call_any_walk (iter_any hl.isList fun s₂ e2 st hne => ?_)
    subst e2
    refine ⟨_, _, _, _, _, _, fun i => bs.getD i false, rfl, Walks.list (A := X.A.in1) (I.ok.hd hc) _ a hne its.toArray, st, fun i v s Q E hv hq => ht.at rv i v (by simpa using hv) s Q E hq, fun h' tk hk => ?_⟩
    refine ⟨.bl _, H, I.kept fun b o eo => hk b o (fun hmem => ?_) (Heap.get?_push_of_some _ eo), ?_, q⟩
    · rcases List.mem_cons.mp hmem with e1 | hmem
      · exact absurd (e1 ▸ Heap.lt_size eo) (Nat.lt_irrefl _)
      · cases hmem
    · show Value.bool _ = Value.bool _
      rw [List.size_toArray, el, L2.any_range]
  · obtain ⟨its, rv, hl, _⟩ := I.tuple hs
    have hT : s.heap.IsTuple a its.toArray := hl
    have hlt : a < s.heap.objs.size := by obtain ⟨_, e, _⟩ := id hT; exact Heap.lt_size e
    have el : its.length = bs.length := by rw [← rv.length]; exact ht.len
    refine call_any_walk (wpAny_pyIter_tuple hT ?_)
    refine ⟨_, _, _, _, _, _, fun i => bs.getD i false, rfl, Walks.tuple (A := X.A.in1) (I.ok.hd hc) _ a (Nat.ne_of_lt hlt) its.toArray, ⟨⟨_, Heap.get?_push_size _ rfl, rfl, rfl⟩, hT.push _⟩, fun i v s Q E hv hq => ht.at rv i v (by simpa using hv) s Q E hq, fun h' tk hk => ?_⟩
    refine ⟨.bl _, H, I.kept fun b o eo => hk b o (fun hmem => ?_) (Heap.get?_push_of_some _ eo), ?_, q⟩
    · rcases List.mem_cons.mp hmem with e1 | hmem
      · exact absurd (e1 ▸ Heap.lt_size eo) (Nat.lt_irrefl _)
      · cases hmem
    · show Value.bool _ = Value.bool _
      rw [List.size_toArray, el, L2.any_range]
theorem cr_allT (hc : X.calm = true) : CallR X (.builtin "all") (rTr (fun bs => bs.all id) X.K) := by
  intro pins s σ H vs us Q I r h
  obtain ⟨a, ws, bs, rfl, hs, ht, q⟩ := h
  rw [Vals.ref1 r]
  rcases hs with hs | hs
  · obtain ⟨its, rv, hl, _⟩ := I.list hs
    have el : its.length = bs.length := by rw [← rv.length]; exact ht.len
    refine call_all_walk (iter_any hl.isList fun s₂ e2 st hne => ?_)
    subst e2
    refine ⟨_, _, _, _, _, _, fun i => bs.getD i false, rfl, Walks.list (A := X.A.in1) (I.ok.hd hc) _ a hne its.toArray, st, fun i v s Q E hv hq => ht.at rv i v (by simpa using hv) s Q E hq, fun h' tk hk => ?_⟩
    refine ⟨.bl _, H, I.kept fun b o eo => hk b o (fun hmem => ?_) (Heap.get?_push_of_some _ eo), ?_, q⟩
    · rcases List.mem_cons.mp hmem with e1 | hmem
      · exact absurd (e1 ▸ Heap.lt_size eo) (Nat.lt_irrefl _)
      · cases hmem
    · show Value.bool _ = Value.bool _
      rw [List.size_toArray, el, L2.all_range]
  · obtain ⟨its, rv, hl, _⟩ := I.tuple hs
    have hT : s.heap.IsTuple a its.toArray := hl
    have hlt : a < s.heap.objs.size := by obtain ⟨_, e, _⟩ := id hT; exact Heap.lt_size e
    have el : its.length = bs.length := by rw [← rv.length]; exact ht.len
    refine call_all_walk (wpAny_pyIter_tuple hT ?_)
    refine ⟨_, _, _, _, _, _, fun i => bs.getD i false, rfl, Walks.tuple (A := X.A.in1) (I.ok.hd hc) _ a (Nat.ne_of_lt hlt) its.toArray, ⟨⟨_, Heap.get?_push_size _ rfl, rfl, rfl⟩, hT.push _⟩, fun i v s Q E hv hq => ht.at rv i v (by simpa using hv) s Q E hq, fun h' tk hk => ?_⟩
    refine ⟨.bl _, H, I.kept fun b o eo => hk b o (fun hmem => ?_) (Heap.get?_push_of_some _ eo), ?_, q⟩
    · rcases List.mem_cons.mp hmem with e1 | hmem
      · exact absurd (e1 ▸ Heap.lt_size eo) (Nat.lt_irrefl _)
      · cases hmem
    · show Value.bool _ = Value.bool _
      rw [List.size_toArray, el, L2.all_range]
end
end Pi

set_option Elab.async false
set_option linter.all false
set_option maxRecDepth 100000
set_option maxHeartbeats 2000000
/-! Pi B: how plain values and heaps lie in the layer's. -/
namespace Pi
open PySem PySem.Spec PyProof.Rows L2

/-- a list that nothing writes -/
def SqF (K : PySem.W.Frag) (H : Hp) (a : Addr) (xs : List V) : Prop := (∃ o, H a = some (.frz o (.lst xs))) ∨
    ∃ (o : Obj) (its : Array Value) (n : Nat), K.lookup a = some o ∧ o.cls = .type "list" ∧ o.dict = none ∧ o.data = .seq its n ∧ its.size ≤ sizeLine ∧ Vals xs its.toList
theorem SqF.sql {K : PySem.W.Frag} {H : Hp} {a : Addr} {xs : List V} (h : SqF K H a xs) : SqL K H a xs := by
  rcases h with ⟨o, h⟩ | h
  · exact .inl (.inr ⟨o, h⟩)
  · exact .inr h

structure Gd where
  K : PySem.W.Frag
  fa : Nat → Option Addr

mutual
def RV (D : Gd) (ads : List Addr) (H : Hp) : PV → V → Prop
  | .non, v => v = .non
  | .bl b, v => v = .bl b
  | .int i, v => v = .int i
  | .str x, v => v = .str x
  | .fn f, v => ∃ a, v = .ref a ∧ D.fa f = some a
  | .tup xs, v => ∃ a vs, v = .ref a ∧ SqX D.K H a vs ∧ RVs D ads H xs vs
  | .rol xs, v => ∃ a vs, v = .ref a ∧ SqF D.K H a vs ∧ RVs D ads H xs vs
  | .ref n, v => ∃ a, v = .ref a ∧ ads[n]? = some a
def RVs (D : Gd) (ads : List Addr) (H : Hp) : List PV → List V → Prop
  | [], vs => vs = []
  | x :: xs, vs => ∃ v r, vs = v :: r ∧ RV D ads H x v ∧ RVs D ads H xs r
end
def CellOk (D : Gd) (ads : List Addr) (H : Hp) (a : Addr) : Cell → Prop
  | .lst xs => ∃ vs, H a = some (.lst vs) ∧ RVs D ads H xs vs
structure HR (D : Gd) (ads : List Addr) (hp : IH) (H : Hp) : Prop where
  len : ads.length = hp.length
  nd : ads.Nodup
  ok : ∀ (n : Nat) (a : Addr) (c : Cell), ads[n]? = some a → hp[n]? = some c → CellOk D ads H a c
structure Ext (ads ads' : List Addr) (H H' : Hp) : Prop where
  pre : ∃ t, ads' = ads ++ t
  new : ∀ a ∈ ads', a ∉ ads → H a = none
  keep : ∀ a o, a ∉ ads → H a = some o → H' a = some o

section
variable {D : Gd} {ads ads1 ads2 : List Addr} {hp hp1 : IH} {H H1 H2 : Hp}
theorem HR.mut (h : HR D ads hp H) : ∀ a ∈ ads, ∃ vs, H a = some (.lst vs) := fun a ha => by
  obtain ⟨n, hn⟩ := List.getElem?_of_mem ha
  have hl : n < hp.length := by
    have := (List.getElem?_eq_some_iff.mp hn).1
    rw [← h.len]; exact this
  have q := h.ok n a _ hn (List.getElem?_eq_getElem hl)
  cases e : hp[n] with
  | lst xs =>
    rw [e] at q
    obtain ⟨vs, h1, _⟩ := q
    exact ⟨vs, h1⟩
theorem Ext.refl : Ext ads ads H H := ⟨⟨[], by simp⟩, fun a h1 h2 => absurd h1 h2, fun _ _ _ h => h⟩
theorem Ext.trans (a : Ext ads ads1 H H1) (b : Ext ads1 ads2 H1 H2) : Ext ads ads2 H H2 := by
  obtain ⟨t, ht⟩ := a.pre
  obtain ⟨u, hu⟩ := b.pre
  refine ⟨⟨t ++ u, by rw [hu, ht, List.append_assoc]⟩, fun x h1 h2 => ?_, fun x o h1 h2 => ?_⟩
  · by_cases hx : x ∈ ads1
    · exact a.new x hx h2
    · have q := b.new x h1 hx
      cases e : H x with
      | none => rfl
      | some o =>
        have z := a.keep x o h2 e
        rw [q] at z; cases z
  · have hx : x ∉ ads1 := fun hx => by
      have z := a.new x hx h1
      rw [h2] at z; cases z
    exact b.keep x o hx (a.keep x o h1 h2)
theorem Ext.sqX {K : PySem.W.Frag} {a : Addr} {vs : List V} (hm : ∀ a ∈ ads, ∃ vs, H a = some (.lst vs)) (e : Ext ads ads1 H H1) (h : SqX K H a vs) : SqX K H1 a vs := by
  rcases h with ⟨o, h, hd⟩ | h
  · exact .inl ⟨o, e.keep a _ (fun z => by obtain ⟨ws, q⟩ := hm a z; rw [h] at q; cases q) h, hd⟩
  · exact .inr h
theorem Ext.sqF {K : PySem.W.Frag} {a : Addr} {vs : List V} (hm : ∀ a ∈ ads, ∃ vs, H a = some (.lst vs)) (e : Ext ads ads1 H H1) (h : SqF K H a vs) : SqF K H1 a vs := by
  rcases h with ⟨o, h⟩ | h
  · exact .inl ⟨o, e.keep a _ (fun z => by obtain ⟨ws, q⟩ := hm a z; rw [h] at q; cases q) h⟩
  · exact .inr h
mutual
theorem RV.ext (hm : ∀ a ∈ ads, ∃ vs, H a = some (.lst vs)) (e : Ext ads ads1 H H1) : ∀ {p : PV} {v : V}, RV D ads H p v → RV D ads1 H1 p v
  | .non, _, h => by simpa [RV] using h
  | .bl _, _, h => by simpa [RV] using h
  | .int _, _, h => by simpa [RV] using h
  | .str _, _, h => by simpa [RV] using h
  | .fn _, _, h => by simpa [RV] using h
  | .tup xs, _, h => by
    simp only [RV] at h ⊢
    obtain ⟨a, vs, h1, h2, h3⟩ := h
    exact ⟨a, vs, h1, e.sqX hm h2, RVs.ext hm e h3⟩
  | .rol xs, _, h => by
    simp only [RV] at h ⊢
    obtain ⟨a, vs, h1, h2, h3⟩ := h
    exact ⟨a, vs, h1, e.sqF hm h2, RVs.ext hm e h3⟩
  | .ref n, _, h => by
    simp only [RV] at h ⊢
    obtain ⟨a, h1, h2⟩ := h
    obtain ⟨t, ht⟩ := e.pre
    refine ⟨a, h1, ?_⟩
    rw [ht, List.getElem?_append_left (List.getElem?_eq_some_iff.mp h2).1]
    exact h2
theorem RVs.ext (hm : ∀ a ∈ ads, ∃ vs, H a = some (.lst vs)) (e : Ext ads ads1 H H1) : ∀ {ps : List PV} {vs : List V}, RVs D ads H ps vs → RVs D ads1 H1 ps vs
  | [], _, h => by simpa [RVs] using h
  | p :: ps, _, h => by
    simp only [RVs] at h ⊢
    obtain ⟨v, r, h1, h2, h3⟩ := h
    exact ⟨v, r, h1, RV.ext hm e h2, RVs.ext hm e h3⟩
end
theorem RVs.length : ∀ {ps : List PV} {vs : List V}, RVs D ads H ps vs → ps.length = vs.length
  | [], _, h => by simp only [RVs] at h; subst h; rfl
  | p :: ps, _, h => by
    simp only [RVs] at h
    obtain ⟨v, r, rfl, _, h3⟩ := h
    simp [RVs.length h3]
theorem RVs.get : ∀ {ps : List PV} {vs : List V} {i : Nat} {p : PV}, RVs D ads H ps vs → ps[i]? = some p → ∃ v, vs[i]? = some v ∧ RV D ads H p v
  | [], _, _, _, _, e => by simp at e
  | p :: ps, _, 0, _, h, e => by
    simp only [RVs] at h
    obtain ⟨v, r, rfl, h2, _⟩ := h
    simp at e; subst e
    exact ⟨v, by simp, h2⟩
  | p :: ps, _, i + 1, q, h, e => by
    simp only [RVs] at h
    obtain ⟨v, r, rfl, _, h3⟩ := h
    obtain ⟨w, h4, h5⟩ := RVs.get (i := i) h3 (by simpa using e)
    exact ⟨w, by simpa using h4, h5⟩
theorem RVs.getV : ∀ {ps : List PV} {vs : List V} {i : Nat} {v : V}, RVs D ads H ps vs → vs[i]? = some v → ∃ p, ps[i]? = some p ∧ RV D ads H p v
  | [], _, _, _, h, e => by simp only [RVs] at h; subst h; simp at e
  | p :: ps, _, 0, _, h, e => by
    simp only [RVs] at h
    obtain ⟨v, r, rfl, h2, _⟩ := h
    simp at e; subst e
    exact ⟨p, by simp, h2⟩
  | p :: ps, _, i + 1, q, h, e => by
    simp only [RVs] at h
    obtain ⟨v, r, rfl, _, h3⟩ := h
    obtain ⟨w, h4, h5⟩ := RVs.getV (i := i) h3 (by simpa using e)
    exact ⟨w, by simpa using h4, h5⟩
theorem RVs.append : ∀ {ps qs : List PV} {vs ws : List V}, RVs D ads H ps vs → RVs D ads H qs ws → RVs D ads H (ps ++ qs) (vs ++ ws)
  | [], _, _, _, h, k => by simp only [RVs] at h; subst h; simpa using k
  | p :: ps, qs, _, ws, h, k => by
    simp only [RVs] at h
    obtain ⟨v, r, rfl, h2, h3⟩ := h
    show RVs D ads H (p :: (ps ++ qs)) (v :: (r ++ ws))
    simp only [RVs]
    exact ⟨v, _, rfl, h2, RVs.append h3 k⟩
theorem RVs.nil : RVs D ads H [] [] := by simp [RVs]
theorem RVs.cons {p : PV} {ps : List PV} {v : V} {vs : List V} (h : RV D ads H p v) (k : RVs D ads H ps vs) : RVs D ads H (p :: ps) (v :: vs) := by
  simp only [RVs]; exact ⟨v, vs, rfl, h, k⟩
theorem RVs.drop : ∀ {ps : List PV} {vs : List V} (n : Nat), RVs D ads H ps vs → RVs D ads H (ps.drop n) (vs.drop n)
  | _, _, 0, h => by simpa using h
  | [], _, n + 1, h => by simp only [RVs] at h; subst h; simp [RVs]
  | p :: ps, _, n + 1, h => by
    simp only [RVs] at h
    obtain ⟨v, r, rfl, _, h3⟩ := h
    simpa using RVs.drop n h3
theorem RVs.take : ∀ {ps : List PV} {vs : List V} (n : Nat), RVs D ads H ps vs → RVs D ads H (ps.take n) (vs.take n)
  | _, _, 0, h => by simp [RVs]
  | [], _, n + 1, h => by simp only [RVs] at h; subst h; simp [RVs]
  | p :: ps, _, n + 1, h => by
    simp only [RVs] at h
    obtain ⟨v, r, rfl, h2, h3⟩ := h
    simpa using RVs.cons h2 (RVs.take n h3)
theorem RVs.set : ∀ {ps : List PV} {vs : List V} (n : Nat) {p : PV} {v : V}, RV D ads H p v → RVs D ads H ps vs → RVs D ads H (ps.set n p) (vs.set n v)
  | [], _, n, _, _, _, h => by simp only [RVs] at h; subst h; simp [RVs]
  | q :: ps, _, 0, p, v, hp, h => by
    simp only [RVs] at h
    obtain ⟨w, r, rfl, h2, h3⟩ := h
    simpa using RVs.cons hp h3
  | q :: ps, _, n + 1, p, v, hp, h => by
    simp only [RVs] at h
    obtain ⟨w, r, rfl, h2, h3⟩ := h
    simpa using RVs.cons h2 (RVs.set n hp h3)
theorem RVs.reverse : ∀ {ps : List PV} {vs : List V}, RVs D ads H ps vs → RVs D ads H ps.reverse vs.reverse
  | [], _, h => by simp only [RVs] at h; subst h; simp [RVs]
  | p :: ps, _, h => by
    simp only [RVs] at h
    obtain ⟨v, r, rfl, h2, h3⟩ := h
    simpa using RVs.append (RVs.reverse h3) (RVs.cons h2 RVs.nil)
theorem RVs.rep {ps : List PV} {vs : List V} (h : RVs D ads H ps vs) : ∀ k : Nat, RVs D ads H (List.replicate k ps).flatten (List.replicate k vs).flatten
  | 0 => by simp [RVs]
  | k + 1 => by simpa [List.replicate_succ] using RVs.append h (RVs.rep h k)
theorem RVs.nil_iff {ps : List PV} {vs : List V} (h : RVs D ads H ps vs) : ps.isEmpty = vs.isEmpty := by
  have := h.length
  cases ps <;> cases vs <;> simp_all
/-- something new that is no cell of ours -/
theorem HR.fresh {p : Addr} {o : HO} (h : HR D ads hp H) (hn : H p = none) : HR D ads hp (upd H p o) ∧ Ext ads ads H (upd H p o) := by
  have np : p ∉ ads := fun z => by obtain ⟨vs, q⟩ := h.mut p z; rw [hn] at q; cases q
  have e : Ext ads ads H (upd H p o) := ⟨⟨[], by simp⟩, fun a h1 h2 => absurd h1 h2, fun a u _ q => by rw [upd_ne (ne_of_none q hn)]; exact q⟩
  refine ⟨⟨h.len, h.nd, fun n a c h1 h2 => ?_⟩, e⟩
  have q := h.ok n a c h1 h2
  have na : a ≠ p := fun z => np (z ▸ List.mem_of_getElem? h1)
  cases c with
  | lst xs =>
    obtain ⟨vs, q1, q2⟩ := q
    exact ⟨vs, by rw [upd_ne na]; exact q1, RVs.ext h.mut e q2⟩
/-- a new list -/
theorem HR.new {p : Addr} {xs : List PV} {vs : List V} (h : HR D ads hp H) (hn : H p = none) (r : RVs D ads H xs vs) : HR D (ads ++ [p]) (hp ++ [.lst xs]) (upd H p (.lst vs)) ∧ Ext ads (ads ++ [p]) H (upd H p (.lst vs)) := by
  have np : p ∉ ads := fun z => by obtain ⟨vs, q⟩ := h.mut p z; rw [hn] at q; cases q
  have e : Ext ads (ads ++ [p]) H (upd H p (.lst vs)) := ⟨⟨[p], rfl⟩, fun a h1 h2 => by
    rcases List.mem_append.mp h1 with z | z
    · exact absurd z h2
    · rw [List.mem_singleton.mp z]; exact hn, fun a u _ q => by rw [upd_ne (ne_of_none q hn)]; exact q⟩
  refine ⟨⟨by simp [h.len], List.nodup_append.mpr ⟨h.nd, by simp, fun a ha b hb z => by rw [List.mem_singleton.mp hb] at z; exact np (z ▸ ha)⟩, fun n a c h1 h2 => ?_⟩, e⟩
  by_cases hlt : n < ads.length
  · rw [List.getElem?_append_left hlt] at h1
    rw [List.getElem?_append_left (h.len ▸ hlt)] at h2
    have q := h.ok n a c h1 h2
    have na : a ≠ p := fun z => np (z ▸ List.mem_of_getElem? h1)
    cases c with
    | lst ys =>
      obtain ⟨ws, q1, q2⟩ := q
      exact ⟨ws, by rw [upd_ne na]; exact q1, RVs.ext h.mut e q2⟩
  · have hn2 : n = ads.length := by
      have := (List.getElem?_eq_some_iff.mp h1).1
      simp at this; omega
    subst hn2
    have e1 : p = a := by simpa using h1
    have e2 : Cell.lst xs = c := by rw [h.len] at h2; simpa using h2
    subst e1; subst e2
    exact ⟨vs, upd_same, RVs.ext h.mut e r⟩
/-- a list is written -/
theorem HR.write {n : Nat} {a : Addr} {ws : List V} {ys : List PV} {vs : List V} (h : HR D ads hp H) (ha : ads[n]? = some a) (hw : H a = some (.lst ws)) (r : RVs D ads H ys vs) :
    HR D ads (hp.set n (.lst ys)) (upd H a (.lst vs)) ∧ Ext ads ads H (upd H a (.lst vs)) := by
  have hm := List.mem_of_getElem? ha
  have e : Ext ads ads H (upd H a (.lst vs)) := ⟨⟨[], by simp⟩, fun a h1 h2 => absurd h1 h2, fun b u nb q => by rw [upd_ne (fun z => nb (by rw [z]; exact hm))]; exact q⟩
  refine ⟨⟨by simp [h.len], h.nd, fun m b c h1 h2 => ?_⟩, e⟩
  by_cases hmn : m = n
  · subst hmn
    rw [ha] at h1; cases h1
    have hlt : m < hp.length := by have := (List.getElem?_eq_some_iff.mp ha).1; rw [← h.len]; exact this
    rw [List.getElem?_set_self hlt] at h2; cases h2
    exact ⟨vs, upd_same, RVs.ext h.mut e r⟩
  · rw [List.getElem?_set_ne (Ne.symm hmn)] at h2
    have q := h.ok m b c h1 h2
    have nb : b ≠ a := fun z => hmn (by
      obtain ⟨l1, e1⟩ := List.getElem?_eq_some_iff.mp h1
      obtain ⟨l2, e2⟩ := List.getElem?_eq_some_iff.mp ha
      exact (List.getElem_inj h.nd).mp (e1.trans (z.trans e2.symm)))
    cases c with
    | lst xs =>
      obtain ⟨us, q1, q2⟩ := q
      exact ⟨us, by rw [upd_ne nb]; exact q1, RVs.ext h.mut e q2⟩
theorem HR.at {n : Nat} {xs : List PV} (h : HR D ads hp H) (e : lstAt hp n = some xs) : ∃ a vs, ads[n]? = some a ∧ H a = some (.lst vs) ∧ RVs D ads H xs vs := by
  unfold lstAt at e
  cases q : hp[n]? with
  | none => rw [q] at e; cases e
  | some c =>
    rw [q] at e
    cases c with
    | lst ys =>
      cases e
      have hlt : n < ads.length := by rw [h.len]; exact (List.getElem?_eq_some_iff.mp q).1
      obtain ⟨vs, h1, h2⟩ := h.ok n _ _ (List.getElem?_eq_getElem hlt) q
      exact ⟨_, vs, List.getElem?_eq_getElem hlt, h1, h2⟩
theorem HR.atRef {n : Nat} {xs : List PV} {v : V} (h : HR D ads hp H) (r : RV D ads H (.ref n) v) (e : lstAt hp n = some xs) : ∃ a vs, v = .ref a ∧ ads[n]? = some a ∧ H a = some (.lst vs) ∧ RVs D ads H xs vs := by
  simp only [RV] at r
  obtain ⟨a, rfl, h1⟩ := r
  obtain ⟨b, vs, h2, h3, h4⟩ := h.at e
  rw [h1] at h2; cases h2
  exact ⟨a, vs, rfl, h1, h3, h4⟩
theorem seq_of {p : PV} {v : V} {xs : List PV} (h : HR D ads hp H) (r : RV D ads H p v) (e : seqOf hp p = some xs) : ∃ a vs, v = .ref a ∧ (SqL D.K H a vs ∨ SqT D.K H a vs) ∧ RVs D ads H xs vs := by
  cases p with
  | tup ys =>
    cases e
    simp only [RV] at r
    obtain ⟨a, vs, h1, h2, h3⟩ := r
    exact ⟨a, vs, h1, .inr h2.sqT, h3⟩
  | rol ys =>
    cases e
    simp only [RV] at r
    obtain ⟨a, vs, h1, h2, h3⟩ := r
    exact ⟨a, vs, h1, .inl h2.sql, h3⟩
  | ref n =>
    obtain ⟨a, vs, h1, _, h3, h4⟩ := h.atRef r e
    exact ⟨a, vs, h1, .inl (SqL.of h3), h4⟩
  | non => cases e
  | bl _ => cases e
  | int _ => cases e
  | str _ => cases e
  | fn _ => cases e
theorem list_of {p : PV} {v : V} {xs : List PV} (h : HR D ads hp H) (r : RV D ads H p v) (e : listOf hp p = some xs) : ∃ a vs, v = .ref a ∧ SqL D.K H a vs ∧ RVs D ads H xs vs := by
  cases p with
  | rol ys =>
    cases e
    simp only [RV] at r
    obtain ⟨a, vs, h1, h2, h3⟩ := r
    exact ⟨a, vs, h1, h2.sql, h3⟩
  | ref n =>
    obtain ⟨a, vs, h1, _, h3, h4⟩ := h.atRef r e
    exact ⟨a, vs, h1, SqL.of h3, h4⟩
  | tup _ => cases e
  | non => cases e
  | bl _ => cases e
  | int _ => cases e
  | str _ => cases e
  | fn _ => cases e
theorem ints_of : ∀ {xs : List PV} {ns : List Int} {vs : List V}, RVs D ads H xs vs → intsP xs = some ns → vs = ns.map V.int
  | [], ns, vs, h, e => by simp only [RVs] at h; subst h; cases e; rfl
  | .int i :: xs, ns, vs, h, e => by
    simp only [RVs, RV] at h
    obtain ⟨v, r, rfl, rfl, h3⟩ := h
    simp only [intsP] at e
    cases q : intsP xs with
    | none => rw [q] at e; cases e
    | some ms =>
      rw [q] at e; cases e
      rw [ints_of h3 q]; rfl
  | .non :: _, _, _, _, e => by cases e
  | .bl _ :: _, _, _, _, e => by cases e
  | .str _ :: _, _, _, _, e => by cases e
  | .fn _ :: _, _, _, _, e => by cases e
  | .tup _ :: _, _, _, _, e => by cases e
  | .rol _ :: _, _, _, _, e => by cases e
  | .ref _ :: _, _, _, _, e => by cases e
theorem bools_of : ∀ {xs : List PV} {ns : List Bool} {vs : List V}, RVs D ads H xs vs → bools xs = some ns → TrV vs ns
  | [], ns, vs, h, e => by simp only [RVs] at h; subst h; cases e; exact .nil
  | .bl i :: xs, ns, vs, h, e => by
    simp only [RVs, RV] at h
    obtain ⟨v, r, rfl, rfl, h3⟩ := h
    simp only [bools] at e
    cases q : bools xs with
    | none => rw [q] at e; cases e
    | some ms =>
      rw [q] at e; cases e
      exact .bl _ (bools_of h3 q)
  | .int i :: xs, ns, vs, h, e => by
    simp only [RVs, RV] at h
    obtain ⟨v, r, rfl, rfl, h3⟩ := h
    simp only [bools] at e
    cases q : bools xs with
    | none => rw [q] at e; cases e
    | some ms =>
      rw [q] at e; cases e
      exact .int _ (bools_of h3 q)
  | .non :: xs, ns, vs, h, e => by
    simp only [RVs, RV] at h
    obtain ⟨v, r, rfl, rfl, h3⟩ := h
    simp only [bools] at e
    cases q : bools xs with
    | none => rw [q] at e; cases e
    | some ms =>
      rw [q] at e; cases e
      exact .non (bools_of h3 q)
  | .str _ :: _, _, _, _, e => by cases e
  | .fn _ :: _, _, _, _, e => by cases e
  | .tup _ :: _, _, _, _, e => by cases e
  | .rol _ :: _, _, _, _, e => by cases e
  | .ref _ :: _, _, _, _, e => by cases e
/-- data -/
theorem dp_of (h : HR D ads hp H) : ∀ (k : Nat) {p : PV} {v : V} {d : PyData}, RV D ads H p v → toD hp k p = some d → Dp D.K H v d := by
  intro k
  have all : ∀ (k : Nat), (∀ {p : PV} {v : V} {d : PyData}, RV D ads H p v → toD hp k p = some d → Dp D.K H v d) → ∀ {xs : List PV} {vs : List V} {ds : List PyData}, RVs D ads H xs vs → xs.mapM (toD hp k) = some ds → DpAll D.K H vs ds := by
    intro k ih xs
    induction xs with
    | nil => intro vs ds r e; simp only [RVs] at r; subst r; simp at e; subst e; exact .nil
    | cons x xs ix =>
      intro vs ds r e
      simp only [RVs] at r
      obtain ⟨v, w, rfl, h1, h2⟩ := r
      simp only [List.mapM_cons] at e
      cases e1 : toD hp k x with
      | none => rw [e1] at e; simp at e
      | some d =>
        rw [e1] at e
        cases e2 : xs.mapM (toD hp k) with
        | none => rw [e2] at e; simp at e
        | some es =>
          rw [e2] at e
          simp at e; subst e
          exact .cons (ih h1 e1) (ix h2 e2)
  induction k with
  | zero =>
    intro p v d r e
    cases p <;> simp only [toD, Option.some.injEq, reduceCtorEq] at e
    all_goals (simp only [RV] at r; subst r; subst e)
    · exact .non
    · exact .bl _
    · exact .int _
    · exact .str _
  | succ k ih =>
    intro p v d r e
    cases p with
    | non => simp only [toD, Option.some.injEq] at e; simp only [RV] at r; subst r; subst e; exact .non
    | bl b => simp only [toD, Option.some.injEq] at e; simp only [RV] at r; subst r; subst e; exact .bl _
    | int i => simp only [toD, Option.some.injEq] at e; simp only [RV] at r; subst r; subst e; exact .int _
    | str x => simp only [toD, Option.some.injEq] at e; simp only [RV] at r; subst r; subst e; exact .str _
    | fn f => simp [toD] at e
    | tup xs =>
      simp only [toD] at e
      simp only [RV] at r
      obtain ⟨a, vs, rfl, h2, h3⟩ := r
      cases q : xs.mapM (toD hp k) with
      | none => rw [q] at e; cases e
      | some ds => rw [q] at e; cases e; exact .tup h2.sqT (all k ih h3 q)
    | rol xs =>
      simp only [toD] at e
      simp only [RV] at r
      obtain ⟨a, vs, rfl, h2, h3⟩ := r
      cases q : xs.mapM (toD hp k) with
      | none => rw [q] at e; cases e
      | some ds => rw [q] at e; cases e; exact .lst h2.sql (all k ih h3 q)
    | ref n =>
      simp only [toD] at e
      cases q : lstAt hp n with
      | none => rw [q] at e; cases e
      | some xs =>
        rw [q] at e
        obtain ⟨a, vs, rfl, _, h3, h4⟩ := h.atRef r q
        simp only [Option.bind_some] at e
        cases q2 : xs.mapM (toD hp k) with
        | none => rw [q2] at e; cases e
        | some ds => rw [q2] at e; cases e; exact .lst (SqL.of h3) (all k ih h4 q2)
end

/-! ### slots -/
structure Rel (D : Gd) (ads : List Addr) (ρ : PEnv) (hp : IH) (σ : L2.St) (H : Hp) : Prop where
  hr : HR D ads hp H
  len : ρ.length = σ.length
  at_ : ∀ (i : Nat) (p : PV), ρ[i]? = some (some p) → ∃ v, σ[i]? = some (some v) ∧ RV D ads H p v
section
variable {D : Gd} {ads ads1 : List Addr} {hp hp1 : IH} {H H1 : Hp} {ρ : PEnv} {σ : L2.St}
theorem Rel.ext (r : Rel D ads ρ hp σ H) (e : Ext ads ads1 H H1) (h : HR D ads1 hp1 H1) : Rel D ads1 ρ hp1 σ H1 :=
  ⟨h, r.len, fun i p q => let ⟨v, h1, h2⟩ := r.at_ i p q; ⟨v, h1, RV.ext r.hr.mut e h2⟩⟩
theorem Rel.set {i : Nat} {p : PV} {v : V} (r : Rel D ads ρ hp σ H) (h : RV D ads H p v) : Rel D ads (ρ.set i (some p)) hp (σ.set i (some v)) H := by
  refine ⟨r.hr, by simp [r.len], fun j q e => ?_⟩
  by_cases hj : i = j
  · subst hj
    by_cases hl : i < ρ.length
    · rw [List.getElem?_set_self hl] at e; cases e
      exact ⟨v, by rw [List.getElem?_set_self (r.len ▸ hl)], h⟩
    · rw [List.getElem?_eq_none (by simpa using hl)] at e; cases e
  · rw [List.getElem?_set_ne hj] at e
    obtain ⟨w, h1, h2⟩ := r.at_ j q e
    exact ⟨w, by rw [List.getElem?_set_ne hj]; exact h1, h2⟩
theorem Rel.setN {i : Nat} (r : Rel D ads ρ hp σ H) : Rel D ads (ρ.set i none) hp (σ.set i none) H := by
  refine ⟨r.hr, by simp [r.len], fun j q e => ?_⟩
  by_cases hj : i = j
  · subst hj
    by_cases hl : i < ρ.length
    · rw [List.getElem?_set_self hl] at e; cases e
    · rw [List.getElem?_eq_none (by simpa using hl)] at e; cases e
  · rw [List.getElem?_set_ne hj] at e
    obtain ⟨w, h1, h2⟩ := r.at_ j q e
    exact ⟨w, by rw [List.getElem?_set_ne hj]; exact h1, h2⟩
theorem Rel.wipe (r : Rel D ads ρ hp σ H) : ∀ vs : List Nat, Rel D ads (wipeP ρ vs) hp (wipe σ vs) H
  | [] => r
  | v :: vs => (Rel.wipe r vs).setN
end
end Pi

set_option Elab.async false
set_option linter.all false
set_option maxRecDepth 100000
set_option maxHeartbeats 4000000
/-! Pi C: what a plain run says of a reading; operators, comparisons, built-in functions, methods. -/
namespace Pi
open PySem PySem.Spec PyProof.Rows L2

/-- how an exception lies -/
structure Dx where
  D : Gd
  cls : Nat → Option Addr
def RX (D : Gd) (ca : Nat → Option Addr) (ads : List Addr) (H : Hp) (x : XV) (cls : Value) (d : Option Addr) : Prop := ∃ C, ca x.cls = some C ∧ cls = .ref C

/-- what a plain end says -/
def Res (D : Gd) (E : List Addr → Hp → XV → IH → Prop) (ads : List Addr) (H : Hp) {α β : Type} (rel : List Addr → Hp → α → β → Prop) (Q : β → Hp → Prop) : R α → Prop
  | .ok a hp' => ∀ ads' b H', Ext ads ads' H H' → HR D ads' hp' H' → rel ads' H' a b → Q b H'
  | .ex x hp' => E ads H x hp'
  | .bad => False
/-- an exception's wish: all that may lie so -/
def Wx (D : Gd) (ca : Nat → Option Addr) (W : WX) (σ : L2.St) : List Addr → Hp → XV → IH → Prop := fun ads H x hp' => ∀ ads' H' cls d, Ext ads ads' H H' → HR D ads' hp' H' → RX D ca ads' H' x cls d → W cls d σ H'
def NoE : List Addr → Hp → XV → IH → Prop := fun _ _ _ _ => False

section
variable {D : Gd} {ca : Nat → Option Addr} {E : List Addr → Hp → XV → IH → Prop} {ads ads1 : List Addr} {H H1 : Hp} {α β γ δ : Type} {rel : List Addr → Hp → α → β → Prop} {rel' : List Addr → Hp → γ → δ → Prop}
def Up (E : List Addr → Hp → XV → IH → Prop) : Prop := ∀ ads ads1 H H1 x hp, Ext ads ads1 H H1 → E ads H x hp → E ads1 H1 x hp
theorem up_no : Up NoE := fun _ _ _ _ _ _ _ h => h
theorem up_wx {W : WX} {σ : L2.St} : Up (Wx D ca W σ) := fun _ _ _ _ _ _ e h ads' H' cls d e2 => h ads' H' cls d (e.trans e2)
theorem Res.ext (hE : Up E) {Q : β → Hp → Prop} {r : R α} (e : Ext ads ads1 H H1) (h : Res D E ads H rel Q r) : Res D E ads1 H1 rel Q r := by
  cases r with
  | ok a hp => exact fun ads' b H' e2 => h ads' b H' (e.trans e2)
  | ex x hp => exact hE _ _ _ _ _ _ e h
  | bad => exact h
/-- one after the other -/
theorem Res.bind (hE : Up E) {Q : δ → Hp → Prop} {r : R α} {k : α → IH → R γ} (h : Res D E ads H rel' Q (r.bind k)) :
    Res D E ads H rel (fun b H1 => ∃ ads1 a hp1, Ext ads ads1 H H1 ∧ HR D ads1 hp1 H1 ∧ rel ads1 H1 a b ∧ Res D E ads1 H1 rel' Q (k a hp1)) r := by
  cases r with
  | ok a hp => exact fun ads' b H' e hr q => ⟨ads', a, hp, e, hr, q, Res.ext hE e h⟩
  | ex x hp => exact h
  | bad => exact h
theorem Res.imp {Q Q' : β → Hp → Prop} {r : R α} (h : Res D E ads H rel Q r) (hq : ∀ b H', Q b H' → Q' b H') : Res D E ads H rel Q' r := by
  cases r with
  | ok a hp => exact fun ads' b H' e hr q => hq _ _ (h ads' b H' e hr q)
  | ex x hp => exact h
  | bad => exact h
end

/-- values, lists of values, bools, as related -/
abbrev relV (D : Gd) : List Addr → Hp → PV → V → Prop := fun ads H p v => RV D ads H p v
abbrev relVs (D : Gd) : List Addr → Hp → List PV → List V → Prop := fun ads H p v => RVs D ads H p v
abbrev relB : List Addr → Hp → Bool → Bool → Prop := fun _ _ b c => b = c

/-- the reading that a plain meaning gives -/
def tI (D : Gd) (ca : Nat → Option Addr) (W : WX) {α β : Type} (rel : List Addr → Hp → α → β → Prop) (m : PEnv → IH → R α) : L2.St → Hp → (β → Hp → Prop) → Prop := fun σ H Q =>
  ∃ ads ρ hp, Rel D ads ρ hp σ H ∧ Res D (Wx D ca W σ) ads H rel Q (m ρ hp)
/-- a plain answer of an operator: no exception -/
def ResO (D : Gd) (ads : List Addr) (H : Hp) (Q : VK) (o : Option (PV × IH)) : Prop := match o with
  | some (p, hp') => ∀ ads' v H', Ext ads ads' H H' → HR D ads' hp' H' → RV D ads' H' p v → Q v H'
  | none => False
theorem res_ofO {D : Gd} {E : List Addr → Hp → XV → IH → Prop} {ads : List Addr} {H : Hp} {Q : VK} {o : Option (PV × IH)} (h : Res D E ads H (relV D) Q (ofO o)) : ResO D ads H Q o := by
  cases o with
  | none => exact h
  | some q => exact h
theorem res_ofP {D : Gd} {E : List Addr → Hp → XV → IH → Prop} {ads : List Addr} {H : Hp} {Q : VK} {hp : IH} {o : Option PV} (h : Res D E ads H (relV D) Q (ofP hp o)) : ResO D ads H Q (o.map fun p => (p, hp)) := by
  cases o with
  | none => exact h
  | some q => exact h
theorem ResO.here {D : Gd} {ads : List Addr} {hp : IH} {H : Hp} {Q : VK} {p : PV} {v : V} (h : ResO D ads H Q (some (p, hp))) (hr : HR D ads hp H) (r : RV D ads H p v) : Q v H := h ads v H .refl hr r
theorem ResO.new {D : Gd} {ads : List Addr} {hp : IH} {H : Hp} {Q : VK} {xs : List PV} {vs : List V} (h : ResO D ads H Q (some (.ref hp.length, hp ++ [.lst xs]))) (hr : HR D ads hp H) (r : RVs D ads H xs vs) : ∀ p, H p = none → Q (.ref p) (upd H p (.lst vs)) := fun p hn => by
  obtain ⟨h1, h2⟩ := hr.new hn r
  exact h _ _ _ h2 h1 (by simp only [RV]; exact ⟨p, rfl, by rw [← hr.len]; simp⟩)
theorem ResO.tup {D : Gd} {ads : List Addr} {hp : IH} {H : Hp} {Q : VK} {xs : List PV} {vs : List V} (h : ResO D ads H Q (some (.tup xs, hp))) (hr : HR D ads hp H) (r : RVs D ads H xs vs) : ∀ p o, H p = none → o.dict = none → Q (.ref p) (upd H p (.frz o (.tup vs))) := fun p o hn hd => by
  obtain ⟨h1, h2⟩ := hr.fresh (o := .frz o (.tup vs)) hn
  exact h _ _ _ h2 h1 (by simp only [RV]; exact ⟨p, vs, rfl, .inl ⟨o, upd_same, hd⟩, RVs.ext hr.mut h2 r⟩)

/-! ### operators -/
/-- what is asked of two values by a plain operator -/
def r2I (D : Gd) (f : PV → PV → IH → Option (PV × IH)) : R2 := fun x y H Q => ∃ ads hp p q, HR D ads hp H ∧ RV D ads H p x ∧ RV D ads H q y ∧ ResO D ads H Q (f p q hp)
theorem OpR.imp {X : Cx} {f : Value → Value → Sem Value} {r r' : R2} (h : OpR X f r) (k : ∀ x y H Q, r' x y H Q → r x y H Q) : OpR X f r' := fun pins s σ H x y v u Q I rx ry q => h pins s σ H x y v u Q I rx ry (k _ _ _ _ q)
theorem OpR.case {X : Cx} {f : Value → Value → Sem Value} {r' : R2} (h : ∀ x y H Q, r' x y H Q → ∃ r : R2, OpR X f r ∧ r x y H Q) : OpR X f r' := fun pins s σ H x y v u Q I rx ry q => by
  obtain ⟨r, h1, h2⟩ := h _ _ _ _ q
  exact h1 pins s σ H x y v u Q I rx ry h2
theorem CallR.case {X : Cx} {f : Value} {r' : List V → Hp → VK → Prop} (h : ∀ xs H Q, r' xs H Q → ∃ r : List V → Hp → VK → Prop, CallR X f r ∧ r xs H Q) : CallR X f r' := fun pins s σ H xs us Q I rx q => by
  obtain ⟨r, h1, h2⟩ := h _ _ _ q
  exact h1 pins s σ H xs us Q I rx h2
theorem op_inT {X : Cx} (hu : X.A.units + 65 < cLine) : OpR X (compareOp .In) (fun x y H Q => ∃ d ds, Dp X.K H x d ∧ Dp X.K H y (.tuple ds) ∧ SeqAt.shaped d = true ∧ SeqAt.shaped (.list ds) = true ∧ Q (.bl (ds.any fun z => PyData.eqv z d)) H) := by
  intro pins s σ H x y v u Q I rx ry h
  obtain ⟨d, ds, hd, he, sd, se, q⟩ := h
  obtain ⟨as, r1⟩ := Dp.reads I d x v hd rx
  obtain ⟨bs, r2⟩ := Dp.reads I (.tuple ds) y u he ry
  exact SeqAt.in_tuple_reads r2 r1 (SeqAt.canLay_of_shaped se) (SeqAt.canLay_of_shaped sd) (room_in_shaped sd hu) ⟨.bl _, H, I, rfl, q⟩
theorem op_notInT {X : Cx} (hu : X.A.units + 65 < cLine) : OpR X (compareOp .NotIn) (fun x y H Q => ∃ d ds, Dp X.K H x d ∧ Dp X.K H y (.tuple ds) ∧ SeqAt.shaped d = true ∧ SeqAt.shaped (.list ds) = true ∧ Q (.bl (!ds.any fun z => PyData.eqv z d)) H) := by
  intro pins s σ H x y v u Q I rx ry h
  obtain ⟨d, ds, hd, he, sd, se, q⟩ := h
  obtain ⟨as, r1⟩ := Dp.reads I d x v hd rx
  obtain ⟨bs, r2⟩ := Dp.reads I (.tuple ds) y u he ry
  exact SeqAt.notIn_tuple_reads r2 r1 (SeqAt.canLay_of_shaped se) (SeqAt.canLay_of_shaped sd) (room_in_shaped sd hu) ⟨.bl _, H, I, rfl, q⟩
def boOf : BO → Operator
  | .add => .Add | .sub => .Sub | .mul => .Mult | .fdiv => .FloorDiv | .mod => .Mod | .pow => .Pow
section
variable {X : Cx} {D : Gd} (hK : D.K = X.K)
include hK
theorem op_bin (o : BO) : OpR X (binaryOp (boOf o)) (r2I D (binO o)) := by
  refine OpR.case fun x y H Q h => ?_
  obtain ⟨ads, hp, p, q, hr, rp, rq, h⟩ := h
  unfold binO at h
  split at h
  · simp only [RV] at rp rq; subst rp; subst rq
    exact ⟨_, op_add, _, _, rfl, rfl, h.here hr (by simp [RV])⟩
  · simp only [RV] at rp rq; subst rp; subst rq
    split at h
    · exact ⟨_, op_add_str, _, _, rfl, rfl, by assumption, h.here hr (by simp [RV])⟩
    · exact h.elim
  · simp only [RV] at rp rq
    obtain ⟨a, xs, rfl, ha, hx⟩ := rp
    obtain ⟨b, ys, rfl, hb, hy⟩ := rq
    split at h
    · rename_i hz
      rw [hx.length, hy.length] at hz
      refine ⟨_, op_catX, a, b, xs, ys, rfl, rfl, hK ▸ ha.sqT, hK ▸ hb.sqT, hz, fun e => ?_, fun e => ?_, h.tup hr (hx.append hy)⟩
      · subst e
        exact h.here hr (by simp only [RV]; exact ⟨b, ys, rfl, hb, by simpa using hx.append hy⟩)
      · subst e
        exact h.here hr (by simp only [RV]; exact ⟨a, xs, rfl, ha, by simpa using hx.append hy⟩)
    · exact h.elim
  · split at h
    · rename_i xs ys e1 e2
      split at h
      · rename_i hz
        obtain ⟨a, vs, rfl, _, h3, h4⟩ := hr.atRef rp e1
        obtain ⟨b, ws, rfl, _, h5, h6⟩ := hr.atRef rq e2
        rw [h4.length, h6.length] at hz
        exact ⟨_, op_cat, a, b, vs, ws, rfl, rfl, h3, h5, hz, h.new hr (h4.append h6)⟩
      · exact h.elim
    · exact h.elim
  · simp only [RV] at rp rq; subst rp; subst rq
    exact ⟨_, op_sub, _, _, rfl, rfl, h.here hr (by simp [RV])⟩
  · simp only [RV] at rp rq; subst rp; subst rq
    split at h
    · rename_i hb
      exact ⟨_, op_mulW, _, _, rfl, rfl, (by unfold bigOk at hb; unfold CMulW; exact of_decide_eq_true hb), h.here hr (by simp [RV])⟩
    · exact h.elim
  · simp only [RV] at rp rq; subst rq
    obtain ⟨a, xs, rfl, ha, hx⟩ := rp
    split at h
    · rename_i hz
      obtain ⟨z1, z2, z3, z4⟩ := hz
      refine ⟨_, op_repX, a, _, xs, rfl, rfl, hK ▸ ha.sqT, fun e => ?_, z2, z3, hx.length ▸ z4, h.tup hr (hx.rep _)⟩
      subst e
      rw [hx.nil_iff] at z1; cases z1
    · exact h.elim
  · simp only [RV] at rq; subst rq
    split at h
    · rename_i xs e1
      split at h
      · rename_i hz
        obtain ⟨z1, z2, z3⟩ := hz
        obtain ⟨a, vs, rfl, _, h3, h4⟩ := hr.atRef rp e1
        exact ⟨_, op_rep, a, _, vs, rfl, rfl, h3, z1, z2, h4.length ▸ z3, h.new hr (h4.rep _)⟩
      · exact h.elim
    · exact h.elim
  · simp only [RV] at rp rq; subst rp; subst rq
    split at h
    · rename_i hb
      exact ⟨_, op_fdivW, _, _, rfl, rfl, hb, h.here hr (by simp [RV])⟩
    · exact h.elim
  · simp only [RV] at rp rq; subst rp; subst rq
    split at h
    · rename_i hb
      exact ⟨_, op_mod, _, _, rfl, rfl, hb, h.here hr (by simp [RV])⟩
    · exact h.elim
  · simp only [RV] at rp rq; subst rp; subst rq
    split at h
    · rename_i hb
      exact ⟨_, op_pow, _, _, rfl, rfl, hb, h.here hr (by simp [RV])⟩
    · exact h.elim
  · exact h.elim

/-! ### comparisons -/
def coOf : CO → CmpOp
  | .eq => .Eq | .ne => .NotEq | .lt => .Lt | .le => .LtE | .gt => .Gt | .ge => .GtE | .is => .Is | .isNot => .IsNot | .inn => .In | .notIn => .NotIn
/-- what is asked of two values by a plain comparison -/
def r2C (D : Gd) (f : PV → PV → IH → Option Bool) : R2 := fun x y H Q => ∃ ads hp p q, HR D ads hp H ∧ RV D ads H p x ∧ RV D ads H q y ∧ ∃ b, f p q hp = some b ∧ Q (.bl b) H
omit hK in
theorem r2C.imp {f : PV → PV → IH → Option Bool} {g : PV → PV → IH → Option Bool} {x y : V} {H : Hp} {Q Q' : VK} (h : r2C D f x y H Q) (k : ∀ p q hp b, f p q hp = some b → Q (.bl b) H → ∃ c, g p q hp = some c ∧ Q' (.bl c) H) : r2C D g x y H Q' := by
  obtain ⟨ads, hp, p, q, h1, h2, h3, b, h4, h5⟩ := h
  exact ⟨ads, hp, p, q, h1, h2, h3, k p q hp b h4 h5⟩
theorem eq_all (hu : X.A.units + 64 < cLine) (neg : Bool) : OpR X (compareOp (if neg then .NotEq else .Eq)) (r2C D fun p q hp => (eqO hp p q).map fun b => b != neg) := by
  refine OpR.case fun x y H Q h => ?_
  obtain ⟨ads, hp, p, q, hr, rp, rq, b, e, h⟩ := h
  dsimp only at e
  have deep : ∀ {c : Bool}, eqD hp p q = some c → (c != neg) = b → ∃ r : R2, OpR X (compareOp (if neg then .NotEq else .Eq)) r ∧ r x y H Q := fun {c} e1 e2 => by
    unfold eqD at e1
    split at e1
    · rename_i d1 d2 h1 h2
      split at e1
      · rename_i hs
        cases e1
        have p1 := dp_of hr _ rp h1
        have p2 := dp_of hr _ rq h2
        rw [hK] at p1 p2
        cases neg with
        | false => exact ⟨_, op_eqD hu, d1, d2, p1, p2, hs.1, hs.2, by rw [← e2] at h; simpa using h⟩
        | true => exact ⟨_, op_neD hu, d1, d2, p1, p2, hs.1, hs.2, by rw [← e2] at h; simpa using h⟩
      · cases e1
    · cases e1
  have flat : ∀ {c : Bool}, scal x y = true → c = decide (x = y) → (c != neg) = b → ∃ r : R2, OpR X (compareOp (if neg then .NotEq else .Eq)) r ∧ r x y H Q := fun {c} e0 e1 e2 => by
    subst e1
    cases neg with
    | false => exact ⟨_, op_eq, e0, by rw [← e2] at h; simpa using h⟩
    | true => exact ⟨_, op_ne, e0, by rw [← e2] at h; simpa using h⟩
  cases e1 : eqO hp p q with
  | none => rw [e1] at e; cases e
  | some c =>
    rw [e1] at e
    have e2 : (c != neg) = b := Option.some.inj e
    unfold eqO at e1
    split at e1
    · simp only [RV] at rp rq; subst rp; subst rq
      exact flat rfl (by cases e1; simp) e2
    · simp only [RV] at rp rq; subst rp; subst rq
      exact flat rfl (by cases e1; simp) e2
    · simp only [RV] at rp rq; subst rp; subst rq
      exact flat rfl (by cases e1; simp) e2
    · exact deep e1 e2
omit hK in
theorem ltInts_of {ads : List Addr} {H : Hp} {xs ys : List PV} {vs ws : List V} {b : Bool} (h1 : RVs D ads H xs vs) (h2 : RVs D ads H ys ws) (e : ltInts xs ys = some b) : ∃ ns ms, vs = ns.map V.int ∧ ws = ms.map V.int ∧ HT.lexLt ns ms = b := by
  unfold ltInts at e
  split at e
  · rename_i ns ms e1 e2
    cases e
    exact ⟨ns, ms, ints_of h1 e1, ints_of h2 e2, rfl⟩
  · cases e
theorem op_cmp (hu : X.A.units + 65 < cLine) (o : CO) : OpR X (compareOp (coOf o)) (r2C D (cmpO o)) := by
  have intA : ∀ {op : CmpOp} {g : Int → Int → Bool} {f : PV → PV → IH → Option Bool}, OpR X (compareOp op) (rI0 fun i j => .bl (g i j)) → (∀ p q hp b, f p q hp = some b → ∃ i j, p = .int i ∧ q = .int j ∧ b = g i j) → OpR X (compareOp op) (r2C D f) := fun {op g f} ho hf => by
    refine OpR.case fun x y H Q h => ?_
    obtain ⟨ads, hp, p, q, hr, rp, rq, b, e, h⟩ := h
    obtain ⟨i, j, rfl, rfl, rfl⟩ := hf p q hp b e
    simp only [RV] at rp rq; subst rp; subst rq
    exact ⟨_, ho, i, j, rfl, rfl, h⟩
  cases o with
  | eq => exact OpR.imp (eq_all hK (by omega) false) fun x y H Q h => r2C.imp h fun p q hp b e k => ⟨b, by simp only [cmpO] at e; rw [e]; simp, k⟩
  | ne => exact OpR.imp (eq_all hK (by omega) true) fun x y H Q h => r2C.imp h fun p q hp b e k => ⟨b, by simp only [cmpO] at e; rw [← e]; cases eqO hp p q <;> simp, k⟩
  | lt =>
    refine OpR.case fun x y H Q h => ?_
    obtain ⟨ads, hp, p, q, hr, rp, rq, b, e, h⟩ := h
    simp only [cmpO] at e
    split at e
    · simp only [RV] at rp rq; subst rp; subst rq; cases e
      exact ⟨_, op_lt, _, _, rfl, rfl, h⟩
    · simp only [RV] at rp rq
      obtain ⟨a, xs, rfl, ha, hx⟩ := rp
      obtain ⟨c, ys, rfl, hb, hy⟩ := rq
      obtain ⟨ns, ms, rfl, rfl, rfl⟩ := ltInts_of hx hy e
      exact ⟨_, op_ltT (by omega), a, c, ns, ms, rfl, rfl, hK ▸ ha.sqT, hK ▸ hb.sqT, h⟩
    · cases e
  | le =>
    refine intA op_le fun p q hp b e => ?_
    · 
      simp only [cmpO] at e
      split at e
      · cases e; exact ⟨_, _, rfl, rfl, rfl⟩
      · cases e
  | gt =>
    refine intA op_gt fun p q hp b e => ?_
    · 
      simp only [cmpO] at e
      split at e
      · cases e; exact ⟨_, _, rfl, rfl, rfl⟩
      · cases e
  | ge =>
    refine intA op_ge fun p q hp b e => ?_
    · 
      simp only [cmpO] at e
      split at e
      · cases e; exact ⟨_, _, rfl, rfl, rfl⟩
      · cases e
  | is =>
    refine OpR.case fun x y H Q h => ?_
    obtain ⟨ads, hp, p, q, hr, rp, rq, b, e, h⟩ := h
    simp only [cmpO] at e
    unfold isO at e
    split at e
    · simp only [RV] at rp rq; subst rp; subst rq; cases e
      exact ⟨_, op_isBl, _, _, rfl, rfl, h⟩
    all_goals (try (cases e; done))
    all_goals (simp only [RV] at rq; subst rq; refine ⟨_, op_isN, rfl, ?_⟩; cases e)
    · simp only [RV] at rp; subst rp; exact h
    · simp only [RV] at rp; subst rp; exact h
    · simp only [RV] at rp; subst rp; exact h
    · simp only [RV] at rp; subst rp; exact h
    · simp only [RV] at rp; obtain ⟨a, vs, rfl, _⟩ := rp; exact h
    · simp only [RV] at rp; obtain ⟨a, vs, rfl, _⟩ := rp; exact h
    · simp only [RV] at rp; obtain ⟨a, rfl, _⟩ := rp; exact h
    · simp only [RV] at rp; obtain ⟨a, rfl, _⟩ := rp; exact h
  | isNot =>
    refine OpR.case fun x y H Q h => ?_
    obtain ⟨ads, hp, p, q, hr, rp, rq, b, e, h⟩ := h
    simp only [cmpO] at e
    unfold isO at e
    split at e
    · simp only [RV] at rp rq; subst rp; subst rq; cases e
      exact ⟨_, op_notBl, _, _, rfl, rfl, h⟩
    all_goals (try (cases e; done))
    all_goals (simp only [RV] at rq; subst rq; refine ⟨_, op_notN, rfl, ?_⟩; cases e)
    · simp only [RV] at rp; subst rp; exact h
    · simp only [RV] at rp; subst rp; exact h
    · simp only [RV] at rp; subst rp; exact h
    · simp only [RV] at rp; subst rp; exact h
    · simp only [RV] at rp; obtain ⟨a, vs, rfl, _⟩ := rp; exact h
    · simp only [RV] at rp; obtain ⟨a, vs, rfl, _⟩ := rp; exact h
    · simp only [RV] at rp; obtain ⟨a, rfl, _⟩ := rp; exact h
    · simp only [RV] at rp; obtain ⟨a, rfl, _⟩ := rp; exact h
  | inn =>
    refine OpR.case fun x y H Q h => ?_
    obtain ⟨ads, hp, p, q, hr, rp, rq, b, e, h⟩ := h
    simp only [cmpO] at e
    unfold inD at e
    split at e
    · rename_i d ds h1 h2
      split at e
      · rename_i hs
        cases e
        exact ⟨_, op_inD hu, d, ds, hK ▸ dp_of hr _ rp h1, hK ▸ dp_of hr _ rq h2, hs.1, hs.2, h⟩
      · cases e
    · rename_i d ds h1 h2
      split at e
      · rename_i hs
        cases e
        exact ⟨_, op_inT hu, d, ds, hK ▸ dp_of hr _ rp h1, hK ▸ dp_of hr _ rq h2, hs.1, hs.2, h⟩
      · cases e
    · cases e
  | notIn =>
    refine OpR.case fun x y H Q h => ?_
    obtain ⟨ads, hp, p, q, hr, rp, rq, b, e, h⟩ := h
    simp only [cmpO] at e
    unfold inD at e
    split at e
    · rename_i d ds h1 h2
      split at e
      · rename_i hs
        cases e
        exact ⟨_, op_notInD hu, d, ds, hK ▸ dp_of hr _ rp h1, hK ▸ dp_of hr _ rq h2, hs.1, hs.2, h⟩
      · cases e
    · rename_i d ds h1 h2
      split at e
      · rename_i hs
        cases e
        exact ⟨_, op_notInT hu, d, ds, hK ▸ dp_of hr _ rp h1, hK ▸ dp_of hr _ rq h2, hs.1, hs.2, h⟩
      · cases e
    · cases e
/-- truth -/
theorem truth_of {ads : List Addr} {hp : IH} {H : Hp} {p : PV} {v : V} {b : Bool} (hr : HR D ads hp H) (r : RV D ads H p v) (e : truO hp p = some b) : TruV X.K v H b := by
  cases p with
  | non => simp only [RV] at r; subst r; cases e; rfl
  | bl _ => simp only [RV] at r; subst r; cases e; rfl
  | int _ => simp only [RV] at r; subst r; cases e; rfl
  | str x =>
    simp only [RV] at r; subst r
    simp only [truO] at e
    split at e
    · cases e; exact ⟨by assumption, rfl⟩
    · cases e
  | fn _ => cases e
  | tup xs =>
    simp only [RV] at r
    obtain ⟨a, vs, rfl, h1, h2⟩ := r
    cases e
    exact .inr (.inl ⟨vs, hK ▸ h1.sqT, by rw [h2.nil_iff]⟩)
  | rol xs =>
    simp only [RV] at r
    obtain ⟨a, vs, rfl, h1, h2⟩ := r
    cases e
    exact .inl ⟨vs, hK ▸ h1.sql, by rw [h2.nil_iff]⟩
  | ref n =>
    simp only [truO] at e
    cases e1 : lstAt hp n with
    | none => rw [e1] at e; cases e
    | some xs =>
      rw [e1] at e; cases e
      obtain ⟨a, vs, rfl, _, h3, h4⟩ := hr.atRef r e1
      exact .inl ⟨vs, SqL.of h3, by dsimp only; rw [h4.nil_iff]⟩
end
end Pi

set_option Elab.async false
set_option linter.all false
set_option maxRecDepth 100000
set_option maxHeartbeats 4000000
/-! Pi D: t[::-1], repr, built-in functions. -/
namespace Pi
open PySem PySem.Spec PyProof.Rows L2

section
variable {prog : Program} {w : World} {A : Around} {E : Value → Shared → Prop} {s : Shared}
theorem back_all (xs : Array Value) : ((List.range xs.size).filterMap fun (k : Nat) => xs[(((xs.size : Int) - 1) + (k : Int) * (-1)).toNat]?).toArray = xs.toList.reverse.toArray := by
  congr 1
  apply List.ext_getElem?
  intro i
  have hall : ∀ (n : Nat), n ≤ xs.size → (List.range n).filterMap (fun (k : Nat) => xs[(((xs.size : Int) - 1) + (k : Int) * (-1)).toNat]?) = (List.range n).map fun k => xs.getD (xs.size - 1 - k) .none := by
    intro n
    induction n with
    | zero => intro _; rfl
    | succ n ih =>
      intro hn
      rw [List.range_succ, List.filterMap_append, ih (by omega), List.map_append]
      congr 1
      have e : (((xs.size : Int) - 1) + (n : Int) * (-1)).toNat = xs.size - 1 - n := by omega
      have hl : xs.size - 1 - n < xs.size := by omega
      have e2 : xs[(((xs.size : Int) - 1) + (n : Int) * (-1)).toNat]? = some (xs.getD (xs.size - 1 - n) .none) := by
        rw [e]; simp [Array.getD, hl]
      simp only [List.filterMap_cons, List.filterMap_nil, List.map_cons, List.map_nil, e2]
  rw [hall _ (Nat.le_refl _)]
  by_cases hi : i < xs.size
  · have h2 : xs.size - 1 - i < xs.size := by omega
    rw [List.getElem?_map, List.getElem?_range hi]
    rw [List.getElem?_reverse (by simpa using hi)]
    simp [Array.getD, h2]
  · rw [List.getElem?_eq_none (by simpa using hi), List.getElem?_eq_none (by simpa using hi)]
theorem getItem_tuple_back {t sl : Addr} {items : Array Value} {vl vu : Value} {tk : Tok} {Q : Value → Shared → Prop} (ht : IsTup s.heap t items) (hs : s.heap.IsSliceOf sl vl vu (.int (-1) tk)) (pl : IsPart vl none) (pu : IsPart vu none)
    (h : Q (.ref s.heap.objs.size) { s with heap := s.heap.push { cls := .type "tuple", data := .seq items.toList.reverse.toArray } })
    (hsz : items.size ≤ sizeLine) : wpAny (model prog w) A (getItem (.ref t) (.ref sl)) Q E s := by
  have htake : sizeOk (.seq items.toList.reverse.toArray) := by
    show items.toList.reverse.toArray.size ≤ sizeLine
    simpa using hsz
  obtain ⟨os, hos, hcs, hds⟩ := id hs
  have hTs : s.TypeIs (.ref sl) "slice" := ⟨os, hos, hcs⟩
  unfold getItem
  try with_reducible refine wpAny_holding ?_
  first | refine wpAny_bind (wpAny_pure ?_) | skip
  refine wpAny_bind (wpAny_sequenceKey ht.typeIs (by decide) ?_)
  refine wpAny_bind (wpAny_callSpecial?_slot (name := Str.ofString "__getitem__") ht.typeIs PyProof.Rows.slot_tuple_getitem
    (wpAny_call_entry PyProof.Rows.slot_tuple_getitem ht.typeIs entry_tuple_getitem ?_ (args_tuple_getitem _ _)))
  show wpAny _ _ (Builtin.Tuple.tupleItemsOf (.ref t) >>= _) _ _ s
  refine wpAny_bind (tupleItemsOf_ ht ?_)
  refine wpAny_bind (wpAny_typeOf hTs ?_)
  rw [if_pos (by decide)]
  have app : ∀ {Q' : Int × Int × Nat → Shared → Prop}, Q' ((items.size : Int) - 1, -1, items.size) s → wpAny (model prog w) A.in1 (Builtin.Slice.sliceApplied (.ref sl) (pure (items.size : Int))) Q' E s := fun {Q'} q => by
    unfold Builtin.Slice.sliceApplied Builtin.Slice.sliceFields
    refine wpAny_bind (wpAny_bind (wpAny_field hos hds (x := vl) rfl (wpAny_bind (wpAny_field hos hds (x := vu) rfl (wpAny_bind (wpAny_field hos hds (x := .int (-1) tk) rfl (wpAny_pure ?_)))))))
    refine wpAny_bind (slicePart_int ?_)
    show wpAny _ _ (if ((-1 : Int) == 0) = true then _ else _) _ _ s
    rw [if_neg (by decide)]
    refine wpAny_bind (HT.slicePart_ pl (wpAny_bind (HT.slicePart_ pu (wpAny_bind (wpAny_pure ?_)))))
    show wpAny _ _ (pure ((items.size : Int) - 1, (-1 : Int), Builtin.Slice.slicePlaces ((items.size : Int) - 1) (-1) (-1))) _ _ s
    have e : Builtin.Slice.slicePlaces ((items.size : Int) - 1) (-1) (-1) = items.size := by
      unfold Builtin.Slice.slicePlaces
      have h1 : ¬ ((-1 : Int) > 0) := by omega
      simp only [h1, if_false]
      have h2 : (- -1 : Int) = 1 := by omega
      rw [h2]
      simp only [Int.ediv_one]
      split <;> omega
    rw [e]
    exact wpAny_pure q
  refine wpAny_bind (app ?_)
  have hno : ¬ ((((items.size : Int) - 1) == 0 && (-1 : Int) == 1 && items.size == items.size) = true) := by simp
  show wpAny _ _ (if (((items.size : Int) - 1) == 0 && (-1 : Int) == 1 && items.size == items.size) = true then _ else _) _ _ s
  rw [if_neg hno, back_all]
  first
    | exact wpAny_bind (m := Builtin.Tuple.tupleExact _) (wpAny_newObj_type (wpAny_pure ⟨_, rfl, wpAny_pure h⟩) htake)
    | exact wpAny_bind (m := Builtin.Tuple.tupleExact _) (wpAny_newObj_type (wpAny_bind (wpAny_pure (wpAny_pure ⟨_, rfl, wpAny_pure h⟩))) htake)
    | exact wpAny_bind (wpAny_bind (m := Builtin.Tuple.tupleExact _) (wpAny_newObj_type (wpAny_pure (wpAny_pure ⟨_, rfl, wpAny_pure h⟩)) htake))
    | exact wpAny_bind (wpAny_bind (m := Builtin.Tuple.tupleExact _) (wpAny_newObj_type (wpAny_pure ⟨_, rfl, wpAny_pure h⟩) htake))
end
/-- t[::-1] -/
def tRevX (K : PySem.W.Frag) (te : TE) : TE := fun σ H Q => te σ H fun x H1 => ∃ a xs, x = .ref a ∧ SqT K H1 a xs ∧ ∀ p o, H1 p = none → o.dict = none → Q (.ref p) (upd H1 p (.frz o (.tup xs.reverse)))
theorem pe_revX {X : Cx} {e : Expr} {te : TE} {k : Nat} {p1 p2 p3 pos : Pos} (he : PE X e te) : PE X (.Subscript e (.Slice none none (some (.UnaryOp .USub (.Constant (.int 1) k p1) p2)) p3) pos) (tRevX X.K te) := by
  refine ⟨fun pins s σ H Q I h => ?_⟩
  refine Subscript_ (thn (he.run pins s σ H _ I h) fun v s1 ⟨x, H1, I1, r1, q1⟩ => ?_)
  obtain ⟨a, xs, ex, hx, q⟩ := q1
  subst ex
  cases r1
  have hst : PO X (some (.UnaryOp .USub (.Constant (.int 1) k p1) p2)) (tPart (tUn (rU fun i => .int (-i)) (tC (.int 1)))) := po_some (pe_un un_neg pe_int)
  refine wpAny_Slice (thn (po_none.run pins s1 σ H1 (fun o H2 => o = none ∧ H2 = H1) I1 ⟨rfl, rfl⟩) fun vl s2 ⟨l, H2, I2, pl, el, e2⟩ => ?_)
  subst el e2
  refine thn (po_none.run pins s2 σ H2 (fun o H3 => o = none ∧ H3 = H2) I2 ⟨rfl, rfl⟩) fun vu s3 ⟨u, H3, I3, pu, eu, e3⟩ => ?_
  subst eu e3
  refine thn (hst.run pins s3 σ H3 (fun o H4 => o = some (-1) ∧ H4 = H3) I3 ⟨1, rfl, -1, rfl, rfl, rfl⟩) fun vs s4 ⟨o, H4, I4, ps, eo, e4⟩ => ?_
  subst eo e4
  cases ps with
  | int _ tk =>
  have I5 : Inv X pins σ H4 { s4 with heap := s4.heap.push { cls := .type "slice", data := .fields #[vl, vu, .int (-1) tk] } } := I4.kept (t' := s4.toks) fun b ob q => Heap.get?_push_of_some _ q
  obtain ⟨its, r, ht, hz⟩ := I5.tuple hx
  have hlen := r.length
  show wpAny (model X.prog X.w) X.A (subscriptTail e (.Slice none none (some (.UnaryOp .USub (.Constant (.int 1) k p1) p2)) p3) (.ref a) (.ref s4.heap.objs.size)) (EP X pins σ Q) X.xe { s4 with heap := s4.heap.push { cls := .type "slice", data := .fields #[vl, vu, .int (-1) tk] } }
  refine tail_any (ops := [.ref a, .ref s4.heap.objs.size]) ht.typeIs (PyProof.Rows.slot_tuple_getitem.lookup) ?_ (by with_unfolding_all rfl)
  refine getItem_tuple_back ht (Heap.IsSliceOf.new _ vl vu (.int (-1) tk)) pl pu ?_ (by rw [List.size_toArray]; omega)
  exact laidX (s := { s4 with heap := s4.heap.push { cls := .type "slice", data := .fields #[vl, vu, .int (-1) tk] } }) (h0 := s4.heap.push { cls := .type "slice", data := .fields #[vl, vu, .int (-1) tk] }) (t' := s4.toks) I5 rfl r.reverse (by rw [List.length_reverse]; exact hz) q

/-! ### repr of data -/
theorem dp_no_dict {K : PySem.W.Frag} {H : Hp} : ∀ (d : PyData) (v : V), Dp K H v d → d.hasDict = false := by
  have all : ∀ (n : Nat) (d : PyData), sizeOf d ≤ n → ∀ v, Dp K H v d → d.hasDict = false := by
    intro n
    induction n with
    | zero => intro d hd; cases d <;> simp at hd
    | succ n ih =>
      intro d hd v h
      have many : ∀ (ds : List PyData) (vs : List V), sizeOf ds ≤ n → DpAll K H vs ds → PyData.hasDictAll ds = false := by
        intro ds
        induction ds with
        | nil => intro _ _ _; simp only [PyData.hasDictAll]
        | cons d ds ix =>
          intro vs hs h
          cases h with
          | cons h1 h2 =>
            simp at hs
            simp only [PyData.hasDictAll, ih d (by omega) _ h1, ix _ (by omega) h2, Bool.or_self]
      cases h with
      | non => simp only [PyData.hasDict]
      | bl b => simp only [PyData.hasDict]
      | int i => simp only [PyData.hasDict]
      | str x => simp only [PyData.hasDict]
      | lst h1 h2 => simp at hd; simp only [PyData.hasDict]; exact many _ _ (by omega) h2
      | tup h1 h2 => simp at hd; simp only [PyData.hasDict]; exact many _ _ (by omega) h2
  intro d v h
  exact all _ d (Nat.le_refl _) v h
theorem call_reprD {X : Cx} (hg : X.A.guards = some []) (hu : X.A.units + 65 < cLine) : CallR X (.builtin "repr") (fun xs H Q => ∃ v d, xs = [v] ∧ Dp X.K H v d ∧ d.showable = true ∧ d.shown.length ≤ sizeLine ∧ d.depth ≤ 64 ∧ Q (.str d.shown) H) := by
  intro pins s σ H xs us Q I r h
  obtain ⟨v, d, rfl, hd, hs, hz, hk, q⟩ := h
  obtain ⟨u, rfl, ru⟩ := vals1 r
  obtain ⟨as, rd⟩ := Dp.reads I d v u hd ru
  have nod := dp_no_dict d v hd
  have fin : ∀ (h' : Heap) (t : Tok) (tk : Nat), (∀ b o, s.heap.get? b = some o → h'.get? b = some o) → EP X pins σ Q (.str d.shown t) { s with heap := h', toks := tk } := fun h' t tk hk => ⟨.str d.shown, H, I.kept (t' := tk) hk, ⟨t, rfl⟩, q⟩
  cases hd with
  | non => cases ru; simp only [PyData.shown] at fin; exact PySem.P.repr_of_none (fin s.heap _ _ fun _ _ e => e)
  | bl b => cases ru; simp only [PyData.shown] at fin; exact PySem.P.repr_of_bool (fin s.heap _ _ fun _ _ e => e)
  | int i =>
    obtain ⟨t, rfl⟩ := ru
    simp only [PyData.shown] at fin
    exact PySem.P.repr_of_int (by simpa [PyData.showable] using hs) (fin s.heap _ _ fun _ _ e => e)
  | str x =>
    obtain ⟨t, rfl⟩ := ru
    simp only [PyData.shown] at fin hz
    exact PySem.P.repr_of_str (fin s.heap _ _ fun _ _ e => e) hz
  | lst h1 h2 =>
    cases ru
    exact repr_of_reads' rd hs (fun z => by rw [nod] at z; cases z) hg (by omega) (fun _ _ e => e) (fun h' t tk hk => fin h' t tk hk) hz
  | tup h1 h2 =>
    cases ru
    exact repr_of_reads' rd hs (fun z => by rw [nod] at z; cases z) hg (by omega) (fun _ _ e => e) (fun h' t tk hk => fin h' t tk hk) hz

/-! ### built-in functions -/
def biV : Bi → Value
  | .len => .builtin "len" | .abs => .builtin "abs" | .max => .builtin "max" | .min => .builtin "min" | .int => .type "int" | .sum => .builtin "sum" | .all => .builtin "all" | .any => .builtin "any"
  | .tuple => .type "tuple" | .list => .type "list" | .repr => .builtin "repr"
def biN : Bi → Str
  | .len => "len" | .abs => "abs" | .max => "max" | .min => "min" | .int => "int" | .sum => "sum" | .all => "all" | .any => "any" | .tuple => "tuple" | .list => "list" | .repr => "repr"
theorem biN_boot (b : Bi) : bootBuiltins (biN b) = some (biV b) := by cases b <;> decide +kernel
theorem biN_name (b : Bi) : biN b ≠ "__name__" ∧ (biN b == ("__debug__" : Str)) = false := by cases b <;> decide +kernel
section
variable {X : Cx} {D : Gd} (hK : D.K = X.K)
include hK
theorem call_bi (hc : X.calm = true) (hg : X.A.guards = some []) (hu : X.A.units + 65 < cLine) (b : Bi) : CallR X (biV b) (fun vs H Q => ∃ ads hp ps, HR D ads hp H ∧ RVs D ads H ps vs ∧ ResO D ads H Q (biO b ps hp)) := by
  refine CallR.case fun vs H Q h => ?_
  obtain ⟨ads, hp, ps, hr, rs, h⟩ := h
  unfold biO at h
  split at h
  · simp only [RVs, RV] at rs
    obtain ⟨v, r, rfl, rfl, rfl⟩ := rs
    split at h
    · exact ⟨_, call_len_str, _, rfl, by assumption, h.here hr (by simp [RV])⟩
    · exact h.elim
  · rename_i p _
    simp only [RVs] at rs
    obtain ⟨v, r, rfl, rv, rfl⟩ := rs
    cases e : seqOf hp p with
    | none => rw [e] at h; exact h.elim
    | some xs =>
      rw [e] at h
      obtain ⟨a, ws, rfl, h1, h2⟩ := seq_of hr rv e
      rw [hK] at h1
      exact ⟨_, call_len_seq, a, ws, rfl, h1, by rw [← h2.length]; exact h.here hr (by simp [RV])⟩
  · simp only [RVs, RV] at rs
    obtain ⟨v, r, rfl, rfl, rfl⟩ := rs
    exact ⟨_, call_abs, _, rfl, h.here hr (by simp [RV])⟩
  · simp only [RVs, RV] at rs
    obtain ⟨v, r, rfl, rfl, w, t, rfl, rfl, rfl⟩ := rs
    exact ⟨_, call_max2 hc, _, _, rfl, h.here hr (by simp [RV])⟩
  · simp only [RVs, RV] at rs
    obtain ⟨v, r, rfl, rfl, w, t, rfl, rfl, rfl⟩ := rs
    exact ⟨_, call_min2 hc, _, _, rfl, h.here hr (by simp [RV])⟩
  · simp only [RVs, RV] at rs
    obtain ⟨v, r, rfl, rfl, rfl⟩ := rs
    exact ⟨_, call_int1, .inl ⟨_, rfl, h.here hr (by simp [RV])⟩⟩
  · simp only [RVs, RV] at rs
    obtain ⟨v, r, rfl, rfl, rfl⟩ := rs
    exact ⟨_, call_int1, .inr ⟨_, rfl, h.here hr (by simp [RV])⟩⟩
  · rename_i p
    simp only [RVs] at rs
    obtain ⟨v, r, rfl, rv, rfl⟩ := rs
    cases e : listOf hp p with
    | none => rw [e] at h; exact h.elim
    | some xs =>
      rw [e] at h
      obtain ⟨a, ws, rfl, h1, h2⟩ := list_of hr rv e
      rw [hK] at h1
      simp only [Option.bind_some] at h
      cases e2 : intsP xs with
      | none => rw [e2] at h; exact h.elim
      | some ns =>
        rw [e2] at h
        rw [ints_of h2 e2] at h1
        exact ⟨_, cr_sum hc, a, ns, rfl, h1, h.here hr (by simp [RV])⟩
  · rename_i p
    simp only [RVs] at rs
    obtain ⟨v, r, rfl, rv, rfl⟩ := rs
    cases e : seqOf hp p with
    | none => rw [e] at h; exact h.elim
    | some xs =>
      rw [e] at h
      obtain ⟨a, ws, rfl, h1, h2⟩ := seq_of hr rv e
      rw [hK] at h1
      simp only [Option.bind_some] at h
      cases e2 : bools xs with
      | none => rw [e2] at h; exact h.elim
      | some ns =>
        rw [e2] at h
        exact ⟨_, cr_allT hc, a, ws, ns, rfl, h1, bools_of h2 e2, h.here hr (by simp [RV])⟩
  · rename_i p
    simp only [RVs] at rs
    obtain ⟨v, r, rfl, rv, rfl⟩ := rs
    cases e : seqOf hp p with
    | none => rw [e] at h; exact h.elim
    | some xs =>
      rw [e] at h
      obtain ⟨a, ws, rfl, h1, h2⟩ := seq_of hr rv e
      rw [hK] at h1
      simp only [Option.bind_some] at h
      cases e2 : bools xs with
      | none => rw [e2] at h; exact h.elim
      | some ns =>
        rw [e2] at h
        exact ⟨_, cr_anyT hc, a, ws, ns, rfl, h1, bools_of h2 e2, h.here hr (by simp [RV])⟩
  · rename_i p
    simp only [RVs] at rs
    obtain ⟨v, r, rfl, rv, rfl⟩ := rs
    cases p with
    | tup xs =>
      have rv' := rv
      simp only [RV] at rv
      obtain ⟨a, ws, rfl, h1, h2⟩ := rv
      exact ⟨_, call_tupleT, a, ws, rfl, hK ▸ h1.sqT, h.here hr rv'⟩
    | rol xs =>
      simp only [RV] at rv
      obtain ⟨a, ws, rfl, h1, h2⟩ := rv
      exact ⟨_, call_tupleX, a, ws, rfl, hK ▸ h1.sql, ResO.tup h hr h2⟩
    | ref n =>
      simp only [seqOf] at h
      cases e : lstAt hp n with
      | none => rw [e] at h; exact h.elim
      | some xs =>
        rw [e] at h
        obtain ⟨a, ws, rfl, _, h1, h2⟩ := hr.atRef rv e
        exact ⟨_, call_tupleX, a, ws, rfl, SqL.of h1, ResO.tup h hr h2⟩
    | non => exact h.elim
    | bl _ => exact h.elim
    | int _ => exact h.elim
    | str _ => exact h.elim
    | fn _ => exact h.elim
  · rename_i p
    simp only [RVs] at rs
    obtain ⟨v, r, rfl, rv, rfl⟩ := rs
    cases e : seqOf hp p with
    | none => rw [e] at h; exact h.elim
    | some xs =>
      rw [e] at h
      obtain ⟨a, ws, rfl, h1, h2⟩ := seq_of hr rv e
      rw [hK] at h1
      exact ⟨_, call_list_of, a, ws, rfl, h1, ResO.new h hr h2⟩
  · rename_i p
    simp only [RVs] at rs
    obtain ⟨v, r, rfl, rv, rfl⟩ := rs
    cases e : reprO hp p with
    | none => rw [e] at h; exact h.elim
    | some x =>
      rw [e] at h
      unfold reprO at e
      split at e
      · rename_i d e2
        split at e
        · rename_i hs
          cases e
          exact ⟨_, call_reprD hg hu, v, d, rfl, hK ▸ dp_of hr _ rv e2, hs.1, hs.2.1, hs.2.2, h.here hr (by simp [RV])⟩
        · cases e
      · cases e
  · exact h.elim
end
end Pi

set_option Elab.async false
set_option linter.all false
set_option maxRecDepth 100000
set_option maxHeartbeats 4000000
/-! Pi E: what a def promises where no repr is under way; calls; a def by its body. -/
namespace Pi
open PySem PySem.Spec PyProof.Rows L2

structure FnG (P : Program) (w : World) (K : PySem.W.Frag) (mg : Str → Option Value) (base : Heap) (k : Nat) (f : Addr) (fd : FuncData) (ps : List Str) (sp : Sp) : Prop where
  len : ∀ vs H Q E, sp vs H Q E → vs.length = ps.length
  run : ∀ (A : Around) (outer : List Env) (s : Shared) (H : Hp) (args : Args) (us : List Value) (vs : List V) (Q : VK) (E : XK), Room k A → A.guards = some [] → Env0 P w K mg base A outer s H → BindsTo s fd args (ps.zip us) → Vals vs us → sp vs H Q E →
    codeAny (model P w) A (.call (.ref f) args) (CR (L2.CX P w) outer P w H s Q E) s
theorem FnG.mono {P : Program} {w : World} {K : PySem.W.Frag} {mg : Str → Option Value} {base : Heap} {j k : Nat} {f : Addr} {fd : FuncData} {ps : List Str} {sp : Sp} (F : FnG P w K mg base j f fd ps sp) (h : j ≤ k) :
    FnG P w K mg base k f fd ps sp := ⟨F.len, fun A outer s H args us vs Q E hr => F.run A outer s H args us vs Q E (hr.mono h)⟩
section
variable {X : Cx} {k : Nat} {f : Addr} {fd : FuncData} {ps : List Str} {sp : Sp} {x : Str} {p pos : Pos} {e : Expr} {es : List Expr} {t : TA}
theorem run_fnG {pins : List (Addr × Obj)} {σ : L2.St} {H : Hp} {s : Shared} {Q : VK} {E : XK} {us : List Value} {vs : List V} (F : FnG X.prog X.w X.K X.mg X.base k f fd ps sp) (hr : Room k X.A) (hgd : X.A.guards = some []) (hb : Binds X.K fd ps []) (hx : PassesAt (L2.CX X.prog X.w) X σ E)
    (I : Inv X pins σ H s) (r : Vals vs us) (h : sp vs H Q E) : wpAny (model X.prog X.w) X.A (call (.ref f) us) (EP X pins σ Q) X.xe s := by
  have hl : us.length = ps.length := by rw [← r.length]; exact F.len _ _ _ _ h
  have b := hb s us I.kIn (by rw [List.append_nil]; exact hl)
  rw [List.append_nil] at b
  refine wpAny_call (codeAny_mono (F.run X.A X.stack s H ⟨us, []⟩ us vs Q E hr hgd I.env0 b r h) fun r s' hq => ?_)
  cases r with
  | error e => exact hx pins H s e s' I hq
  | ok fl =>
    cases fl with
    | ret u => exact I.after hq
    | next => exact False.elim hq
    | brk => exact False.elim hq
    | cont => exact False.elim hq
/-- which def is called is told by the state -/
structure Cd (X : Cx) (k : Nat) (f : Addr) (sp : Sp) : Prop where
  ex : ∃ (fd : FuncData) (ps : List Str), FnG X.prog X.w X.K X.mg X.base k f fd ps sp ∧ PySem.W.keepIn X.K (.ref f) = true ∧ Binds X.K fd ps []
theorem pe_callG {sp : L2.St → Sp} {W : WX} (hk : ∀ σ, Cd X k f (sp σ)) (hr : Room k X.A) (hgd : X.A.guards = some []) (tk : Takes X W) (hg : Gl X x) (hm : X.mg x = some (.ref f)) (ha : PA X (e :: es) t)
    (hdb : (x == ("__debug__" : Str)) = false) (he : starEach (e :: es) X.env = (false, eval e X.env) :: starEach es X.env) (hpl : (backTo pos (starEach es X.env)).any (·.1) = false) :
    PE X (.Call (.Name x p) (e :: es) [] pos) (fun σ H Q => t σ H fun vs H1 => sp σ vs H1 Q (WE W σ)) := by
  refine ⟨fun pins s σ H Q I h => ?_⟩
  obtain ⟨fd, ps, F, kp, hb⟩ := (hk σ).ex
  refine wpAny_Call_Name_kw (ld_glob I hg hm ?_ hdb)
  refine PySem.W.callWith_K (h₀ := X.base) I.ok.mod.kin kp (thn (ha.run pos pins s σ H _ I h) fun us s1 ⟨vs, H1, I1, r, q⟩ => ⟨I1.kIn, ?_⟩) he hpl
  exact run_fnG F hr hgd hb (passAt tk σ) I1 r q
theorem pe_callG0 {sp : L2.St → Sp} {W : WX} (hk : ∀ σ, Cd X k f (sp σ)) (hr : Room k X.A) (hgd : X.A.guards = some []) (tk : Takes X W) (hg : Gl X x) (hm : X.mg x = some (.ref f))
    (hdb : (x == ("__debug__" : Str)) = false) : PE X (.Call (.Name x p) [] [] pos) (fun σ H Q => sp σ [] H Q (WE W σ)) := by
  refine ⟨fun pins s σ H Q I h => ?_⟩
  obtain ⟨fd, ps, F, kp, hb⟩ := (hk σ).ex
  refine wpAny_Call_Name_kw (ld_glob I hg hm ?_ hdb)
  exact PySem.W.callWith_K0 I.kIn kp (run_fnG (us := []) F hr hgd hb (passAt tk σ) I .nil h)
/-- a local name that holds a def -/
theorem pe_callvG {i : Nat} {S : L2.St → Addr → Sp → Prop} {W : WX} (hk : ∀ σ f sp, S σ f sp → Cd X k f sp) (hr : Room k X.A) (hgd : X.A.guards = some []) (tk : Takes X W) (hN : X.N[i]? = some x) (hv : Vis X.env.scope x) (ha : PA X (e :: es) t)
    (hdb : (x == ("__debug__" : Str)) = false) (hcd : (x == ("__classdict__" : Str)) = false) (he : starEach (e :: es) X.env = (false, eval e X.env) :: starEach es X.env) (hpl : (backTo pos (starEach es X.env)).any (·.1) = false) :
    PE X (.Call (.Name x p) (e :: es) [] pos) (fun σ H Q => ∃ f sp, σ[i]? = some (some (.ref f)) ∧ S σ f sp ∧ t σ H fun vs H1 => sp vs H1 Q (WE W σ)) := by
  refine ⟨fun pins s σ H Q I h => ?_⟩
  obtain ⟨f, sp, hs, hS, ht⟩ := h
  obtain ⟨fd, ps, F, kp, hb⟩ := (hk σ f sp hS).ex
  refine wpAny_Call_Name_kw (thn ((pe_var (pos := p) hN hv hdb hcd).run pins s σ H (fun v H1 => v = .ref f ∧ H1 = H) I ⟨.ref f, hs, rfl, rfl⟩) fun u s1 ⟨v, H1, I1, r1, q1⟩ => ?_)
  obtain ⟨rfl, rfl⟩ := q1
  cases r1
  refine PySem.W.callWith_K (h₀ := X.base) I.ok.mod.kin kp (thn (ha.run pos pins s1 σ _ _ I1 ht) fun us s2 ⟨vs, H2, I2, r, q⟩ => ⟨I2.kIn, ?_⟩) he hpl
  exact run_fnG F hr hgd hb (passAt tk σ) I2 r q
end
/-- a def of the text, by its body -/
theorem fn_ofG {P : Program} {w : World} {K : PySem.W.Frag} {mg : Str → Option Value} {base : Heap} {k : Nat} {f : Addr} {name qual : Str} {params : Arguments} {body : List Stmt} {scope : Scope} {dV kV doc pm cdv ct oc : Value} {an od : Option Addr}
    {osl : Array (Option Value)} {N ps : List Str} {sp : Sp} (lk : K.lookup f = some ⟨oc, od, .func (PySem.W.fnOf name qual params body scope dV kV doc pm an cdv ct), osl⟩) (hcd : PySem.W.codeIn K cdv qual = true) (S : FnScope N ps scope)
    (len : ∀ vs H Q E, sp vs H Q E → vs.length = ps.length)
    (hbody : ∀ (A : Around) (outer : List Env) (s : Shared) (H : Hp) (vs : List V) (Q : VK) (E : XK), Room k (A.deeper (envOfC qual scope s.heap.objs.size f cdv)) → (A.deeper (envOfC qual scope s.heap.objs.size f cdv)).guards = some [] → sp vs H Q E →
      ∃ t, PSs (cxOf (L2.CX P w) P w K mg base N qual scope f cdv A outer s H E) body t ∧ t { nx := fun _ H' => Q .non H', rt := Q } (start N vs) H) :
    FnG P w K mg base (k + 1) f (PySem.W.fnOf name qual params body scope dV kV doc pm an cdv ct) ps sp := by
  refine ⟨len, fun A outer s H args us vs Q E hr hgd e0 hb r hsp => ?_⟩
  have hl := len _ _ _ _ hsp
  have KX : K.In s.heap := e0.mod.kin.keeps fun b o e => (e0.bs b o e).1
  have lim : s.heap.NoLimit := e0.mod.nolimit.keeps fun b o e => (e0.bs b o e).1
  have hkind : ∀ y ∈ ps.zip us, scope.names.lookup y.1 = some .local ∨ (scope.names.lookup y.1 = some .cell ∧ ((cellsFrom (s.heap.objs.size + 1) scope.names []).lookup y.1).isSome = true) := fun ⟨n, v⟩ hy => by
    rcases S.par n (List.of_mem_zip hy).1 with q | q
    · exact .inl q
    · exact .inr ⟨q, PySem.W.cellsFrom_some _ _ _ (.inl q)⟩
  refine codeAny_call_function hr.depth (KX _ _ lk) rfl S.co S.gen rfl (PySem.W.codeRec_of KX hcd) (hb _ _ _ _ ?_)
  refine wpAny_newFunctionEnv_cells S.kind hkind fun env he s1 x => ?_
  subst he
  refine ⟨lim.keeps x.toInCall.keep, codeAny_func ?_⟩
  obtain ⟨t, ht, hq⟩ := hbody A outer s H vs Q E (hr.deeper _) hgd hsp
  have I : Inv (cxOf (L2.CX P w) P w K mg base N qual scope f cdv A outer s H E) [] (start N vs) H s1 := inv_start S hr.hd e0 hl r x
  refine wpAny_mono (ht.run [] s1 (start N vs) H _ I hq) (fun fl s' hs => ?_) fun e s' hs => hs
  have fin : ∀ {σ' : L2.St} {H' : Hp} {v : V} {u : Value}, Inv (cxOf (L2.CX P w) P w K mg base N qual scope f cdv A outer s H E) [] σ' H' s' → RelV v u → Q v H' → CE outer P w H s Q u s' :=
    fun {σ' H' v u} J rv q => ⟨v, H', J.os, J.bare, J.base, J.hok, rv, q⟩
  cases fl with
  | ret u =>
    obtain ⟨v, σ', H', J, rv, q⟩ := hs
    exact fin J rv q
  | next =>
    obtain ⟨σ', H', J, q⟩ := hs
    exact fin (v := V.non) (u := Value.none) J rfl q
  | brk =>
    obtain ⟨_, _, _, q⟩ := hs
    exact False.elim q
  | cont =>
    obtain ⟨_, _, _, q⟩ := hs
    exact False.elim q
end Pi

set_option Elab.async false
set_option linter.all false
set_option maxRecDepth 100000
set_option maxHeartbeats 4000000
/-! Pi F: each construct's reading from its parts' plain meanings. -/
namespace Pi
open PySem PySem.Spec PyProof.Rows L2

theorem PE.imp {X : Cx} {e : Expr} {t t' : TE} (h : PE X e t) (k : ∀ σ H Q, t' σ H Q → t σ H Q) : PE X e t' := ⟨fun pins s σ H Q I q => h.run pins s σ H Q I (k σ H Q q)⟩
theorem PT.imp {X : Cx} {e : Expr} {t t' : TT} (h : PT X e t) (k : ∀ σ H Q, t' σ H Q → t σ H Q) : PT X e t' := ⟨fun pins s σ H Q I q => h.run pins s σ H Q I (k σ H Q q)⟩
theorem PW.imp {X : Cx} {e : Expr} {t t' : TT} (h : PW X e t) (k : ∀ σ H Q, t' σ H Q → t σ H Q) : PW X e t' := ⟨fun wh pins s σ H Q I q => h.run wh pins s σ H Q I (k σ H Q q)⟩
theorem PA.imp {X : Cx} {e : List Expr} {t t' : TA} (h : PA X e t) (k : ∀ σ H Q, t' σ H Q → t σ H Q) : PA X e t' := ⟨fun pos pins s σ H Q I q => h.run pos pins s σ H Q I (k σ H Q q)⟩

section
variable {X : Cx} {D : Gd} {ca : Nat → Option Addr} {W : WX} (hK : D.K = X.K)
abbrev VE (D : Gd) (ca : Nat → Option Addr) (W : WX) (m : PEnv → IH → R PV) : TE := tI D ca W (relV D) m
abbrev VT (D : Gd) (ca : Nat → Option Addr) (W : WX) (m : PEnv → IH → R Bool) : TT := tI D ca W relB m
abbrev VA (D : Gd) (ca : Nat → Option Addr) (W : WX) (m : PEnv → IH → R (List PV)) : TA := tI D ca W (relVs D) m

theorem Res.atOk {E : List Addr → Hp → XV → IH → Prop} {ads : List Addr} {H : Hp} {α β : Type} {rel : List Addr → Hp → α → β → Prop} {Q : β → Hp → Prop} {a : α} {b : β} {hp : IH} (h : Res D E ads H rel Q (.ok a hp)) (hr : HR D ads hp H) (r : rel ads H a b) : Q b H := h ads b H .refl hr r

theorem se_var {i : Nat} {x : Str} {pos : Pos} (hN : X.N[i]? = some x) (hv : Vis X.env.scope x) (hd : (x == ("__debug__" : Str)) = false) (hcd : (x == ("__classdict__" : Str)) = false) : PE X (.Name x pos) (VE D ca W fun ρ h => ofP h (ρ[i]?.join)) := by
  refine PE.imp (pe_var hN hv hd hcd) fun σ H Q h => ?_
  obtain ⟨ads, ρ, hp, rl, h⟩ := h
  try dsimp only at h
  cases e : ρ[i]? with
  | none => rw [e] at h; exact h.elim
  | some o =>
    cases o with
    | none => rw [e] at h; exact h.elim
    | some p =>
      rw [e] at h
      obtain ⟨v, h1, h2⟩ := rl.at_ i p e
      exact ⟨v, h1, h.atOk rl.hr h2⟩
theorem se_con {x : Str} {pos : Pos} {v : V} {u : Value} {p : PV} {m : PEnv → IH → R PV} (hg : Gl X x) (hm : X.mg x = some u) (r : RelV v u) (hv : ∀ ads H, RV D ads H p v) (hd : (x == ("__debug__" : Str)) = false) (he : ∀ ρ h, m ρ h = .ok p h) : PE X (.Name x pos) (VE D ca W m) := by
  refine PE.imp (pe_glob hg hm r hd) fun σ H Q h => ?_
  obtain ⟨ads, ρ, hp, rl, h⟩ := h
  try dsimp only at h
  rw [he] at h
  exact h.atOk rl.hr (hv _ _)
theorem se_int {i : Int} {j : Nat} {pos : Pos} : PE X (.Constant (.int i) j pos) (VE D ca W fun _ h => .ok (.int i) h) :=
  PE.imp pe_int fun σ H Q ⟨ads, ρ, hp, rl, h⟩ => h.atOk rl.hr (by simp [RV])
theorem se_bl {i : Bool} {j : Nat} {pos : Pos} : PE X (.Constant (.bool i) j pos) (VE D ca W fun _ h => .ok (.bl i) h) :=
  PE.imp pe_bl fun σ H Q ⟨ads, ρ, hp, rl, h⟩ => h.atOk rl.hr (by simp [RV])
theorem se_str {i : Str} {j : Nat} {pos : Pos} : PE X (.Constant (.str i) j pos) (VE D ca W fun _ h => .ok (.str i) h) :=
  PE.imp pe_str fun σ H Q ⟨ads, ρ, hp, rl, h⟩ => h.atOk rl.hr (by simp [RV])
theorem se_non {j : Nat} {pos : Pos} : PE X (.Constant .none j pos) (VE D ca W fun _ h => .ok .non h) :=
  PE.imp pe_non fun σ H Q ⟨ads, ρ, hp, rl, h⟩ => h.atOk rl.hr (by simp [RV])

variable {a b c : Expr} {ma mb mc : PEnv → IH → R PV} {pos : Pos}
theorem se_neg (ha : PE X a (VE D ca W ma)) : PE X (.UnaryOp .USub a pos) (VE D ca W fun ρ h => (ma ρ h).bind fun p h => match p with | .int i => .ok (.int (-i)) h | _ => .bad) := by
  refine PE.imp (pe_un un_neg ha) fun σ H Q h => ?_
  obtain ⟨ads, ρ, hp, rl, h⟩ := h
  try dsimp only at h
  refine ⟨ads, ρ, hp, rl, (h.bind up_wx).imp fun v H1 ⟨ads1, p, hp1, e1, hr1, rp, h1⟩ => ?_⟩
  cases p with
  | int i => simp only [relV, RV] at rp; subst rp; exact ⟨i, rfl, h1.atOk hr1 (by simp [RV])⟩
  | _ => exact h1.elim
include hK
theorem se_not (ha : PE X a (VE D ca W ma)) : PE X (.UnaryOp .Not a pos) (VE D ca W fun ρ h => (ma ρ h).bind fun p h => ofP h ((truO h p).map fun b => .bl (!b))) := by
  refine PE.imp (pe_notT ha) fun σ H Q h => ?_
  obtain ⟨ads, ρ, hp, rl, h⟩ := h
  try dsimp only at h
  refine ⟨ads, ρ, hp, rl, (h.bind up_wx).imp fun v H1 ⟨ads1, p, hp1, e1, hr1, rp, h1⟩ => ?_⟩
  cases e : truO hp1 p with
  | none => rw [e] at h1; exact h1.elim
  | some k => rw [e] at h1; exact ⟨k, truth_of hK hr1 rp e, h1.atOk hr1 (by simp [RV])⟩
theorem se_bin (o : BO) (ha : PE X a (VE D ca W ma)) (hb : PE X b (VE D ca W mb)) : PE X (.BinOp a (boOf o) b pos) (VE D ca W fun ρ h => (ma ρ h).bind fun p h => (mb ρ h).bind fun q h => ofO (binO o p q h)) := by
  refine PE.imp (pe_op (op_bin hK o) ha hb) fun σ H Q h => ?_
  obtain ⟨ads, ρ, hp, rl, h⟩ := h
  try dsimp only at h
  refine ⟨ads, ρ, hp, rl, (h.bind up_wx).imp fun v H1 ⟨ads1, p, hp1, e1, hr1, rp, h1⟩ => ?_⟩
  refine ⟨ads1, ρ, hp1, rl.ext e1 hr1, (h1.bind up_wx).imp fun w H2 ⟨ads2, q, hp2, e2, hr2, rq, h2⟩ => ?_⟩
  exact ⟨ads2, hp2, p, q, hr2, RV.ext hr1.mut e2 rp, rq, res_ofO h2⟩
theorem se_cmp (hu : X.A.units + 65 < cLine) (o : CO) (ha : PE X a (VE D ca W ma)) (hb : PE X b (VE D ca W mb)) (hm : behindInMarks (coOf o) b = false) :
    PE X (.Compare a [coOf o] [b] pos) (VE D ca W fun ρ h => (ma ρ h).bind fun p h => (mb ρ h).bind fun q h => ofP h ((cmpO o p q h).map .bl)) := by
  refine PE.imp (pe_cmpR (op_cmp hK hu o) ha hb hm) fun σ H Q h => ?_
  obtain ⟨ads, ρ, hp, rl, h⟩ := h
  try dsimp only at h
  refine ⟨ads, ρ, hp, rl, (h.bind up_wx).imp fun v H1 ⟨ads1, p, hp1, e1, hr1, rp, h1⟩ => ?_⟩
  refine ⟨ads1, ρ, hp1, rl.ext e1 hr1, (h1.bind up_wx).imp fun w H2 ⟨ads2, q, hp2, e2, hr2, rq, h2⟩ => ?_⟩
  cases e : cmpO o p q hp2 with
  | none => rw [e] at h2; exact h2.elim
  | some k => rw [e] at h2; exact ⟨ads2, hp2, p, q, hr2, RV.ext hr1.mut e2 rp, rq, k, e, h2.atOk hr2 (by simp [RV])⟩
theorem st_cmp (hu : X.A.units + 65 < cLine) (o : CO) (ha : PE X a (VE D ca W ma)) (hb : PE X b (VE D ca W mb)) (hm : behindInMarks (coOf o) b = false) :
    PT X (.Compare a [coOf o] [b] pos) (VT D ca W fun ρ h => (ma ρ h).bind fun p h => (mb ρ h).bind fun q h => ofP h (cmpO o p q h)) := by
  refine PT.imp (pt_cmpR (op_cmp hK hu o) ha hb hm) fun σ H Q h => ?_
  obtain ⟨ads, ρ, hp, rl, h⟩ := h
  try dsimp only at h
  refine ⟨ads, ρ, hp, rl, (h.bind up_wx).imp fun v H1 ⟨ads1, p, hp1, e1, hr1, rp, h1⟩ => ?_⟩
  refine ⟨ads1, ρ, hp1, rl.ext e1 hr1, (h1.bind up_wx).imp fun w H2 ⟨ads2, q, hp2, e2, hr2, rq, h2⟩ => ?_⟩
  cases e : cmpO o p q hp2 with
  | none => rw [e] at h2; exact h2.elim
  | some k => rw [e] at h2; exact ⟨ads2, hp2, p, q, hr2, RV.ext hr1.mut e2 rp, rq, k, e, k, rfl, h2.atOk hr2 rfl⟩
theorem se_chain (hu : X.A.units + 65 < cLine) (o o' : CO) (ha : PE X a (VE D ca W ma)) (hb : PE X b (VE D ca W mb)) (hc : PE X c (VE D ca W mc)) (hm : lastMarks [coOf o, coOf o'] [b, c] = false) :
    PE X (.Compare a [coOf o, coOf o'] [b, c] pos) (VE D ca W fun ρ h => (ma ρ h).bind fun p h => (mb ρ h).bind fun q h => (ofP h (cmpO o p q h)).bind fun r h => match r with
      | true => (mc ρ h).bind fun s h => ofP h ((cmpO o' q s h).map .bl)
      | false => .ok (.bl false) h) := by
  refine PE.imp (pe_chain (op_cmp hK hu o) (op_cmp hK hu o') ha hb hc hm) fun σ H Q h => ?_
  obtain ⟨ads, ρ, hp, rl, h⟩ := h
  try dsimp only at h
  refine ⟨ads, ρ, hp, rl, (h.bind up_wx).imp fun v H1 ⟨ads1, p, hp1, e1, hr1, rp, h1⟩ => ?_⟩
  refine ⟨ads1, ρ, hp1, rl.ext e1 hr1, (h1.bind up_wx).imp fun w H2 ⟨ads2, q, hp2, e2, hr2, rq, h2⟩ => ?_⟩
  cases e : cmpO o p q hp2 with
  | none => rw [e] at h2; exact h2.elim
  | some k =>
    rw [e] at h2
    refine ⟨ads2, hp2, p, q, hr2, RV.ext hr1.mut e2 rp, rq, k, e, k, rfl, ?_⟩
    cases k with
    | false => exact iteF (h2.atOk hr2 (by simp [RV]))
    | true =>
      refine iteT ⟨ads2, ρ, hp2, (rl.ext e1 hr1).ext e2 hr2, ?_⟩
      have h4 : Res D (Wx D ca W σ) ads2 H2 (relV D) Q ((mc ρ hp2).bind fun s h => ofP h ((cmpO o' q s h).map .bl)) := h2
      refine (Res.bind up_wx h4).imp fun z H3 ⟨ads3, s, hp3, e3, hr3, rs, h3⟩ => ?_
      cases e' : cmpO o' q s hp3 with
      | none => rw [e'] at h3; exact h3.elim
      | some k => rw [e'] at h3; exact ⟨ads3, hp3, q, s, hr3, RV.ext hr2.mut e3 rq, rs, k, e', h3.atOk hr3 (by simp [RV])⟩
theorem st_chain (hu : X.A.units + 65 < cLine) (o o' : CO) (ha : PE X a (VE D ca W ma)) (hb : PE X b (VE D ca W mb)) (hc : PE X c (VE D ca W mc)) (hm : lastMarks [coOf o, coOf o'] [b, c] = false) :
    PT X (.Compare a [coOf o, coOf o'] [b, c] pos) (VT D ca W fun ρ h => (ma ρ h).bind fun p h => (mb ρ h).bind fun q h => (ofP h (cmpO o p q h)).bind fun r h => match r with
      | true => (mc ρ h).bind fun s h => ofP h (cmpO o' q s h)
      | false => .ok false h) := by
  refine PT.imp (pt_chain (op_cmp hK hu o) (op_cmp hK hu o') ha hb hc hm) fun σ H Q h => ?_
  obtain ⟨ads, ρ, hp, rl, h⟩ := h
  try dsimp only at h
  refine ⟨ads, ρ, hp, rl, (h.bind up_wx).imp fun v H1 ⟨ads1, p, hp1, e1, hr1, rp, h1⟩ => ?_⟩
  refine ⟨ads1, ρ, hp1, rl.ext e1 hr1, (h1.bind up_wx).imp fun w H2 ⟨ads2, q, hp2, e2, hr2, rq, h2⟩ => ?_⟩
  cases e : cmpO o p q hp2 with
  | none => rw [e] at h2; exact h2.elim
  | some k =>
    rw [e] at h2
    refine ⟨ads2, hp2, p, q, hr2, RV.ext hr1.mut e2 rp, rq, k, e, k, rfl, ?_⟩
    cases k with
    | false => exact iteF ⟨false, rfl, h2.atOk hr2 rfl⟩
    | true =>
      refine iteT ⟨ads2, ρ, hp2, (rl.ext e1 hr1).ext e2 hr2, ?_⟩
      have h4 : Res D (Wx D ca W σ) ads2 H2 relB Q ((mc ρ hp2).bind fun s h => ofP h (cmpO o' q s h)) := h2
      refine (Res.bind up_wx h4).imp fun z H3 ⟨ads3, s, hp3, e3, hr3, rs, h3⟩ => ?_
      cases e' : cmpO o' q s hp3 with
      | none => rw [e'] at h3; exact h3.elim
      | some k => rw [e'] at h3; exact ⟨ads3, hp3, q, s, hr3, RV.ext hr2.mut e3 rq, rs, k, e', k, rfl, h3.atOk hr3 rfl⟩
omit hK in
theorem st_not {m : PEnv → IH → R Bool} (ha : PT X a (VT D ca W m)) : PT X (.UnaryOp .Not a pos) (VT D ca W fun ρ h => (m ρ h).bind fun b h => .ok (!b) h) := by
  refine PT.imp (pt_not ha) fun σ H Q h => ?_
  obtain ⟨ads, ρ, hp, rl, h⟩ := h
  try dsimp only at h
  refine ⟨ads, ρ, hp, rl, (h.bind up_wx).imp fun v H1 ⟨ads1, p, hp1, e1, hr1, rp, h1⟩ => ?_⟩
  cases rp
  exact h1.atOk hr1 rfl
theorem st_val (ha : PE X a (VE D ca W ma)) (he : ∀ whole, isTrue a X.env whole = (do let v ← whole; standAt a.pos; holding [v] (truthy v))) : PT X a (VT D ca W fun ρ h => (ma ρ h).bind fun p h => ofP h (truO h p)) := by
  refine PT.imp (pt_truth ha he) fun σ H Q h => ?_
  obtain ⟨ads, ρ, hp, rl, h⟩ := h
  try dsimp only at h
  refine ⟨ads, ρ, hp, rl, (h.bind up_wx).imp fun v H1 ⟨ads1, p, hp1, e1, hr1, rp, h1⟩ => ?_⟩
  cases e : truO hp1 p with
  | none => rw [e] at h1; exact h1.elim
  | some k => rw [e] at h1; exact ⟨k, truth_of hK hr1 rp e, h1.atOk hr1 rfl⟩
omit hK in
theorem se_ite {m : PEnv → IH → R Bool} (hc : PT X c (VT D ca W m)) (ha : PE X a (VE D ca W ma)) (hb : PE X b (VE D ca W mb)) : PE X (.IfExp c a b pos) (VE D ca W fun ρ h => (m ρ h).bind fun t h => match t with | true => ma ρ h | false => mb ρ h) := by
  refine PE.imp (pe_ifExp hc ha hb) fun σ H Q h => ?_
  obtain ⟨ads, ρ, hp, rl, h⟩ := h
  try dsimp only at h
  refine ⟨ads, ρ, hp, rl, (h.bind up_wx).imp fun v H1 ⟨ads1, p, hp1, e1, hr1, rp, h1⟩ => ?_⟩
  cases rp
  cases v with
  | true => exact iteT ⟨ads1, ρ, hp1, rl.ext e1 hr1, h1⟩
  | false => exact iteF ⟨ads1, ρ, hp1, rl.ext e1 hr1, h1⟩
/-! ### argument lists, displays -/
omit hK in
theorem sa_nil : PA X [] (VA D ca W fun _ h => .ok [] h) := PA.imp pa_nil fun σ H Q ⟨ads, ρ, hp, rl, h⟩ => h.atOk rl.hr RVs.nil
omit hK in
theorem sa_cons {es : List Expr} {ms : PEnv → IH → R (List PV)} (ha : PE X a (VE D ca W ma)) (hr : PA X es (VA D ca W ms)) (hs : starEach (a :: es) X.env = (false, eval a X.env) :: starEach es X.env) :
    PA X (a :: es) (VA D ca W fun ρ h => (ma ρ h).bind fun p h => (ms ρ h).bind fun ps h => .ok (p :: ps) h) := by
  refine PA.imp (pa_cons ha hr hs) fun σ H Q h => ?_
  obtain ⟨ads, ρ, hp, rl, h⟩ := h
  try dsimp only at h
  refine ⟨ads, ρ, hp, rl, (h.bind up_wx).imp fun v H1 ⟨ads1, p, hp1, e1, hr1, rp, h1⟩ => ?_⟩
  refine ⟨ads1, ρ, hp1, rl.ext e1 hr1, (h1.bind up_wx).imp fun w H2 ⟨ads2, q, hp2, e2, hr2, rq, h2⟩ => ?_⟩
  exact h2.atOk hr2 (RVs.cons (RV.ext hr1.mut e2 rp) rq)
omit hK in
theorem se_tup {es : List Expr} {k : Nat} {ms : PEnv → IH → R (List PV)} (ha : PA X es (VA D ca W ms)) : PE X (.Tuple es k pos) (VE D ca W fun ρ h => (ms ρ h).bind fun ps h => if ps.length ≤ sizeLine then .ok (.tup ps) h else .bad) := by
  refine PE.imp (pe_tupX ha) fun σ H Q h => ?_
  obtain ⟨ads, ρ, hp, rl, h⟩ := h
  try dsimp only at h
  refine ⟨ads, ρ, hp, rl, (h.bind up_wx).imp fun v H1 ⟨ads1, p, hp1, e1, hr1, rp, h1⟩ => ?_⟩
  split at h1
  · rename_i hz
    rw [RVs.length rp] at hz
    exact ⟨hz, ResO.tup (show ResO D ads1 H1 Q (some (.tup p, hp1)) from h1) hr1 rp⟩
  · exact h1.elim
omit hK in
theorem se_lst {es : List Expr} {ms : PEnv → IH → R (List PV)} (ha : PA X es (VA D ca W ms)) : PE X (.List es pos) (VE D ca W fun ρ h => (ms ρ h).bind fun ps h => if ps.length ≤ sizeLine then .ok (.ref h.length) (h ++ [.lst ps]) else .bad) := by
  refine PE.imp (pe_lst ha) fun σ H Q h => ?_
  obtain ⟨ads, ρ, hp, rl, h⟩ := h
  try dsimp only at h
  refine ⟨ads, ρ, hp, rl, (h.bind up_wx).imp fun v H1 ⟨ads1, p, hp1, e1, hr1, rp, h1⟩ => ?_⟩
  split at h1
  · rename_i hz
    rw [RVs.length rp] at hz
    exact ⟨hz, ResO.new (show ResO D ads1 H1 Q (some (.ref hp1.length, hp1 ++ [.lst p])) from h1) hr1 rp⟩
  · exact h1.elim
/-! ### subscripts, slices -/
theorem ix_all : IxR X (fun x y H Q => ∃ ads hp p q, HR D ads hp H ∧ RV D ads H p x ∧ RV D ads H q y ∧ ResO D ads H Q ((ixO p q hp).map fun r => (r, hp))) := by
  intro value slice pins s σ H x y v u Q I rx ry h hs
  obtain ⟨ads, hp, p, q, hr, rp, rq, h⟩ := h
  unfold ixO at h
  split at h
  · simp only [RV] at rp rq; subst rp; subst rq
    split at h
    · rename_i z i hz
      cases e : atI z.cps.toList i with
      | none => rw [e] at h; exact h.elim
      | some c => rw [e] at h; exact ix_str value slice pins s σ H _ _ v u Q I rx ry ⟨z, i, c, rfl, rfl, hz, e, h.here hr (by simp [RV])⟩ hs
    · exact h.elim
  · rename_i i _
    simp only [RV] at rq; subst rq
    cases e : seqOf hp p with
    | none => rw [e] at h; exact h.elim
    | some xs =>
      rw [e] at h
      obtain ⟨a, vs, rfl, h1, h2⟩ := seq_of hr rp e
      simp only [Option.bind_some] at h
      cases e2 : atI xs i with
      | none => rw [e2] at h; exact h.elim
      | some r =>
        rw [e2] at h
        have hv : ∃ w, atI vs i = some w ∧ RV D ads H r w := by
          unfold atI at e2 ⊢
          rw [← h2.length]
          cases e3 : ixN xs.length i with
          | none => rw [e3] at e2; cases e2
          | some j => rw [e3] at e2; exact h2.get e2
        obtain ⟨w, e3, h3⟩ := hv
        rw [hK] at h1
        rcases h1 with h1 | h1
        · exact ix_list value slice pins s σ H _ _ v u Q I rx ry ⟨a, vs, i, w, rfl, rfl, h1, e3, h.here hr h3⟩ hs
        · exact ix_tup value slice pins s σ H _ _ v u Q I rx ry ⟨a, vs, i, w, rfl, rfl, h1, e3, h.here hr h3⟩ hs
  · exact h.elim
theorem se_ix (ha : PE X a (VE D ca W ma)) (hb : PE X b (VE D ca W mb)) (hs : PlainIx b) : PE X (.Subscript a b pos) (VE D ca W fun ρ h => (ma ρ h).bind fun p h => (mb ρ h).bind fun q h => ofP h (ixO p q h)) := by
  refine PE.imp (pe_ix (ix_all hK) ha hb hs) fun σ H Q h => ?_
  obtain ⟨ads, ρ, hp, rl, h⟩ := h
  try dsimp only at h
  refine ⟨ads, ρ, hp, rl, (h.bind up_wx).imp fun v H1 ⟨ads1, p, hp1, e1, hr1, rp, h1⟩ => ?_⟩
  refine ⟨ads1, ρ, hp1, rl.ext e1 hr1, (h1.bind up_wx).imp fun w H2 ⟨ads2, q, hp2, e2, hr2, rq, h2⟩ => ?_⟩
  exact ⟨ads2, hp2, p, q, hr2, RV.ext hr1.mut e2 rp, rq, res_ofP h2⟩
theorem cut_of {ads : List Addr} {H : Hp} {xs : List PV} {vs : List V} (h : RVs D ads H xs vs) (lo hi : Option Int) : RVs D ads H (cutP xs lo hi) (cutV vs lo hi) := by
  unfold cutP cutV
  rw [h.length]
  exact (h.drop _).take _
theorem sl_all : SlR X (fun x lo hi H Q => ∃ ads hp p, HR D ads hp H ∧ RV D ads H p x ∧ ResO D ads H Q (slO p lo hi hp)) := by
  intro pins s σ H x v vl vu lo hi sl Q I rx hs pl pu h
  obtain ⟨ads, hp, p, hr, rp, h⟩ := h
  unfold slO at h
  split at h
  · simp only [RV] at rp
    obtain ⟨a, vs, rfl, h1, h2⟩ := rp
    refine sl_tupX pins s σ H _ v vl vu lo hi sl Q I rx hs pl pu ⟨a, vs, rfl, hK ▸ h1.sqT, fun e => ?_, h.tup hr (cut_of hK h2 lo hi)⟩
    have ec : cutV vs lo hi = vs := by unfold cutV; rw [e.1, e.2]; simp
    exact h.here hr (by simp only [RV]; exact ⟨a, vs, rfl, h1, ec ▸ cut_of hK h2 lo hi⟩)
  · simp only [RV] at rp
    obtain ⟨a, vs, rfl, h1, h2⟩ := rp
    exact sl_list pins s σ H _ v vl vu lo hi sl Q I rx hs pl pu ⟨a, vs, rfl, hK ▸ h1.sql, h.new hr (cut_of hK h2 lo hi)⟩
  · rename_i n
    cases e : lstAt hp n with
    | none => rw [e] at h; exact h.elim
    | some xs =>
      rw [e] at h
      obtain ⟨a, vs, rfl, _, h1, h2⟩ := hr.atRef rp e
      exact sl_list pins s σ H _ v vl vu lo hi sl Q I rx hs pl pu ⟨a, vs, rfl, SqL.of h1, ResO.new h hr (cut_of hK h2 lo hi)⟩
  · exact h.elim
theorem se_slF {p2 : Pos} (ha : PE X a (VE D ca W ma)) (hb : PE X b (VE D ca W mb)) : PE X (.Subscript a (.Slice (some b) none none p2) pos) (VE D ca W fun ρ h => (ma ρ h).bind fun p h => (mb ρ h).bind fun q h => match q with | .int i => ofO (slO p (some i) none h) | _ => .bad) := by
  refine PE.imp (pe_slice (sl_all hK) ha (po_some hb) po_none) fun σ H Q h => ?_
  obtain ⟨ads, ρ, hp, rl, h⟩ := h
  try dsimp only at h
  refine ⟨ads, ρ, hp, rl, (h.bind up_wx).imp fun v H1 ⟨ads1, p, hp1, e1, hr1, rp, h1⟩ => ?_⟩
  refine ⟨ads1, ρ, hp1, rl.ext e1 hr1, (h1.bind up_wx).imp fun w H2 ⟨ads2, q, hp2, e2, hr2, rq, h2⟩ => ?_⟩
  cases q with
  | int i => simp only [relV, RV] at rq; subst rq; exact ⟨i, rfl, ads2, hp2, p, hr2, RV.ext hr1.mut e2 rp, res_ofO h2⟩
  | _ => exact h2.elim
theorem se_slT {p2 : Pos} (ha : PE X a (VE D ca W ma)) (hb : PE X b (VE D ca W mb)) : PE X (.Subscript a (.Slice none (some b) none p2) pos) (VE D ca W fun ρ h => (ma ρ h).bind fun p h => (mb ρ h).bind fun q h => match q with | .int i => ofO (slO p none (some i) h) | _ => .bad) := by
  refine PE.imp (pe_slice (sl_all hK) ha po_none (po_some hb)) fun σ H Q h => ?_
  obtain ⟨ads, ρ, hp, rl, h⟩ := h
  try dsimp only at h
  refine ⟨ads, ρ, hp, rl, (h.bind up_wx).imp fun v H1 ⟨ads1, p, hp1, e1, hr1, rp, h1⟩ => ?_⟩
  refine ⟨ads1, ρ, hp1, rl.ext e1 hr1, (h1.bind up_wx).imp fun w H2 ⟨ads2, q, hp2, e2, hr2, rq, h2⟩ => ?_⟩
  cases q with
  | int i => simp only [relV, RV] at rq; subst rq; exact ⟨i, rfl, ads2, hp2, p, hr2, RV.ext hr1.mut e2 rp, res_ofO h2⟩
  | _ => exact h2.elim
theorem se_slB {p2 : Pos} (ha : PE X a (VE D ca W ma)) (hb : PE X b (VE D ca W mb)) (hc : PE X c (VE D ca W mc)) : PE X (.Subscript a (.Slice (some b) (some c) none p2) pos)
    (VE D ca W fun ρ h => (ma ρ h).bind fun p h => (mb ρ h).bind fun q h => match q with | .int i => (mc ρ h).bind fun r h => (match r with | .int j => ofO (slO p (some i) (some j) h) | _ => .bad) | _ => .bad) := by
  refine PE.imp (pe_slice (sl_all hK) ha (po_some hb) (po_some hc)) fun σ H Q h => ?_
  obtain ⟨ads, ρ, hp, rl, h⟩ := h
  try dsimp only at h
  refine ⟨ads, ρ, hp, rl, (h.bind up_wx).imp fun v H1 ⟨ads1, p, hp1, e1, hr1, rp, h1⟩ => ?_⟩
  refine ⟨ads1, ρ, hp1, rl.ext e1 hr1, (h1.bind up_wx).imp fun w H2 ⟨ads2, q, hp2, e2, hr2, rq, h2⟩ => ?_⟩
  have rl2 := (rl.ext e1 hr1).ext e2 hr2
  have rp2 := RV.ext hr1.mut e2 rp
  cases q with
  | int i =>
    simp only [relV, RV] at rq; subst rq
    refine ⟨i, rfl, ads2, ρ, hp2, rl2, (Res.bind up_wx h2).imp fun z H3 ⟨ads3, r, hp3, e3, hr3, rr, h3⟩ => ?_⟩
    cases r with
    | int j => simp only [relV, RV] at rr; subst rr; exact ⟨j, rfl, ads3, hp3, p, hr3, RV.ext hr2.mut e3 rp2, res_ofO h3⟩
    | _ => exact h3.elim
  | _ => exact h2.elim
theorem se_slN {p2 : Pos} (ha : PE X a (VE D ca W ma)) : PE X (.Subscript a (.Slice none none none p2) pos) (VE D ca W fun ρ h => (ma ρ h).bind fun p h => ofO (slO p none none h)) := by
  refine PE.imp (pe_slice (sl_all hK) ha po_none po_none) fun σ H Q h => ?_
  obtain ⟨ads, ρ, hp, rl, h⟩ := h
  try dsimp only at h
  refine ⟨ads, ρ, hp, rl, (h.bind up_wx).imp fun v H1 ⟨ads1, p, hp1, e1, hr1, rp, h1⟩ => ?_⟩
  exact ⟨ads1, hp1, p, hr1, rp, res_ofO h1⟩
theorem se_rev {k : Nat} {p1 p2 p3 : Pos} (ha : PE X a (VE D ca W ma)) : PE X (.Subscript a (.Slice none none (some (.UnaryOp .USub (.Constant (.int 1) k p1) p2)) p3) pos) (VE D ca W fun ρ h => (ma ρ h).bind fun p h => ofO (revO p h)) := by
  refine PE.imp (pe_revX ha) fun σ H Q h => ?_
  obtain ⟨ads, ρ, hp, rl, h⟩ := h
  try dsimp only at h
  refine ⟨ads, ρ, hp, rl, (h.bind up_wx).imp fun v H1 ⟨ads1, p, hp1, e1, hr1, rp, h1⟩ => ?_⟩
  cases p with
  | tup xs =>
    simp only [relV, RV] at rp
    obtain ⟨a, vs, rfl, h2, h3⟩ := rp
    exact ⟨a, vs, rfl, hK ▸ h2.sqT, ResO.tup (res_ofO h1) hr1 h3.reverse⟩
  | _ => exact h1.elim
end
end Pi

set_option Elab.async false
set_option linter.all false
set_option maxRecDepth 100000
set_option maxHeartbeats 4000000
/-! Pi G: calls, and | or, methods, what is walked, comprehensions. -/
namespace Pi
open PySem PySem.Spec PyProof.Rows L2

/-! ### calls -/
def WxE (D : Gd) (ca : Nat → Option Addr) (E : XK) : List Addr → Hp → XV → IH → Prop := fun ads H x hp' => ∀ ads' H' cls d, Ext ads ads' H H' → HR D ads' hp' H' → RX D ca ads' H' x cls d → E cls d H'
/-- the promise of a def of the table -/
def spC (D : Gd) (ca : Nat → Option Addr) (n : Nat) (m : List PV → IH → R PV) : Sp := fun vs H Q E => vs.length = n ∧ ∃ ads hp ps, HR D ads hp H ∧ RVs D ads H ps vs ∧ Res D (WxE D ca E) ads H (relV D) Q (m ps hp)
structure Defs (X : Cx) (D : Gd) (ca : Nat → Option Addr) (k : Nat) (C : Nat → List PV → IH → R PV) : Prop where
  ok : ∀ f a, D.fa f = some a → ∃ n, Cd X k a (spC D ca n (C f)) ∧ ∀ ps h, ps.length ≠ n → C f ps h = .bad
section
variable {X : Cx} {D : Gd} {ca : Nat → Option Addr} {W : WX} {k : Nat} {C : Nat → List PV → IH → R PV} {x : Str} {p pos : Pos} {e : Expr} {es : List Expr} {ms : PEnv → IH → R (List PV)}
theorem se_call {f : Nat} {a : Addr} (hD : Defs X D ca k C) (hf : D.fa f = some a) (hr : Room k X.A) (hgd : X.A.guards = some []) (tk : Takes X W) (hg : Gl X x) (hm : X.mg x = some (.ref a)) (ha : PA X (e :: es) (VA D ca W ms))
    (hdb : (x == ("__debug__" : Str)) = false) (he : starEach (e :: es) X.env = (false, eval e X.env) :: starEach es X.env) (hpl : (backTo pos (starEach es X.env)).any (·.1) = false) :
    PE X (.Call (.Name x p) (e :: es) [] pos) (VE D ca W fun ρ h => (ms ρ h).bind fun ps h => C f ps h) := by
  obtain ⟨n, hc, hn⟩ := hD.ok f a hf
  refine PE.imp (pe_callG (sp := fun _ => spC D ca n (C f)) (fun _ => hc) hr hgd tk hg hm ha hdb he hpl) fun σ H Q h => ?_
  obtain ⟨ads, ρ, hp, rl, h⟩ := h
  refine ⟨ads, ρ, hp, rl, (Res.bind up_wx h).imp fun vs H1 ⟨ads1, ps, hp1, e1, hr1, rp, h1⟩ => ?_⟩
  refine ⟨?_, ads1, hp1, ps, hr1, rp, h1⟩
  rw [← RVs.length rp]
  exact Classical.byContradiction fun z => by rw [hn ps hp1 z] at h1; exact h1
theorem se_call0 {f : Nat} {a : Addr} (hD : Defs X D ca k C) (hf : D.fa f = some a) (hr : Room k X.A) (hgd : X.A.guards = some []) (tk : Takes X W) (hg : Gl X x) (hm : X.mg x = some (.ref a))
    (hdb : (x == ("__debug__" : Str)) = false) : PE X (.Call (.Name x p) [] [] pos) (VE D ca W fun _ h => C f [] h) := by
  obtain ⟨n, hc, hn⟩ := hD.ok f a hf
  refine PE.imp (pe_callG0 (sp := fun _ => spC D ca n (C f)) (fun _ => hc) hr hgd tk hg hm hdb) fun σ H Q h => ?_
  obtain ⟨ads, ρ, hp, rl, h⟩ := h
  refine ⟨?_, ads, hp, [], rl.hr, RVs.nil, h⟩
  exact Classical.byContradiction fun z => by
    have h' : Res D (Wx D ca W σ) ads H (relV D) Q (C f [] hp) := h
    rw [hn [] hp z] at h'; exact h'
theorem se_callv {i : Nat} (hD : Defs X D ca k C) (hr : Room k X.A) (hgd : X.A.guards = some []) (tk : Takes X W) (hN : X.N[i]? = some x) (hv : Vis X.env.scope x) (ha : PA X (e :: es) (VA D ca W ms))
    (hdb : (x == ("__debug__" : Str)) = false) (hcd : (x == ("__classdict__" : Str)) = false) (he : starEach (e :: es) X.env = (false, eval e X.env) :: starEach es X.env) (hpl : (backTo pos (starEach es X.env)).any (·.1) = false) :
    PE X (.Call (.Name x p) (e :: es) [] pos) (VE D ca W fun ρ h => match ρ[i]?.join with | some (.fn f) => (ms ρ h).bind fun ps h => C f ps h | _ => .bad) := by
  refine PE.imp (pe_callvG (k := k) (i := i) (S := fun _ f sp => ∃ g n, D.fa g = some f ∧ sp = spC D ca n (C g) ∧ Cd X k f (spC D ca n (C g))) (fun σ f sp ⟨g, n, h1, h2, h3⟩ => by rw [h2]; exact h3) hr hgd tk hN hv ha hdb hcd he hpl) fun σ H Q h => ?_
  obtain ⟨ads, ρ, hp, rl, h⟩ := h
  dsimp only at h
  cases e1 : ρ[i]?.join with
  | none => rw [e1] at h; exact h.elim
  | some q =>
    rw [e1] at h
    cases q with
    | fn g =>
      have e2 : ρ[i]? = some (some (.fn g)) := by
        cases e3 : ρ[i]? with
        | none => rw [e3] at e1; cases e1
        | some o => rw [e3] at e1; have : o = some (.fn g) := e1; rw [this]
      obtain ⟨v, h1, h2⟩ := rl.at_ i _ e2
      simp only [RV] at h2
      obtain ⟨a, rfl, hf⟩ := h2
      obtain ⟨n, hc, hn⟩ := hD.ok g a hf
      refine ⟨a, spC D ca n (C g), h1, ⟨g, n, hf, rfl, hc⟩, ads, ρ, hp, rl, (Res.bind up_wx h).imp fun vs H1 ⟨ads1, ps, hp1, e1, hr1, rp, h1⟩ => ?_⟩
      refine ⟨?_, ads1, hp1, ps, hr1, rp, h1⟩
      rw [← RVs.length rp]
      exact Classical.byContradiction fun z => by rw [hn ps hp1 z] at h1; exact h1
    | _ => exact h.elim
theorem se_bi (hK : D.K = X.K) (hc : X.calm = true) (hgd : X.A.guards = some []) (hu : X.A.units + 65 < cLine) (b : Bi) (hg : Gl X (biN b)) (hm : X.mg (biN b) = none) (ha : PA X (e :: es) (VA D ca W ms))
    (he : starEach (e :: es) X.env = (false, eval e X.env) :: starEach es X.env) (hpl : (backTo pos (starEach es X.env)).any (·.1) = false) :
    PE X (.Call (.Name (biN b) p) (e :: es) [] pos) (VE D ca W fun ρ h => (ms ρ h).bind fun ps h => ofO (biO b ps h)) := by
  have all : ∃ r : List V → Hp → VK → Prop, PE X (.Call (.Name (biN b) p) (e :: es) [] pos) (tCB r (VA D ca W ms)) ∧ r = (fun vs H Q => ∃ ads hp ps, HR D ads hp H ∧ RVs D ads H ps vs ∧ ResO D ads H Q (biO b ps hp)) := by
    have c := call_bi hK hc hgd hu b
    have hv := biN_boot b
    obtain ⟨hn, hdb⟩ := biN_name b
    refine ⟨_, ?_, rfl⟩
    cases b
    all_goals first
      | exact pe_callB c hg hm hv ha hn hdb he hpl
      | exact pe_callTy c hg hm hv ha hn hdb he hpl
  obtain ⟨r, h1, h2⟩ := all
  refine PE.imp h1 fun σ H Q h => ?_
  obtain ⟨ads, ρ, hp, rl, h⟩ := h
  refine ⟨ads, ρ, hp, rl, (Res.bind up_wx h).imp fun vs H1 ⟨ads1, ps, hp1, e1, hr1, rp, h1⟩ => ?_⟩
  rw [h2]
  exact ⟨ads1, hp1, ps, hr1, rp, res_ofO h1⟩
def tyKnown (t : String) : Bool := t == "int" || t == "bool" || t == "tuple" || t == "str" || t == "list" || t == "dict"
theorem ty_boot {t : String} (h : tyKnown t = true) : bootBuiltins (Str.ofString t) = some (.type t) ∧ Str.ofString t ≠ "__name__" ∧ (Str.ofString t == ("__debug__" : Str)) = false := by
  unfold tyKnown at h
  simp only [Bool.or_eq_true, beq_iff_eq] at h
  rcases h with ((((h | h) | h) | h) | h) | h <;> subst h <;> decide +kernel
theorem ty_of {ads : List Addr} {hp : IH} {H : Hp} {q : PV} {v : V} {t : String} (hK : D.K = X.K) (hr : HR D ads hp H) (r : RV D ads H q v) (e : tyN hp q = some t) : TyX X.K H v (.type t) := by
  cases q with
  | non => simp only [RV] at r; subst r; cases e; exact .base .non
  | bl _ => simp only [RV] at r; subst r; cases e; exact .base (.bl _)
  | int _ => simp only [RV] at r; subst r; cases e; exact .base (.int _)
  | str _ => simp only [RV] at r; subst r; cases e; exact .base (.str _)
  | fn _ => cases e
  | tup xs =>
    simp only [RV] at r
    obtain ⟨a, vs, rfl, h, _⟩ := r
    cases e
    rcases h with ⟨o, h, _⟩ | ⟨o, its, n, h1, h2, _⟩
    · exact .fTuple h
    · rw [hK] at h1; exact .kTuple h1 h2
  | rol xs =>
    simp only [RV] at r
    obtain ⟨a, vs, rfl, h, _⟩ := r
    cases e
    rcases h with ⟨o, h⟩ | ⟨o, its, n, h1, h2, _⟩
    · exact .base (.frz h)
    · rw [hK] at h1; exact .kList h1 h2
  | ref n =>
    simp only [tyN] at e
    cases e1 : lstAt hp n with
    | none => rw [e1] at e; cases e
    | some xs =>
      rw [e1] at e; cases e
      obtain ⟨a, vs, rfl, _, h, _⟩ := hr.atRef r e1
      exact .base (.lst h)
theorem se_isi {a : Expr} {ma : PEnv → IH → R PV} {p2 : Pos} {t : String} (hK : D.K = X.K) (hg : Gl X "isinstance") (hm : X.mg "isinstance" = none) (hgt : Gl X (Str.ofString t)) (hmt : X.mg (Str.ofString t) = none) (ht : tyKnown t = true)
    (ha : PE X a (VE D ca W ma)) (he : starEach [a, .Name (Str.ofString t) p2] X.env = (false, eval a X.env) :: starEach [.Name (Str.ofString t) p2] X.env) :
    PE X (.Call (.Name "isinstance" p) [a, .Name (Str.ofString t) p2] [] pos) (VE D ca W fun ρ h => (ma ρ h).bind fun p h => ofP h ((isiO h p t).map .bl)) := by
  obtain ⟨h1, h2, h3⟩ := ty_boot ht
  have hT : PE X (.Name (Str.ofString t) p2) (tC (.ty t)) := pe_bltn hgt hmt h1 rfl h2 h3
  refine PE.imp (pe_callB call_isi hg hm (by decide +kernel) (pa_cons ha (pa_cons hT pa_nil) he) (by decide) (by decide) he (by rfl)) fun σ H Q h => ?_
  obtain ⟨ads, ρ, hp, rl, h⟩ := h
  refine ⟨ads, ρ, hp, rl, (Res.bind up_wx h).imp fun v H1 ⟨ads1, q, hp1, e1, hr1, rp, h1⟩ => ?_⟩
  show rIsi X.K [v, .ty t] H1 Q
  unfold isiO at h1
  cases e : tyN hp1 q with
  | none => rw [e] at h1; exact h1.elim
  | some n =>
    rw [e] at h1
    simp only [Option.bind_some] at h1
    cases e2 : kitB n t with
    | none => rw [e2] at h1; exact h1.elim
    | some b => rw [e2] at h1; exact ⟨v, .ty t, .type n, .type t, b, rfl, .ty t, ty_of hK hr1 rp e, kit_ty e2, h1.atOk hr1 (by simp [RV])⟩
/-! ### methods -/
def mtN : Mt → Str
  | .append => "append" | .extend => "extend" | .pop => "pop" | .count => "count"
theorem se_meth {o : Expr} {mo : PEnv → IH → R PV} {apos : Pos} (hK : D.K = X.K) (m : Mt) (ho : PE X o (VE D ca W mo)) (ha : PA X (e :: es) (VA D ca W ms)) (hm : m ≠ .pop)
    (hbase : attributeBase o (mtN m) X.env (eval o X.env) = eval o X.env)
    (hfew : ((backTo pos (starEach (e :: es) X.env)).all (fun x => !x.1) && (backToKw pos (keywordEach [] X.env)).all (fun x => x.1.isSome)
      && decide ((e :: es).length + ([] : List Keyword).length + (if ([] : List Keyword).isEmpty then 0 else 1) < 30)) = true)
    (hline : (apos.endLine == pos.line) = true) (hs : starEach (e :: es) X.env = (false, eval e X.env) :: starEach es X.env) (hplain : (backTo pos (starEach es X.env)).any (·.1) = false) :
    PE X (.Call (.Attribute o (mtN m) apos) (e :: es) [] pos) (VE D ca W fun ρ h => (mo ρ h).bind fun p h => match mtPre m p with
      | true => (ms ρ h).bind fun ps h => ofO (mtO m p ps h)
      | false => .bad) := by
  cases m with
  | pop => exact absurd rfl hm
  | append =>
    refine PE.imp (pe_bm PySem.F.plainAttrs_list PySem.F.slot_list_append PySem.F.type_list_append mt_append ho ha hbase hfew hline hs hplain) fun σ H Q h => ?_
    obtain ⟨ads, ρ, hp, rl, h⟩ := h
    refine ⟨ads, ρ, hp, rl, (Res.bind up_wx h).imp fun v H1 ⟨ads1, q, hp1, e1, hr1, rp, h1⟩ => ?_⟩
    cases q with
    | ref n =>
      have h1' : Res D (Wx D ca W σ) ads1 H1 (relV D) Q ((ms ρ hp1).bind fun ps h => ofO (mtO .append (.ref n) ps h)) := h1
      have rp' := rp
      simp only [relV, RV] at rp
      obtain ⟨a, rfl, hn⟩ := rp
      obtain ⟨ws, hw⟩ := hr1.mut a (List.mem_of_getElem? hn)
      refine ⟨.inl ⟨rfl, ws, SqL.of hw⟩, ads1, ρ, hp1, rl.ext e1 hr1, (Res.bind up_wx h1').imp fun vs H2 ⟨ads2, ps, hp2, e2, hr2, rps, h2⟩ => ?_⟩
      have h3 := res_ofO h2
      have rp2 := RV.ext hr1.mut e2 rp'
      cases ps with
      | nil => exact h3.elim
      | cons q qs =>
      cases qs with
      | cons _ _ => exact h3.elim
      | nil =>
        simp only [mtO] at h3
        simp only [relVs, RVs] at rps
        obtain ⟨y, r, rfl, ry, rfl⟩ := rps
        cases el : lstAt hp2 n with
        | none => rw [el] at h3; exact h3.elim
        | some xs =>
          rw [el] at h3
          obtain ⟨b, us, eb, hb, h5, h6⟩ := hr2.atRef rp2 el
          cases eb
          simp only [Option.bind_some] at h3
          split at h3
          · rename_i hz
            obtain ⟨w1, w2⟩ := hr2.write hb h5 (h6.append (RVs.cons ry RVs.nil))
            exact ⟨a, us, y, rfl, rfl, h5, h6.length ▸ hz, h3 _ _ _ w2 w1 (by simp [RV])⟩
          · exact h3.elim
    | _ => exact h1.elim
  | extend =>
    refine PE.imp (pe_bm PySem.F.plainAttrs_list PySem.F.slot_list_extend PySem.F.type_list_extend mt_extend ho ha hbase hfew hline hs hplain) fun σ H Q h => ?_
    obtain ⟨ads, ρ, hp, rl, h⟩ := h
    refine ⟨ads, ρ, hp, rl, (Res.bind up_wx h).imp fun v H1 ⟨ads1, q, hp1, e1, hr1, rp, h1⟩ => ?_⟩
    cases q with
    | ref n =>
      have h1' : Res D (Wx D ca W σ) ads1 H1 (relV D) Q ((ms ρ hp1).bind fun ps h => ofO (mtO .extend (.ref n) ps h)) := h1
      have rp' := rp
      simp only [relV, RV] at rp
      obtain ⟨a, rfl, hn⟩ := rp
      obtain ⟨ws, hw⟩ := hr1.mut a (List.mem_of_getElem? hn)
      refine ⟨.inl ⟨rfl, ws, SqL.of hw⟩, ads1, ρ, hp1, rl.ext e1 hr1, (Res.bind up_wx h1').imp fun vs H2 ⟨ads2, ps, hp2, e2, hr2, rps, h2⟩ => ?_⟩
      have h3 := res_ofO h2
      have rp2 := RV.ext hr1.mut e2 rp'
      cases ps with
      | nil => exact h3.elim
      | cons q qs =>
      cases qs with
      | cons _ _ => cases q <;> exact h3.elim
      | nil =>
      cases q with
      | ref m' =>
        simp only [mtO] at h3
        simp only [relVs, RVs] at rps
        obtain ⟨y, r, rfl, ry, rfl⟩ := rps
        cases el : lstAt hp2 n with
        | none => rw [el] at h3; exact h3.elim
        | some xs =>
          rw [el] at h3
          obtain ⟨b, us, eb, hb, h5, h6⟩ := hr2.atRef rp2 el
          cases eb
          simp only [Option.bind_some] at h3
          cases el2 : lstAt hp2 m' with
          | none => rw [el2] at h3; exact h3.elim
          | some ys =>
            rw [el2] at h3
            obtain ⟨c, us2, rfl, hc, h7, h8⟩ := hr2.atRef ry el2
            simp only [Option.bind_some] at h3
            split at h3
            · rename_i hz
              obtain ⟨w1, w2⟩ := hr2.write hb h5 (h6.append h8)
              exact ⟨a, c, us, us2, rfl, rfl, h5, h7, by rw [← h6.length, ← h8.length]; exact hz, h3 _ _ _ w2 w1 (by simp [RV])⟩
            · exact h3.elim
      | _ => exact h3.elim
    | _ => exact h1.elim
  | count =>
    refine PE.imp (pe_mG tyX_ok PySem.F.plainAttrs_tuple PySem.F.slot_tuple_count PySem.F.type_tuple_count mt_tcount ho ha hbase hfew hline hs hplain) fun σ H Q h => ?_
    obtain ⟨ads, ρ, hp, rl, h⟩ := h
    refine ⟨ads, ρ, hp, rl, (Res.bind up_wx h).imp fun v H1 ⟨ads1, q, hp1, e1, hr1, rp, h1⟩ => ?_⟩
    cases q with
    | tup xs =>
      have h1' : Res D (Wx D ca W σ) ads1 H1 (relV D) Q ((ms ρ hp1).bind fun ps h => ofO (mtO .count (.tup xs) ps h)) := h1
      have rp' := rp
      simp only [relV, RV] at rp
      obtain ⟨a, ws, rfl, hx, _⟩ := rp
      refine ⟨⟨a, ws, rfl, hK ▸ hx⟩, ads1, ρ, hp1, rl.ext e1 hr1, (Res.bind up_wx h1').imp fun vs H2 ⟨ads2, ps, hp2, e2, hr2, rps, h2⟩ => ?_⟩
      have h3 := res_ofO h2
      have rp2 := RV.ext hr1.mut e2 rp'
      cases ps with
      | nil => exact h3.elim
      | cons q qs =>
      cases qs with
      | cons _ _ => cases q <;> exact h3.elim
      | nil =>
      cases q with
      | int kk =>
        simp only [mtO] at h3
        simp only [relVs, RVs, RV] at rps
        obtain ⟨y, r, rfl, rfl, rfl⟩ := rps
        simp only [RV] at rp2
        obtain ⟨b, us, eb, hx2, h6⟩ := rp2
        cases eb
        cases ei : intsP xs with
        | none => rw [ei] at h3; exact h3.elim
        | some ns =>
          rw [ei] at h3
          rw [ints_of h6 ei] at hx2
          exact ⟨a, ns, kk, rfl, rfl, hK ▸ hx2.sqT, h3.here hr2 (by simp [RV])⟩
      | _ => exact h3.elim
    | _ => exact h1.elim
theorem se_pop {o : Expr} {mo : PEnv → IH → R PV} {apos : Pos} (ho : PE X o (VE D ca W mo)) (hbase : attributeBase o "pop" X.env (eval o X.env) = eval o X.env) (hline : (apos.endLine == pos.line) = true) :
    PE X (.Call (.Attribute o "pop" apos) [] [] pos) (VE D ca W fun ρ h => (mo ρ h).bind fun p h => match mtPre .pop p with
      | true => (R.ok ([] : List PV) h).bind fun ps h => ofO (mtO .pop p ps h)
      | false => .bad) := by
  refine PE.imp (pe_bm0 PySem.F.plainAttrs_list PySem.F.slot_list_pop PySem.F.type_list_pop mt_pop ho hbase hline) fun σ H Q h => ?_
  obtain ⟨ads, ρ, hp, rl, h⟩ := h
  refine ⟨ads, ρ, hp, rl, (Res.bind up_wx h).imp fun v H1 ⟨ads1, q, hp1, e1, hr1, rp, h1⟩ => ?_⟩
  cases q with
  | ref n =>
    have h3 : ResO D ads1 H1 Q (mtO .pop (.ref n) [] hp1) := res_ofO (E := Wx D ca W σ) h1
    have rp' := rp
    simp only [relV, RV] at rp
    obtain ⟨a, rfl, hn⟩ := rp
    obtain ⟨ws, hw⟩ := hr1.mut a (List.mem_of_getElem? hn)
    refine ⟨.inl ⟨rfl, ws, SqL.of hw⟩, ?_⟩
    simp only [mtO] at h3
    cases el : lstAt hp1 n with
    | none => rw [el] at h3; exact h3.elim
    | some xs =>
      rw [el] at h3
      obtain ⟨b, us, eb, hb, h5, h6⟩ := hr1.atRef rp' el
      cases eb
      simp only [Option.bind_some] at h3
      cases eg : xs.getLast? with
      | none => rw [eg] at h3; exact h3.elim
      | some y =>
        rw [eg] at h3
        rw [List.getLast?_eq_getElem?] at eg
        obtain ⟨z, hz1, hz2⟩ := h6.get eg
        have hd : RVs D ads1 H1 xs.dropLast us.dropLast := by
          rw [List.dropLast_eq_take, List.dropLast_eq_take, ← h6.length]
          exact h6.take _
        obtain ⟨w1, w2⟩ := hr1.write hb h5 hd
        exact ⟨a, us, z, rfl, rfl, h5, by rw [← h6.length]; exact hz1, h3 _ _ _ w2 w1 (RV.ext hr1.mut w2 hz2)⟩
  | _ => exact h1.elim
end
/-! ### and, or -/
theorem R.bind_assoc {α β γ : Type} (r : R α) (k : α → IH → R β) (l : β → IH → R γ) : (r.bind k).bind l = r.bind fun a h => (k a h).bind l := by cases r <;> rfl
theorem and_test (r : R PV) (k : IH → R PV) : (r.bind fun p h => (ofP h (truO h p)).bind fun t h => match t with | true => k h | false => .ok p h).bind (fun p h => ofP h (truO h p)) =
    (r.bind fun p h => ofP h (truO h p)).bind fun t h => match t with | true => (k h).bind (fun p h => ofP h (truO h p)) | false => .ok false h := by
  cases r with
  | ok p h =>
    simp only [R.bind_ok]
    cases e : truO h p with
    | none => rfl
    | some t => cases t <;> simp [e]
  | ex x h => rfl
  | bad => rfl
theorem or_test (r : R PV) (k : IH → R PV) : (r.bind fun p h => (ofP h (truO h p)).bind fun t h => match t with | true => .ok p h | false => k h).bind (fun p h => ofP h (truO h p)) =
    (r.bind fun p h => ofP h (truO h p)).bind fun t h => match t with | true => .ok true h | false => (k h).bind (fun p h => ofP h (truO h p)) := by
  cases r with
  | ok p h =>
    simp only [R.bind_ok]
    cases e : truO h p with
    | none => rfl
    | some t => cases t <;> simp [e]
  | ex x h => rfl
  | bad => rfl
section
variable {X : Cx} {D : Gd} {ca : Nat → Option Addr} {W : WX} {a b : Expr} {rest : List Expr} {ma mr : PEnv → IH → R PV} {m m2 : PEnv → IH → R Bool} {pos : Pos}
theorem se_and (hK : D.K = X.K) (ha : PE X a (VE D ca W ma)) (hb : PE X (.BoolOp .And (b :: rest) pos) (VE D ca W mr)) :
    PE X (.BoolOp .And (a :: b :: rest) pos) (VE D ca W fun ρ h => (ma ρ h).bind fun p h => (ofP h (truO h p)).bind fun t h => match t with | true => mr ρ h | false => .ok p h) := by
  refine PE.imp (pe_andT ha hb) fun σ H Q h => ?_
  obtain ⟨ads, ρ, hp, rl, h⟩ := h
  refine ⟨ads, ρ, hp, rl, (Res.bind up_wx h).imp fun v H1 ⟨ads1, q, hp1, e1, hr1, rp, h1⟩ => ?_⟩
  cases e : truO hp1 q with
  | none => rw [e] at h1; exact h1.elim
  | some t =>
    rw [e] at h1
    refine ⟨t, truth_of hK hr1 rp e, ?_⟩
    cases t with
    | true => exact iteT ⟨ads1, ρ, hp1, rl.ext e1 hr1, h1⟩
    | false => exact iteF (Res.atOk (E := Wx D ca W σ) h1 hr1 rp)
theorem se_or (hK : D.K = X.K) (ha : PE X a (VE D ca W ma)) (hb : PE X (.BoolOp .Or (b :: rest) pos) (VE D ca W mr)) :
    PE X (.BoolOp .Or (a :: b :: rest) pos) (VE D ca W fun ρ h => (ma ρ h).bind fun p h => (ofP h (truO h p)).bind fun t h => match t with | true => .ok p h | false => mr ρ h) := by
  refine PE.imp (pe_orT ha hb) fun σ H Q h => ?_
  obtain ⟨ads, ρ, hp, rl, h⟩ := h
  refine ⟨ads, ρ, hp, rl, (Res.bind up_wx h).imp fun v H1 ⟨ads1, q, hp1, e1, hr1, rp, h1⟩ => ?_⟩
  cases e : truO hp1 q with
  | none => rw [e] at h1; exact h1.elim
  | some t =>
    rw [e] at h1
    refine ⟨t, truth_of hK hr1 rp e, ?_⟩
    cases t with
    | false => exact iteF ⟨ads1, ρ, hp1, rl.ext e1 hr1, h1⟩
    | true => exact iteT (Res.atOk (E := Wx D ca W σ) h1 hr1 rp)
theorem st_and (ha : PT X a (VT D ca W m)) (hb : PW X (.BoolOp .And (b :: rest) pos) (VT D ca W m2)) :
    PW X (.BoolOp .And (a :: b :: rest) pos) (VT D ca W fun ρ h => (m ρ h).bind fun t h => match t with | true => m2 ρ h | false => .ok false h) := by
  refine PW.imp (pw_and ha hb) fun σ H Q h => ?_
  obtain ⟨ads, ρ, hp, rl, h⟩ := h
  refine ⟨ads, ρ, hp, rl, (Res.bind up_wx h).imp fun v H1 ⟨ads1, q, hp1, e1, hr1, rp, h1⟩ => ?_⟩
  cases rp
  cases v with
  | true => exact iteT ⟨ads1, ρ, hp1, rl.ext e1 hr1, h1⟩
  | false => exact iteF (Res.atOk (E := Wx D ca W σ) h1 hr1 rfl)
theorem st_or (ha : PT X a (VT D ca W m)) (hb : PW X (.BoolOp .Or (b :: rest) pos) (VT D ca W m2)) :
    PW X (.BoolOp .Or (a :: b :: rest) pos) (VT D ca W fun ρ h => (m ρ h).bind fun t h => match t with | true => .ok true h | false => m2 ρ h) := by
  refine PW.imp (pw_or ha hb) fun σ H Q h => ?_
  obtain ⟨ads, ρ, hp, rl, h⟩ := h
  refine ⟨ads, ρ, hp, rl, (Res.bind up_wx h).imp fun v H1 ⟨ads1, q, hp1, e1, hr1, rp, h1⟩ => ?_⟩
  cases rp
  cases v with
  | false => exact iteF ⟨ads1, ρ, hp1, rl.ext e1 hr1, h1⟩
  | true => exact iteT (Res.atOk (E := Wx D ca W σ) h1 hr1 rfl)
end
end Pi

set_option Elab.async false
set_option linter.all false
set_option maxRecDepth 100000
set_option maxHeartbeats 4000000
/-! Pi H: targets, what is walked, statements. -/
namespace Pi
open PySem PySem.Spec PyProof.Rows L2

/-! ### statements' ends -/
def SRes (D : Gd) (ca : Nat → Option Addr) (W : WX) (ads : List Addr) (H : Hp) (E : Ends) : SR → Prop
  | .nx ρ hp => ∀ ads' σ' H', Ext ads ads' H H' → Rel D ads' ρ hp σ' H' → E.nx σ' H'
  | .rt p hp => ∀ ads' v H', Ext ads ads' H H' → HR D ads' hp H' → RV D ads' H' p v → E.rt v H'
  | .bk ρ hp => ∀ ads' σ' H', Ext ads ads' H H' → Rel D ads' ρ hp σ' H' → E.bk σ' H'
  | .ct ρ hp => ∀ ads' σ' H', Ext ads ads' H H' → Rel D ads' ρ hp σ' H' → E.ct σ' H'
  | .ex x ρ hp => ∀ ads' σ' H' cls d, Ext ads ads' H H' → Rel D ads' ρ hp σ' H' → RX D ca ads' H' x cls d → W cls d σ' H'
  | .bad => False
/-- a plain statement's reading -/
def VS (D : Gd) (ca : Nat → Option Addr) (W : WX) (m : PEnv → IH → SR) : TS := fun E σ H => ∃ ads ρ hp, Rel D ads ρ hp σ H ∧ SRes D ca W ads H E (m ρ hp)
theorem PS.imp {X : Cx} {e : Stmt} {t t' : TS} (h : PS X e t) (k : ∀ E σ H, t' E σ H → t E σ H) : PS X e t' := ⟨fun pins s σ H Q I q => h.run pins s σ H Q I (k Q σ H q)⟩
theorem PSs.imp {X : Cx} {e : List Stmt} {t t' : TS} (h : PSs X e t) (k : ∀ E σ H, t' E σ H → t E σ H) : PSs X e t' := ⟨fun pins s σ H Q I q => h.run pins s σ H Q I (k Q σ H q)⟩
theorem PI.imp {X : Cx} {tg e : Expr} {t t' : TI} (h : PI X tg e t) (k : ∀ σ H Q, t' σ H Q → t σ H Q) : PI X tg e t' := ⟨fun pins s σ H Q I q => h.run pins s σ H Q I (k σ H Q q)⟩
theorem PG.imp {X : Cx} {e : Expr} {t t' : TG} (h : PG X e t) (k : ∀ v σ H Q, t' v σ H Q → t v σ H Q) : PG X e t' := ⟨fun pins s σ H v u Q I r q => h.run pins s σ H v u Q I r (k v σ H Q q)⟩

section
variable {D : Gd} {ca : Nat → Option Addr} {W : WX} {ads ads1 : List Addr} {H H1 : Hp} {E : Ends} {ρ : PEnv} {hp : IH} {σ : L2.St}
theorem SRes.ext {r : SR} (e : Ext ads ads1 H H1) (h : SRes D ca W ads H E r) : SRes D ca W ads1 H1 E r := by
  cases r with
  | nx _ _ => exact fun a b c e2 => h a b c (e.trans e2)
  | rt _ _ => exact fun a b c e2 => h a b c (e.trans e2)
  | bk _ _ => exact fun a b c e2 => h a b c (e.trans e2)
  | ct _ _ => exact fun a b c e2 => h a b c (e.trans e2)
  | ex _ _ _ => exact fun a b c cls d e2 => h a b c cls d (e.trans e2)
  | bad => exact h
theorem SRes.seq {r : SR} {k : PEnv → IH → SR} (h : SRes D ca W ads H E (r.then k)) : SRes D ca W ads H { E with nx := VS D ca W k E } r := by
  cases r with
  | nx ρ hp => exact fun ads' σ' H' e rl => ⟨ads', ρ, hp, rl, SRes.ext e h⟩
  | rt _ _ => exact h
  | bk _ _ => exact h
  | ct _ _ => exact h
  | ex _ _ _ => exact h
  | bad => exact h
/-- behind a loop's body -/
theorem SRes.turn {r : SR} {k : PEnv → IH → SR} {N : L2.St → Hp → Prop} (h : SRes D ca W ads H E (r.turn k)) (hN : ∀ ads' ρ hp σ' H', Ext ads ads' H H' → Rel D ads' ρ hp σ' H' → SRes D ca W ads' H' E (k ρ hp) → N σ' H') :
    SRes D ca W ads H { E with nx := N, ct := N, bk := E.nx } r := by
  cases r with
  | nx ρ hp => exact fun ads' σ' H' e rl => hN ads' ρ hp σ' H' e rl (SRes.ext e h)
  | ct ρ hp => exact fun ads' σ' H' e rl => hN ads' ρ hp σ' H' e rl (SRes.ext e h)
  | bk ρ hp => exact h
  | rt _ _ => exact h
  | ex _ _ _ => exact h
  | bad => exact h
/-- an expression ahead -/
theorem SRes.st {α β : Type} {rel : List Addr → Hp → α → β → Prop} {r : R α} {k : α → IH → SR} (rl : Rel D ads ρ hp σ H) (h : SRes D ca W ads H E (r.st ρ k)) :
    Res D (Wx D ca W σ) ads H rel (fun b H1 => ∃ ads1 a hp1, Ext ads ads1 H H1 ∧ Rel D ads1 ρ hp1 σ H1 ∧ rel ads1 H1 a b ∧ SRes D ca W ads1 H1 E (k a hp1)) r := by
  cases r with
  | ok a hp => exact fun ads' b H' e hr q => ⟨ads', a, hp, e, rl.ext e hr, q, SRes.ext e h⟩
  | ex x hp => exact fun ads' H' cls d e hr q => h ads' σ H' cls d e (rl.ext e hr) q
  | bad => exact h
theorem SRes.nxOk (h : SRes D ca W ads H E (.nx ρ hp)) (rl : Rel D ads ρ hp σ H) : E.nx σ H := h ads σ H .refl rl
end

section
variable {X : Cx} {D : Gd} {ca : Nat → Option Addr} {W : WX} {pos : Pos} {e : Expr} {me : PEnv → IH → R PV}
theorem ss_pass : PS X (.Pass pos) (VS D ca W fun ρ h => .nx ρ h) := PS.imp ps_pass fun E σ H ⟨ads, ρ, hp, rl, h⟩ => SRes.nxOk h rl
theorem ss_brk : PS X (.Break pos) (VS D ca W fun ρ h => .bk ρ h) := PS.imp ps_break fun E σ H ⟨ads, ρ, hp, rl, h⟩ => h ads σ H .refl rl
theorem ss_cnt : PS X (.Continue pos) (VS D ca W fun ρ h => .ct ρ h) := PS.imp ps_continue fun E σ H ⟨ads, ρ, hp, rl, h⟩ => h ads σ H .refl rl
theorem ss_expr (he : PE X e (VE D ca W me)) (hs : swapsWith e none pos.line X.env = pure false) : PS X (.Expr e pos) (VS D ca W fun ρ h => (me ρ h).st ρ fun _ h => .nx ρ h) := by
  refine PS.imp (ps_expr he hs) fun E σ H ⟨ads, ρ, hp, rl, h⟩ => ⟨ads, ρ, hp, rl, (SRes.st rl h).imp fun v H1 ⟨ads1, p, hp1, e1, rl1, rp, h1⟩ => SRes.nxOk h1 rl1⟩
theorem ss_doc {x j pos pos'} : PS X (.Expr (.Constant (.str x) j pos) pos') (VS D ca W fun ρ h => .nx ρ h) := PS.imp ps_doc fun E σ H ⟨ads, ρ, hp, rl, h⟩ => SRes.nxOk h rl
theorem ss_ret (he : PE X e (VE D ca W me)) : PS X (.Return (some e) pos) (VS D ca W fun ρ h => (me ρ h).st ρ fun p h => .rt p h) := by
  refine PS.imp (ps_ret he) fun E σ H ⟨ads, ρ, hp, rl, h⟩ => ⟨ads, ρ, hp, rl, (SRes.st rl h).imp fun v H1 ⟨ads1, p, hp1, e1, rl1, rp, h1⟩ => h1 ads1 v H1 .refl rl1.hr rp⟩
theorem ss_retN : PS X (.Return none pos) (VS D ca W fun _ h => .rt .non h) := PS.imp ps_retN fun E σ H ⟨ads, ρ, hp, rl, h⟩ => h ads _ H .refl rl.hr (by simp [RV])
theorem ss_if {c : Expr} {a b : List Stmt} {mc : PEnv → IH → R Bool} {ma mb : PEnv → IH → SR} (hc : PT X c (VT D ca W mc)) (ha : PSs X a (VS D ca W ma)) (hb : PSs X b (VS D ca W mb)) :
    PS X (.If c a b pos) (VS D ca W fun ρ h => (mc ρ h).st ρ fun t h => match t with | true => ma ρ h | false => mb ρ h) := by
  refine PS.imp (ps_if hc ha hb) fun E σ H ⟨ads, ρ, hp, rl, h⟩ => ⟨ads, ρ, hp, rl, (SRes.st rl h).imp fun v H1 ⟨ads1, t, hp1, e1, rl1, rp, h1⟩ => ?_⟩
  cases rp
  cases v with
  | true => exact iteT ⟨ads1, ρ, hp1, rl1, h1⟩
  | false => exact iteF ⟨ads1, ρ, hp1, rl1, h1⟩
theorem ss_never {st : Stmt} : PS X st (VS D ca W fun _ _ => .bad) := ⟨fun _ _ _ _ _ _ ⟨_, _, _, _, h⟩ => h.elim⟩
theorem sss_nil : PSs X [] (VS D ca W fun ρ h => .nx ρ h) := PSs.imp pss_nil fun E σ H ⟨ads, ρ, hp, rl, h⟩ => SRes.nxOk h rl
theorem sss_cons {st : Stmt} {rest : List Stmt} {m k : PEnv → IH → SR} (h1 : PS X st (VS D ca W m)) (h2 : PSs X rest (VS D ca W k)) : PSs X (st :: rest) (VS D ca W fun ρ h => (m ρ h).then fun ρ h => k ρ h) :=
  PSs.imp (pss_cons h1 h2) fun E σ H ⟨ads, ρ, hp, rl, h⟩ => ⟨ads, ρ, hp, rl, SRes.seq h⟩
theorem ss_whl {c : Expr} {body : List Stmt} {mc : PEnv → IH → R Bool} {mb : PEnv → IH → SR} {fuel : Nat} (hp : PassesOwn (model X.prog X.w) X.A X.env X.xe) (hc : PT X c (VT D ca W mc)) (hb : PSs X body (VS D ca W mb)) :
    PS X (.While c body [] pos) (VS D ca W fun ρ h => whlGo mc mb fuel ρ h) := by
  refine PS.imp (ps_while hp hc hb) fun E σ H ⟨ads, ρ, hp, rl, h⟩ => ⟨fun m σ H => VS D ca W (fun ρ h => whlGo mc mb m ρ h) E σ H, ⟨fuel, ads, ρ, hp, rl, h⟩, ?_⟩
  intro m σ H ⟨ads, ρ, hp, rl, h⟩
  cases m with
  | zero => exact h.elim
  | succ m =>
    have h' : SRes D ca W ads H E ((mc ρ hp).st ρ fun t h => match t with | true => (mb ρ h).turn fun ρ h => whlGo mc mb m ρ h | false => .nx ρ h) := h
    refine ⟨ads, ρ, hp, rl, (SRes.st rl h').imp fun v H1 ⟨ads1, t, hp1, e1, rl1, rp, h1⟩ => ?_⟩
    cases rp
    cases v with
    | true => exact iteT ⟨fun σ H => VS D ca W (fun ρ h => whlGo mc mb m ρ h) E σ H, fun σ' H' n => ⟨m, Nat.lt_succ_self _, n⟩, ads1, ρ, hp1, rl1, SRes.turn h1 fun ads' ρ hp σ' H' _ rl h => ⟨ads', ρ, hp, rl, h⟩⟩
    | false => exact iteF (SRes.nxOk h1 rl1)
end

/-! ### targets -/
def Tg.isMany : Tg → Bool
  | .many _ => true
  | _ => false
/-- an item, or a pair just made -/
def IR (w : Bool) (D : Gd) (ads : List Addr) (H : Hp) (p : PV) (v : V) : Prop := RV D ads H p v ∨ (w = true ∧ ∃ ps a vs, p = .tup ps ∧ v = .ref a ∧ SqT D.K H a vs ∧ RVs D ads H ps vs)
def gT (D : Gd) (tg : Tg) : TG := fun v σ H Q => ∃ ads ρ hp p ρ1, Rel D ads ρ hp σ H ∧ IR tg.isMany D ads H p v ∧ tgO tg p ρ = some ρ1 ∧ ∀ σ', Rel D ads ρ1 hp σ' H → (∀ vs, (∀ i ∈ tg.slots, i ∈ vs) → wipe σ' vs = wipe σ vs) → Q σ' H
theorem wipe_set {σ : L2.St} {i : Nat} {o : Option V} : ∀ {vs : List Nat}, i ∈ vs → wipe (σ.set i o) vs = wipe σ vs := by
  have comm : ∀ (vs : List Nat) (σ : L2.St), i ∉ vs → wipe (σ.set i o) vs = (wipe σ vs).set i o := by
    intro vs
    induction vs with
    | nil => intro σ _; rfl
    | cons v vs ih =>
      intro σ h
      simp only [List.mem_cons, not_or] at h
      show ((wipe (σ.set i o) vs).set v none) = ((wipe σ vs).set v none).set i o
      rw [ih σ h.2, List.set_comm _ _ h.1]
  intro vs
  induction vs with
  | nil => intro h; cases h
  | cons v vs ih =>
    intro h
    by_cases hm : i ∈ vs
    · show (wipe (σ.set i o) vs).set v none = (wipe σ vs).set v none
      rw [ih hm]
    · have e : i = v := by
        rcases List.mem_cons.mp h with e | e
        · exact e
        · exact absurd e hm
      subst e
      show (wipe (σ.set i o) vs).set i none = (wipe σ vs).set i none
      rw [comm vs σ hm, List.set_set]
theorem wipe_wipe (σ : L2.St) (vs : List Nat) : wipe (wipe σ vs) vs = wipe σ vs := by
  have gen : ∀ (ws : List Nat), (∀ i ∈ ws, i ∈ vs) → wipe (wipe σ ws) vs = wipe σ vs := by
    intro ws
    induction ws with
    | nil => intro _; rfl
    | cons w ws ih =>
      intro h
      show wipe ((wipe σ ws).set w none) vs = wipe σ vs
      rw [wipe_set (h w List.mem_cons_self), ih fun i hi => h i (List.mem_cons_of_mem _ hi)]
  exact gen vs fun i hi => hi
section
variable {X : Cx} {D : Gd} {pos : Pos}
theorem sg_name {i : Nat} {x : Str} (hN : X.N.Nodup) (hi : X.N[i]? = some x) (hx : Loc X.env.scope x) (hf : X.fn x = true ∨ X.env.scope.names.lookup x = some .local) : PG X (.Name x pos) (gT D (.name i)) := by
  refine PG.imp (pg_name hN hi hx hf) fun v σ H Q ⟨ads, ρ, hp, p, ρ1, rl, r, e, h⟩ => ?_
  cases e
  rcases r with r | ⟨r, _⟩
  · exact h _ (rl.set r) fun vs hv => wipe_set (hv i (by simp [Tg.slots]))
  · cases r
/-- names, one after another -/
def gMany (D : Gd) (xs : List Nat) : TGs := fun vs σ H Q => ∃ ads ρ hp ps ρ1, Rel D ads ρ hp σ H ∧ RVs D ads H ps vs ∧ setMany xs ps ρ = some ρ1 ∧ ∀ σ', Rel D ads ρ1 hp σ' H → (∀ vs, (∀ i ∈ xs, i ∈ vs) → wipe σ' vs = wipe σ vs) → Q σ' H
inductive NmOk (X : Cx) : List Expr → List Nat → Prop
  | nil : NmOk X [] []
  | cons {es : List Expr} {xs : List Nat} {i : Nat} {x : Str} {p : Pos} (hi : X.N[i]? = some x) (hx : Loc X.env.scope x) (hf : X.fn x = true ∨ X.env.scope.names.lookup x = some .local) (h : NmOk X es xs) : NmOk X (.Name x p :: es) (i :: xs)
theorem PGs.imp {X : Cx} {e : List Expr} {t t' : TGs} (h : PGs X e t) (k : ∀ v σ H Q, t' v σ H Q → t v σ H Q) : PGs X e t' := ⟨fun pins s σ H v u Q I r q => h.run pins s σ H v u Q I r (k v σ H Q q)⟩
theorem sg_many (hN : X.N.Nodup) : ∀ {es : List Expr} {xs : List Nat}, NmOk X es xs → PGs X es (gMany D xs)
  | _, _, .nil => PGs.imp pgs_nil fun vs σ H Q ⟨ads, ρ, hp, ps, ρ1, rl, r, e, h⟩ => by
    cases ps with
    | nil => cases e; simp only [RVs] at r; exact ⟨r, h σ rl fun _ _ => rfl⟩
    | cons _ _ => cases e
  | _, _, .cons (i := i) hi hx hf hr => PGs.imp (pgs_cons (pg_name hN hi hx hf) (sg_many hN hr)) fun vs σ H Q ⟨ads, ρ, hp, ps, ρ1, rl, r, e, h⟩ => by
    cases ps with
    | nil => cases e
    | cons p ps =>
      simp only [RVs] at r
      obtain ⟨v, w, rfl, h1, h2⟩ := r
      refine ⟨v, w, rfl, ads, _, hp, ps, ρ1, rl.set h1, h2, e, fun σ' rl' hw => h σ' rl' fun vs hv => ?_⟩
      rw [hw vs fun i hi => hv i (by simp at hi ⊢; exact .inr hi)]
      exact wipe_set (hv i (by simp))
theorem nm_len {es : List Expr} {xs : List Nat} (h : NmOk X es xs) : (assignEach es X.env).length = xs.length ∧ (assignEach es X.env).findIdx? (·.1) = none := by
  induction h with
  | nil => exact ⟨rfl, rfl⟩
  | cons hi hx hf h ih =>
    obtain ⟨i1, i2⟩ := ih
    refine ⟨by show (assignEach _ X.env).length + 1 = _; rw [i1]; rfl, ?_⟩
    show List.findIdx? (·.1) ((false, _) :: assignEach _ X.env) = none
    rw [List.findIdx?_cons]
    simp [i2]
theorem setMany_len : ∀ {xs : List Nat} {ps : List PV} {ρ ρ1 : PEnv}, setMany xs ps ρ = some ρ1 → ps.length = xs.length
  | [], [], _, _, _ => rfl
  | [], _ :: _, _, _, e => by cases e
  | _ :: _, [], _, _, e => by cases e
  | _ :: xs, _ :: ps, _, _, e => by simp [setMany_len (xs := xs) (ps := ps) e]
theorem sg_tup {es : List Expr} {xs : List Nat} {k : Nat} (hK : D.K = X.K) (hc : X.calm = true) (hN : X.N.Nodup) (hn : NmOk X es xs) : PG X (.Tuple es k pos) (gT D (.many xs)) := by
  refine PG.imp (pg_tup (n := xs.length) hc (sg_many (D := D) hN hn) (nm_len hn).1 (nm_len hn).2) fun v σ H Q ⟨ads, ρ, hp, p, ρ1, rl, r, e, h⟩ => ?_
  have both : ∃ ps a vs, p = .tup ps ∧ v = .ref a ∧ SqT D.K H a vs ∧ RVs D ads H ps vs := by
    rcases r with r | ⟨_, r⟩
    · cases p with
      | tup ps =>
        simp only [RV] at r
        obtain ⟨a, vs, h1, h2, h3⟩ := r
        exact ⟨ps, a, vs, rfl, h1, h2.sqT, h3⟩
      | _ => cases e
    · exact r
  obtain ⟨ps, a, vs, rfl, rfl, h1, h2⟩ := both
  have e' : setMany xs ps ρ = some ρ1 := e
  refine ⟨a, vs, rfl, hK ▸ h1, by rw [← RVs.length h2]; exact setMany_len e', ads, ρ, hp, ps, ρ1, rl, h2, e', fun σ' rl' hw => h σ' rl' fun vs hv => hw vs fun i hi => hv i (by simpa [Tg.slots] using hi)⟩
end
end Pi

set_option Elab.async false
set_option linter.all false
set_option maxRecDepth 100000
set_option maxHeartbeats 4000000
/-! Pi I: what is walked, loops, comprehensions. -/
namespace Pi
open PySem PySem.Spec PyProof.Rows L2

/-! ### sources -/
def SrcR (w : Bool) (D : Gd) (ads : List Addr) (H : Hp) (src : Src) (J : It) : Prop := ∀ ads' hp' H', Ext ads ads' H H' → HR D ads' hp' H' → ∀ i o, srcAt src i hp' = some o →
  match o with
  | none => J.stop i H'
  | some p => J.go i H' ∧ ∀ x H'', J.yld i H' x H'' → Ext ads' ads' H' H'' ∧ HR D ads' hp' H'' ∧ IR w D ads' H'' p x
abbrev relS (w : Bool) (D : Gd) : List Addr → Hp → Src → It → Prop := fun ads H s J => SrcR w D ads H s J
abbrev VI (w : Bool) (D : Gd) (ca : Nat → Option Addr) (W : WX) (m : PEnv → IH → R Src) : TI := tI D ca W (relS w D) m
section
variable {D : Gd} {ads ads1 : List Addr} {H H1 : Hp} {w : Bool}
theorem SrcR.ext {s : Src} {J : It} (e : Ext ads ads1 H H1) (h : SrcR w D ads H s J) : SrcR w D ads1 H1 s J := fun ads' hp' H' e2 => h ads' hp' H' (e.trans e2)
theorem sql_inj {K : PySem.W.Frag} {H : Hp} {a : Addr} {xs : List V} (h : H a = some (.lst xs)) : SqL K H a xs := .inl (.inl h)
theorem src_tup {a : Addr} {xs : List PV} {vs : List V} (hm : ∀ a ∈ ads, ∃ vs, H a = some (.lst vs)) (h : SqX D.K H a vs) (r : RVs D ads H xs vs) : SrcR w D ads H (.fix xs) (Itt D.K a) := by
  intro ads' hp' H' e hr i o ho
  have h' := e.sqX hm h
  have r' := RVs.ext hm e r
  have ho' : xs[i]? = o := Option.some.inj ho
  cases o with
  | none => have q := ho'; exact ⟨vs, h'.sqT, by rw [← r.length]; exact List.getElem?_eq_none_iff.mp q⟩
  | some p =>
    have q := ho'
    obtain ⟨v, hv, rv⟩ := r'.get q
    refine ⟨⟨vs, v, h'.sqT, hv⟩, fun x H'' y => ?_⟩
    obtain ⟨rfl, y⟩ := y
    have ev := y vs h'.sqT
    rw [hv] at ev; cases ev
    exact ⟨.refl, hr, .inl rv⟩
theorem src_rol {a : Addr} {xs : List PV} {vs : List V} (hm : ∀ a ∈ ads, ∃ vs, H a = some (.lst vs)) (h : SqF D.K H a vs) (r : RVs D ads H xs vs) : SrcR w D ads H (.fix xs) (Itl D.K a) := by
  intro ads' hp' H' e hr i o ho
  have h' := e.sqF hm h
  have r' := RVs.ext hm e r
  have ho' : xs[i]? = o := Option.some.inj ho
  cases o with
  | none => have q := ho'; exact ⟨vs, h'.sql, by rw [← r.length]; exact List.getElem?_eq_none_iff.mp q⟩
  | some p =>
    have q := ho'
    obtain ⟨v, hv, rv⟩ := r'.get q
    refine ⟨⟨vs, v, h'.sql, hv⟩, fun x H'' y => ?_⟩
    obtain ⟨rfl, y⟩ := y
    have ev := y vs h'.sql
    rw [hv] at ev; cases ev
    exact ⟨.refl, hr, .inl rv⟩
theorem src_lst {a : Addr} {n : Nat} (ha : ads[n]? = some a) : SrcR w D ads H (.lst n) (Itl D.K a) := by
  intro ads' hp' H' e hr i o ho
  obtain ⟨t, ht⟩ := e.pre
  have ha' : ads'[n]? = some a := by
    rw [ht, List.getElem?_append_left (List.getElem?_eq_some_iff.mp ha).1]
    exact ha
  simp only [srcAt] at ho
  cases q : lstAt hp' n with
  | none => rw [q] at ho; cases ho
  | some xs =>
    rw [q] at ho
    have ho' : xs[i]? = o := Option.some.inj ho
    obtain ⟨b, vs, h1, h2, h3⟩ := hr.at q
    rw [ha'] at h1; cases h1
    cases o with
    | none => have q2 := ho'; exact ⟨vs, SqL.of h2, by rw [← h3.length]; exact List.getElem?_eq_none_iff.mp q2⟩
    | some p =>
      have q2 := ho'
      obtain ⟨v, hv, rv⟩ := h3.get q2
      refine ⟨⟨vs, v, SqL.of h2, hv⟩, fun x H'' y => ?_⟩
      obtain ⟨rfl, y⟩ := y
      have ev := y vs (SqL.of h2)
      rw [hv] at ev; cases ev
      exact ⟨.refl, hr, .inl rv⟩
theorem src_rng {lo : Int} {n : Nat} : SrcR w D ads H (.fix (rngL lo n)) (L2.Itr lo n) := by
  intro ads' hp' H' e hr i o ho
  have ho' : (rngL lo n)[i]? = o := Option.some.inj ho
  subst ho'
  by_cases hi : i < n
  · have q : (rngL lo n)[i]? = some (.int (lo + (i : Int))) := by simp [rngL, hi]
    rw [q]
    refine ⟨hi, fun x H'' y => ?_⟩
    obtain ⟨rfl, rfl⟩ := y
    exact ⟨.refl, hr, .inl (by simp [RV])⟩
  · have q : (rngL lo n)[i]? = none := by simp [rngL]; omega
    rw [q]
    exact Nat.le_of_not_lt hi
/-- a list as it stands -/
def LsR (D : Gd) (ads : List Addr) (H : Hp) : PV → Addr → Prop
  | .rol xs, a => ∃ vs, SqF D.K H a vs ∧ RVs D ads H xs vs
  | .ref n, a => ads[n]? = some a
  | _, _ => False
theorem LsR.ext {p : PV} {a : Addr} (hm : ∀ a ∈ ads, ∃ vs, H a = some (.lst vs)) (e : Ext ads ads1 H H1) (h : LsR D ads H p a) : LsR D ads1 H1 p a := by
  cases p with
  | rol xs => obtain ⟨vs, h1, h2⟩ := h; exact ⟨vs, e.sqF hm h1, RVs.ext hm e h2⟩
  | ref n =>
    obtain ⟨t, ht⟩ := e.pre
    show ads1[n]? = some a
    rw [ht, List.getElem?_append_left (List.getElem?_eq_some_iff.mp h).1]
    exact h
  | _ => exact h.elim
theorem LsR.at {p : PV} {a : Addr} {hp : IH} {xs : List PV} (hr : HR D ads hp H) (h : LsR D ads H p a) (e : listOf hp p = some xs) : ∃ vs, SqL D.K H a vs ∧ RVs D ads H xs vs := by
  cases p with
  | rol xs => cases e; obtain ⟨vs, h1, h2⟩ := h; exact ⟨vs, h1.sql, h2⟩
  | ref n =>
    obtain ⟨b, vs, h1, h2, h3⟩ := hr.at e
    have h' : ads[n]? = some a := h
    rw [h'] at h1; cases h1
    exact ⟨vs, SqL.of h2, h3⟩
  | _ => exact h.elim
theorem LsR.of {p : PV} {v : V} {hp : IH} {xs : List PV} (hr : HR D ads hp H) (r : RV D ads H p v) (e : listOf hp p = some xs) : ∃ a, v = .ref a ∧ LsR D ads H p a := by
  cases p with
  | rol xs =>
    simp only [RV] at r
    obtain ⟨a, vs, rfl, h1, h2⟩ := r
    exact ⟨a, rfl, vs, h1, h2⟩
  | ref n =>
    simp only [RV] at r
    obtain ⟨a, rfl, h1⟩ := r
    exact ⟨a, rfl, h1⟩
  | _ => cases e
theorem pair_new {hp : IH} {T : Addr} {p q : PV} {x y : V} (hr : HR D ads hp H) (hT : H T = none) (hx : RV D ads H p x) (hy : RV D ads H q y) :
    Ext ads ads H (upd H T (.tup [x, y])) ∧ HR D ads hp (upd H T (.tup [x, y])) ∧ IR true D ads (upd H T (.tup [x, y])) (.tup [p, q]) (.ref T) := by
  obtain ⟨h1, h2⟩ := hr.fresh (o := .tup [x, y]) hT
  exact ⟨h2, h1, .inr ⟨rfl, [p, q], T, [x, y], rfl, rfl, .inl (.inl upd_same), RVs.cons (RV.ext hr.mut h2 hx) (RVs.cons (RV.ext hr.mut h2 hy) RVs.nil)⟩⟩
theorem src_zip {p q : PV} {a b : Addr} (hm : ∀ a ∈ ads, ∃ vs, H a = some (.lst vs)) (hp : LsR D ads H p a) (hq : LsR D ads H q b) : SrcR true D ads H (.zip p q) (Itz D.K a b) := by
  intro ads' hp' H' e hr i o ho
  have hp2 := hp.ext hm e
  have hq2 := hq.ext hm e
  simp only [srcAt] at ho
  cases q1 : listOf hp' p with
  | none => rw [q1] at ho; cases ho
  | some xs =>
    rw [q1] at ho
    cases q2 : listOf hp' q with
    | none => rw [q2] at ho; cases ho
    | some ys =>
      rw [q2] at ho
      obtain ⟨vs, h1, h2⟩ := hp2.at hr q1
      obtain ⟨ws, h3, h4⟩ := hq2.at hr q2
      simp only [Option.bind_some, Option.map_some, Option.some.injEq] at ho
      subst ho
      cases ex : xs[i]? with
      | none => exact ⟨vs, ws, h1, h3, .inl (by rw [← h2.length]; exact List.getElem?_eq_none_iff.mp ex)⟩
      | some x =>
        cases ey : ys[i]? with
        | none => exact ⟨vs, ws, h1, h3, .inr (by rw [← h4.length]; exact List.getElem?_eq_none_iff.mp ey)⟩
        | some y =>
          obtain ⟨v, hv, rv⟩ := h2.get ex
          obtain ⟨u, hu, ru⟩ := h4.get ey
          refine ⟨⟨vs, ws, v, u, h1, h3, hv, hu⟩, fun z H'' yy => ?_⟩
          obtain ⟨T, x', y', rfl, hT, rfl, f1, f2⟩ := yy
          have e1 := f1 vs h1
          have e2 := f2 ws h3
          rw [hv] at e1; cases e1
          rw [hu] at e2; cases e2
          exact pair_new hr hT rv ru
theorem src_zipT {xs ys : List PV} {a b : Addr} {vs ws : List V} (hm : ∀ a ∈ ads, ∃ vs, H a = some (.lst vs)) (ha : SqX D.K H a vs) (hb : SqX D.K H b ws) (r1 : RVs D ads H xs vs) (r2 : RVs D ads H ys ws) :
    SrcR true D ads H (.fix (xs.zipWith (fun a b => .tup [a, b]) ys)) (RZ.ItzT D.K a b) := by
  intro ads' hp' H' e hr i o ho
  have h1 := (e.sqX hm ha).sqT
  have h3 := (e.sqX hm hb).sqT
  have h2 := RVs.ext hm e r1
  have h4 := RVs.ext hm e r2
  have ho' : (xs.zipWith (fun a b => PV.tup [a, b]) ys)[i]? = o := Option.some.inj ho
  subst ho'
  rw [List.getElem?_zipWith]
  cases ex : xs[i]? with
  | none => exact ⟨vs, ws, h1, h3, .inl (by rw [← h2.length]; exact List.getElem?_eq_none_iff.mp ex)⟩
  | some x =>
    cases ey : ys[i]? with
    | none => exact ⟨vs, ws, h1, h3, .inr (by rw [← h4.length]; exact List.getElem?_eq_none_iff.mp ey)⟩
    | some y =>
      obtain ⟨v, hv, rv⟩ := h2.get ex
      obtain ⟨u, hu, ru⟩ := h4.get ey
      refine ⟨⟨vs, ws, v, u, h1, h3, hv, hu⟩, fun z H'' yy => ?_⟩
      obtain ⟨T, x', y', rfl, hT, rfl, f1, f2⟩ := yy
      have e1 := f1 vs h1
      have e2 := f2 ws h3
      rw [hv] at e1; cases e1
      rw [hu] at e2; cases e2
      exact pair_new hr hT rv ru
end
section
variable {X : Cx} {D : Gd} {ca : Nat → Option Addr} {W : WX} {w : Bool} {tg e a b : Expr} {ma mb : PEnv → IH → R PV} {p pos : Pos}
/-- a list or a tuple -/
theorem pi_seq {l : Expr} {tl : TE} (hl : PE X l tl) : PI X tg l (fun σ H R => tl σ H fun x H1 => ∃ a, x = .ref a ∧ (((∃ xs, SqL X.K H1 a xs) ∧ R (Itl X.K a) H1) ∨ ((∃ xs, SqT X.K H1 a xs) ∧ R (Itt X.K a) H1))) := by
  refine ⟨fun pins s σ H R I h => ?_⟩
  refine thn (hl.run pins s σ H _ I h) fun v s1 ⟨x, H1, I1, r1, q1⟩ => ?_
  obtain ⟨a, e, ⟨⟨xs, hq⟩, q⟩ | ⟨⟨xs, hq⟩, q⟩⟩ := q1
  · subst e
    cases r1
    obtain ⟨its, rv, p, hz⟩ := I1.list hq
    refine wpAny_pyIter_list p.isList ?_
    refine ⟨s1.heap.objs.size, [s1.heap.objs.size], _, _, H1, rfl, I1.kept (t' := s1.toks) fun b o e => Heap.get?_push_of_some _ e, turn_list a _, ⟨_, Heap.get?_push_size _ rfl, rfl, rfl⟩, fun b hb => ?_, q⟩
    have e : b = s1.heap.objs.size := by simpa using hb
    subst e
    exact I1.fpOk (Nat.le_refl _) (I1.hok.fresh (Nat.le_refl _))
  · subst e
    cases r1
    obtain ⟨its, rv, p, hz⟩ := I1.tuple hq
    refine wpAny_pyIter_tuple (show s1.heap.IsTuple a its.toArray from p) ?_
    refine ⟨s1.heap.objs.size, [s1.heap.objs.size], _, _, H1, rfl, I1.kept (t' := s1.toks) fun b o e => Heap.get?_push_of_some _ e, turn_tuple a _, ⟨_, Heap.get?_push_size _ rfl, rfl, rfl⟩, fun b hb => ?_, q⟩
    have e : b = s1.heap.objs.size := by simpa using hb
    subst e
    exact I1.fpOk (Nat.le_refl _) (I1.hok.fresh (Nat.le_refl _))
theorem si_val (hK : D.K = X.K) (ha : PE X a (VE D ca W ma)) : PI X tg a (VI w D ca W fun ρ h => (ma ρ h).bind fun p h => ofP h (srcOf h p)) := by
  refine PI.imp (pi_seq ha) fun σ H Q ⟨ads, ρ, hp, rl, h⟩ => ⟨ads, ρ, hp, rl, (Res.bind up_wx h).imp fun v H1 ⟨ads1, q, hp1, e1, hr1, rp, h1⟩ => ?_⟩
  cases q with
  | tup xs =>
    simp only [relV, RV] at rp
    obtain ⟨a, vs, rfl, h2, h3⟩ := rp
    refine ⟨a, rfl, .inr ⟨⟨vs, hK ▸ h2.sqT⟩, hK ▸ Res.atOk (E := Wx D ca W σ) h1 hr1 (src_tup hr1.mut h2 h3)⟩⟩
  | rol xs =>
    simp only [relV, RV] at rp
    obtain ⟨a, vs, rfl, h2, h3⟩ := rp
    exact ⟨a, rfl, .inl ⟨⟨vs, hK ▸ h2.sql⟩, hK ▸ Res.atOk (E := Wx D ca W σ) h1 hr1 (src_rol hr1.mut h2 h3)⟩⟩
  | ref n =>
    have rp' := rp
    simp only [relV, RV] at rp
    obtain ⟨a, rfl, hn⟩ := rp
    simp only [srcOf] at h1
    cases q : lstAt hp1 n with
    | none => rw [q] at h1; exact h1.elim
    | some xs =>
      rw [q] at h1
      obtain ⟨b, vs, eb, _, h4, _⟩ := hr1.atRef rp' q
      cases eb
      exact ⟨a, rfl, .inl ⟨⟨vs, SqL.of h4⟩, hK ▸ Res.atOk (E := Wx D ca W σ) h1 hr1 (src_lst hn)⟩⟩
  | _ => exact h1.elim
theorem si_rng1 (hg : Gl X "range") (hm : X.mg "range" = none) (ha : PE X a (VE D ca W ma)) (hs : starEach [a] X.env = [(false, eval a X.env)]) :
    PI X tg (.Call (.Name "range" p) [a] [] pos) (VI w D ca W fun ρ h => (ma ρ h).bind fun p h => match p with | .int j => if inR j then .ok (.fix (rngL 0 j.toNat)) h else .bad | _ => .bad) := by
  refine PI.imp (pi_range1 hg hm (pa_cons ha pa_nil (by rw [hs]; rfl)) hs) fun σ H Q ⟨ads, ρ, hp, rl, h⟩ => ⟨ads, ρ, hp, rl, (Res.bind up_wx h).imp fun v H1 ⟨ads1, q, hp1, e1, hr1, rp, h1⟩ => ?_⟩
  cases q with
  | int j =>
    simp only [relV, RV] at rp; subst rp
    simp only at h1
    split at h1
    · rename_i hj
      exact ⟨j, rfl, hj.1, hj.2, Res.atOk (E := Wx D ca W σ) h1 hr1 src_rng⟩
    · exact h1.elim
  | _ => exact h1.elim
theorem si_rng2 (hg : Gl X "range") (hm : X.mg "range" = none) (ha : PE X a (VE D ca W ma)) (hb : PE X b (VE D ca W mb)) (hs : starEach [a, b] X.env = [(false, eval a X.env), (false, eval b X.env)]) (hs2 : starEach [b] X.env = [(false, eval b X.env)]) :
    PI X tg (.Call (.Name "range" p) [a, b] [] pos) (VI w D ca W fun ρ h => (ma ρ h).bind fun p h => (mb ρ h).bind fun q h => match p, q with | .int i, .int j => if inR i ∧ inR j then .ok (.fix (rngL i (j - i).toNat)) h else .bad | _, _ => .bad) := by
  refine PI.imp (pi_range2 hg hm (pa_cons ha (pa_cons hb pa_nil (by rw [hs2]; rfl)) (by rw [hs, hs2])) hs hs2) fun σ H Q ⟨ads, ρ, hp, rl, h⟩ => ⟨ads, ρ, hp, rl, (Res.bind up_wx h).imp fun v H1 ⟨ads1, p, hp1, e1, hr1, rp, h1⟩ => ?_⟩
  refine ⟨ads1, ρ, hp1, rl.ext e1 hr1, (Res.bind up_wx h1).imp fun u H2 ⟨ads2, q, hp2, e2, hr2, rq, h2⟩ => ?_⟩
  cases p with
  | int i =>
    cases q with
    | int j =>
      simp only [relV, RV] at rp rq; subst rp; subst rq
      simp only at h2
      split at h2
      · rename_i hj
        exact ⟨i, j, rfl, ⟨hj.1.1, hj.1.2, hj.2.1, hj.2.2⟩, Res.atOk (E := Wx D ca W σ) h2 hr2 src_rng⟩
      · exact h2.elim
    | _ => exact h2.elim
  | _ => exact h2.elim
theorem si_zip {elts : List Expr} {kk : Nat} {tpos : Pos} (hK : D.K = X.K) (hg : Gl X "zip") (hm : X.mg "zip" = none) (ha : PE X a (VE D ca W ma)) (hb : PE X b (VE D ca W mb)) (hs : starEach [a, b] X.env = (false, eval a X.env) :: starEach [b] X.env) (hs2 : starEach [b] X.env = (false, eval b X.env) :: starEach [] X.env) :
    PI X (.Tuple elts kk tpos) (.Call (.Name "zip" p) [a, b] [] pos) (VI true D ca W fun ρ h => (ma ρ h).bind fun p h => (mb ρ h).bind fun q h => match listOf h p, listOf h q with
    | some _, some _ => .ok (.zip p q) h
    | _, _ => (match p, q with | .tup xs, .tup ys => .ok (.fix (xs.zipWith (fun a b => .tup [a, b]) ys)) h | _, _ => .bad)) := by
  refine PI.imp (RZ.pi_zipA hg hm (pa_cons ha (pa_cons hb pa_nil hs2) hs) hs (by rw [hs2]; rfl)) fun σ H Q ⟨ads, ρ, hp, rl, h⟩ => ⟨ads, ρ, hp, rl, (Res.bind up_wx h).imp fun v H1 ⟨ads1, p, hp1, e1, hr1, rp, h1⟩ => ?_⟩
  refine ⟨ads1, ρ, hp1, rl.ext e1 hr1, (Res.bind up_wx h1).imp fun u H2 ⟨ads2, q, hp2, e2, hr2, rq, h2⟩ => ?_⟩
  have rp2 := RV.ext hr1.mut e2 rp
  split at h2
  · rename_i xs ys e1 e2
    obtain ⟨a, rfl, la⟩ := LsR.of hr2 rp2 e1
    obtain ⟨b, rfl, lb⟩ := LsR.of hr2 rq e2
    obtain ⟨vs, h3, _⟩ := la.at hr2 e1
    obtain ⟨ws, h4, _⟩ := lb.at hr2 e2
    exact ⟨a, b, vs, ws, rfl, .inl ⟨hK ▸ h3, hK ▸ h4, hK ▸ Res.atOk (E := Wx D ca W σ) h2 hr2 (src_zip hr2.mut la lb)⟩⟩
  · split at h2
    · rename_i xs ys _
      simp only [relV, RV] at rp2 rq
      obtain ⟨a, vs, rfl, h3, h4⟩ := rp2
      obtain ⟨b, ws, rfl, h5, h6⟩ := rq
      exact ⟨a, b, vs, ws, rfl, .inr ⟨hK ▸ h3.sqT, hK ▸ h5.sqT, hK ▸ Res.atOk (E := Wx D ca W σ) h2 hr2 (src_zipT hr2.mut h3 h5 h4 h6)⟩⟩
    · exact h2.elim
/-! ### for -/
theorem ss_for {tgt : Tg} {body : List Stmt} {mi : PEnv → IH → R Src} {mb : PEnv → IH → SR} {fuel : Nat} (hp : PassesOwn (model X.prog X.w) X.A X.env X.xe) (hc : X.calm = true) (hi : PI X tg e (VI tgt.isMany D ca W mi)) (hg : PG X tg (gT D tgt)) (hb : PSs X body (VS D ca W mb))
    (hs : ∀ x, foldedSetIterable e X.env x = pure x) : PS X (.For tg e body [] pos) (VS D ca W fun ρ h => (mi ρ h).st ρ fun s h => forGo s tgt mb fuel 0 ρ h) := by
  refine PS.imp (ps_for hp hc hi hg hb hs) fun E σ H ⟨ads, ρ, hp, rl, h⟩ => ⟨ads, ρ, hp, rl, (SRes.st rl h).imp fun J H1 ⟨ads1, src, hp1, e1, rl1, sr, h1⟩ => ?_⟩
  refine ⟨fun i m σ H => ∃ ads ρ hp, Rel D ads ρ hp σ H ∧ SrcR tgt.isMany D ads H src J ∧ SRes D ca W ads H E (forGo src tgt mb m i ρ hp), ⟨fuel, ads1, ρ, hp1, rl1, sr, h1⟩, ?_⟩
  intro i m σ H ⟨ads, ρ, hp, rl, sr, h⟩
  cases m with
  | zero => exact h.elim
  | succ m =>
    rw [forGo] at h
    cases q : srcAt src i hp with
    | none => rw [q] at h; exact h.elim
    | some o =>
      rw [q] at h
      have st := sr ads hp H .refl rl.hr i o q
      cases o with
      | none => exact .inl ⟨st, SRes.nxOk h rl⟩
      | some p =>
        simp only at h
        cases q2 : tgO tgt p ρ with
        | none => rw [q2] at h; exact h.elim
        | some ρ1 =>
          rw [q2] at h
          refine .inr ⟨st.1, fun σ H => ∃ ads ρ hp, Rel D ads ρ hp σ H ∧ SrcR tgt.isMany D ads H src J ∧ SRes D ca W ads H E (forGo src tgt mb m (i + 1) ρ hp), fun σ' H' n => ⟨m, Nat.lt_succ_self _, n⟩, fun x H' y => ?_⟩
          obtain ⟨e2, hr2, ir⟩ := st.2 x H' y
          refine ⟨ads, ρ, hp, p, ρ1, rl.ext e2 hr2, ir, q2, fun σ' rl' _ => ⟨ads, ρ1, hp, rl', SRes.turn (SRes.ext e2 h) fun ads' ρ hp σ'' H'' e3 rl3 h3 => ⟨ads', ρ, hp, rl3, (sr.ext e2).ext e3, h3⟩⟩⟩
end
end Pi

set_option Elab.async false
set_option linter.all false
set_option maxRecDepth 100000
set_option maxHeartbeats 4000000
/-! Pi J: comprehensions, assignments. -/
namespace Pi
open PySem PySem.Spec PyProof.Rows L2

section
variable {D : Gd} {ads ads1 : List Addr} {H H1 : Hp} {hp : IH}
mutual
theorem RV.per (pre : ∃ t, ads1 = ads ++ t) (kp : ∀ a o, H a = some o → (∀ vs, o ≠ .lst vs) → H1 a = some o) : ∀ {p : PV} {v : V}, RV D ads H p v → RV D ads1 H1 p v
  | .non, _, h => by simpa [RV] using h
  | .bl _, _, h => by simpa [RV] using h
  | .int _, _, h => by simpa [RV] using h
  | .str _, _, h => by simpa [RV] using h
  | .fn _, _, h => by simpa [RV] using h
  | .tup xs, _, h => by
    simp only [RV] at h ⊢
    obtain ⟨a, vs, h1, h2, h3⟩ := h
    refine ⟨a, vs, h1, ?_, RVs.per pre kp h3⟩
    rcases h2 with ⟨o, h2, hd⟩ | h2
    · exact .inl ⟨o, kp a _ h2 (fun vs => by intro z; cases z), hd⟩
    · exact .inr h2
  | .rol xs, _, h => by
    simp only [RV] at h ⊢
    obtain ⟨a, vs, h1, h2, h3⟩ := h
    refine ⟨a, vs, h1, ?_, RVs.per pre kp h3⟩
    rcases h2 with ⟨o, h2⟩ | h2
    · exact .inl ⟨o, kp a _ h2 (fun vs => by intro z; cases z)⟩
    · exact .inr h2
  | .ref n, _, h => by
    simp only [RV] at h ⊢
    obtain ⟨a, h1, h2⟩ := h
    obtain ⟨t, ht⟩ := pre
    refine ⟨a, h1, ?_⟩
    rw [ht, List.getElem?_append_left (List.getElem?_eq_some_iff.mp h2).1]
    exact h2
theorem RVs.per (pre : ∃ t, ads1 = ads ++ t) (kp : ∀ a o, H a = some o → (∀ vs, o ≠ .lst vs) → H1 a = some o) : ∀ {ps : List PV} {vs : List V}, RVs D ads H ps vs → RVs D ads1 H1 ps vs
  | [], _, h => by simpa [RVs] using h
  | p :: ps, _, h => by
    simp only [RVs] at h ⊢
    obtain ⟨v, r, h1, h2, h3⟩ := h
    exact ⟨v, r, h1, RV.per pre kp h2, RVs.per pre kp h3⟩
end
/-- a list that is not ours yet is written -/
theorem HR.hid {a : Addr} {us ws : List V} (h : HR D ads hp H) (ha : H a = some (.lst us)) (na : a ∉ ads) : HR D ads hp (upd H a (.lst ws)) ∧ ∀ b o, H b = some o → (∀ vs, o ≠ .lst vs) → upd H a (.lst ws) b = some o := by
  have kp : ∀ b o, H b = some o → (∀ vs, o ≠ .lst vs) → upd H a (.lst ws) b = some o := fun b o e ne => by
    rw [upd_ne fun z => ne us (by rw [z, ha] at e; exact (Option.some.inj e).symm)]
    exact e
  refine ⟨⟨h.len, h.nd, fun n b c h1 h2 => ?_⟩, kp⟩
  have nb : b ≠ a := fun z => na (z ▸ List.mem_of_getElem? h1)
  cases c with
  | lst xs =>
    obtain ⟨vs, q1, q2⟩ := h.ok n b _ h1 h2
    exact ⟨vs, by rw [upd_ne nb]; exact q1, RVs.per ⟨[], by simp⟩ kp q2⟩
/-- it becomes ours -/
theorem HR.add {a : Addr} {vs : List V} {xs : List PV} (h : HR D ads hp H) (ha : H a = some (.lst vs)) (na : a ∉ ads) (r : RVs D ads H xs vs) : HR D (ads ++ [a]) (hp ++ [.lst xs]) H := by
  have pr : ∃ t, ads ++ [a] = ads ++ t := ⟨[a], rfl⟩
  refine ⟨by simp [h.len], List.nodup_append.mpr ⟨h.nd, by simp, fun x hx b hb z => by rw [List.mem_singleton.mp hb] at z; exact na (z ▸ hx)⟩, fun n b c h1 h2 => ?_⟩
  by_cases hlt : n < ads.length
  · rw [List.getElem?_append_left hlt] at h1
    rw [List.getElem?_append_left (h.len ▸ hlt)] at h2
    have q := h.ok n b c h1 h2
    cases c with
    | lst ys =>
      obtain ⟨ws, q1, q2⟩ := q
      exact ⟨ws, q1, RVs.per pr (fun _ _ e _ => e) q2⟩
  · have hn2 : n = ads.length := by
      have := (List.getElem?_eq_some_iff.mp h1).1
      simp at this; omega
    subst hn2
    have e1 : a = b := by simpa using h1
    have e2 : Cell.lst xs = c := by rw [h.len] at h2; simpa using h2
    subst e1; subst e2
    exact ⟨vs, ha, RVs.per pr (fun _ _ e _ => e) r⟩
end

/-! ### comprehensions -/
abbrev W0 : WX := fun _ _ _ _ => False
def tgOwn (N : List Str) (tg : Tg) : List (Str × Nat) := tg.slots.map fun i => ((N[i]?).getD "", i)
theorem tgOwn_slots (N : List Str) (tg : Tg) : (tgOwn N tg).map (·.2) = tg.slots := by simp [tgOwn, Function.comp_def]
section
variable {X : Cx} {D : Gd} {ca : Nat → Option Addr} {W : WX} {mi : PEnv → IH → R Src} {mt : PEnv → IH → R Bool} {me : PEnv → IH → R PV} {tgt : Tg} {fuel : Nat}
theorem lc_of {tt : TT} (htt : ∀ σ H Q, VT D ca W0 mt σ H Q → tt σ H Q) (σ : L2.St) (H : Hp) (Q : VK)
    (h : VE D ca W (fun ρ h => (mi ρ h).bind fun s h => lcGo s (lcStep tgt mt me (wipeP ρ tgt.slots)) fuel 0 [] h) σ H Q) : tLc (VI tgt.isMany D ca W mi) (gT D tgt) tt (VE D ca W0 me) tgt.slots σ H Q := by
  obtain ⟨ads, ρ, hp, rl, h⟩ := h
  refine ⟨ads, ρ, hp, rl, (Res.bind up_wx h).imp fun J H1 ⟨ads1, src, hp1, e1, hr1, sr, h1⟩ => ?_⟩
  intro Da hDa
  have rl1 := rl.ext e1 hr1
  have nDa : Da ∉ ads1 := fun z => by obtain ⟨vs, q⟩ := hr1.mut Da z; rw [hDa] at q; cases q
  obtain ⟨f1, f2⟩ := hr1.fresh (o := .lst []) hDa
  refine ⟨fun i m H => ∃ ads hp acc vs, HR D ads hp H ∧ Ext ads1 ads H1 H ∧ H Da = some (.lst vs) ∧ Da ∉ ads ∧ RVs D ads H acc vs ∧ Res D (Wx D ca W σ) ads1 H1 (relV D) Q (lcGo src (lcStep tgt mt me (wipeP ρ tgt.slots)) m i acc hp),
    ⟨fuel, ads1, hp1, [], [], f1, f2, upd_same, nDa, RVs.nil, h1⟩, ?_⟩
  intro i m H2 ⟨ads2, hp2, acc, vs, hr2, e2, hd, nd, ra, h2⟩
  cases m with
  | zero => exact h2.elim
  | succ m =>
    rw [lcGo] at h2
    cases q : srcAt src i hp2 with
    | none => rw [q] at h2; exact h2.elim
    | some o =>
      rw [q] at h2
      have st := sr ads2 hp2 H2 e2 hr2 i o q
      cases o with
      | none =>
        refine .inl ⟨st, h2 (ads2 ++ [Da]) (.ref Da) H2 ⟨?_, fun a h3 h4 => ?_, e2.keep⟩ (hr2.add hd nd ra) ?_⟩
        · obtain ⟨t, ht⟩ := e2.pre
          exact ⟨t ++ [Da], by rw [ht, List.append_assoc]⟩
        · rcases List.mem_append.mp h3 with h3 | h3
          · exact e2.new a h3 h4
          · rw [List.mem_singleton.mp h3]; exact hDa
        · simp only [relV, RV]
          exact ⟨Da, rfl, by rw [← hr2.len]; simp⟩
      | some p =>
        refine .inr ⟨st.1, fun H => ∃ ads hp acc vs, HR D ads hp H ∧ Ext ads1 ads H1 H ∧ H Da = some (.lst vs) ∧ Da ∉ ads ∧ RVs D ads H acc vs ∧ Res D (Wx D ca W σ) ads1 H1 (relV D) Q (lcGo src (lcStep tgt mt me (wipeP ρ tgt.slots)) m (i + 1) acc hp),
          fun H' n => ⟨m, Nat.lt_succ_self _, n⟩, fun x H' y => ?_⟩
        obtain ⟨e3, hr3, ir⟩ := st.2 x H' y
        have hd3 := e3.keep Da _ nd hd
        have ra3 := RVs.ext hr2.mut e3 ra
        have e13 := e2.trans e3
        simp only [lcStep] at h2
        cases q2 : tgO tgt p (wipeP ρ tgt.slots) with
        | none => rw [q2] at h2; exact h2.elim
        | some ρ1 =>
          rw [q2] at h2
          simp only at h2
          refine ⟨ads2, wipeP ρ tgt.slots, hp2, p, ρ1, (rl1.wipe tgt.slots).ext e13 hr3, ir, q2, fun σ' rl' hw => ⟨(hw tgt.slots fun i hi => hi).trans (wipe_wipe _ _), htt _ _ _ ⟨ads2, ρ1, hp2, rl', ?_⟩⟩⟩
          cases q3 : mt ρ1 hp2 with
          | bad => simp only [noX, R.bind, q3] at h2; exact h2.elim
          | ex _ _ => simp only [noX, R.bind, q3] at h2; exact h2.elim
          | ok t hp3 =>
            simp only [noX, R.bind, q3] at h2
            intro ads3 b H3 e4 hr4 hb
            cases hb
            have hd4 := e4.keep Da _ nd hd3
            have nd4 : Da ∉ ads3 := fun z => by have := e4.new Da z nd; rw [hd3] at this; cases this
            have ra4 := RVs.ext hr3.mut e4 ra3
            have e14 := e13.trans e4
            cases t with
            | false => exact iteF ⟨ads3, hp3, acc, vs, hr4, e14, hd4, nd4, ra4, h2⟩
            | true =>
              refine iteT ⟨ads3, ρ1, hp3, rl'.ext e4 hr4, ?_⟩
              cases q5 : me ρ1 hp3 with
              | bad => simp only [noX, R.bind, q5] at h2; exact h2.elim
              | ex _ _ => simp only [noX, R.bind, q5] at h2; exact h2.elim
              | ok y hp4 =>
                simp only [noX, R.bind, q5] at h2
                intro ads4 v H4 e5 hr5 rv
                have hd5 := e5.keep Da _ nd4 hd4
                have nd5 : Da ∉ ads4 := fun z => by have := e5.new Da z nd4; rw [hd4] at this; cases this
                have ra5 := RVs.ext hr4.mut e5 ra4
                have e15 := e14.trans e5
                split at h2
                · rename_i hz
                  obtain ⟨g1, g2⟩ := hr5.hid (ws := vs ++ [v]) hd5 nd5
                  refine ⟨vs, hd5, by rw [← ra5.length]; exact hz, ads4, hp4, acc ++ [y], vs ++ [v], g1, ⟨e15.pre, e15.new, fun a o h3 h4 => ?_⟩, upd_same, nd5, RVs.per ⟨[], by simp⟩ g2 (ra5.append (RVs.cons rv RVs.nil)), h2⟩
                  rw [upd_ne (ne_of_none h4 hDa)]
                  exact e15.keep a o h3 h4
                · exact h2.elim
variable {elt tg iter c : Expr} {scope : Scope} {pos : Pos}
theorem se_lc (hc : X.calm = true) (hN : X.N.Nodup) (hi : PI X tg iter (VI tgt.isMany D ca W mi)) (ok : BlkOk X.N X.env.scope scope (tgOwn X.N tgt))
    (hg : ∀ (s : Shared) (H : Hp) (C : Addr) (cl : List (Str × Addr)) (fp : List Addr), PG (X.blk s H scope (compEnvC scope cl C X.env) fp) tg (gT D tgt))
    (he : ∀ (s : Shared) (H : Hp) (C : Addr) (cl : List (Str × Addr)) (fp : List Addr), PE (X.blk s H scope (compEnvC scope cl C X.env) fp) elt (VE D ca W0 me)) (hs : ∀ x, foldedSetIterable iter X.env x = pure x) :
    PE X (.ListComp elt [⟨tg, iter, [], 0⟩] scope pos) (VE D ca W fun ρ h => (mi ρ h).bind fun s h => lcGo s (lcStep tgt (fun _ h => .ok true h) me (wipeP ρ tgt.slots)) fuel 0 [] h) := by
  refine PE.imp (pe_lc hc hN hi ok hg (fun _ _ _ _ _ => pts_nil) he hs) fun σ H Q h => ?_
  rw [tgOwn_slots]
  exact lc_of (fun σ H Q ⟨ads, ρ, hp, rl, h⟩ => Res.atOk (E := Wx D ca W0 σ) h rl.hr rfl) σ H Q h
theorem se_lcIf (hc : X.calm = true) (hN : X.N.Nodup) (hi : PI X tg iter (VI tgt.isMany D ca W mi)) (ok : BlkOk X.N X.env.scope scope (tgOwn X.N tgt))
    (hg : ∀ (s : Shared) (H : Hp) (C : Addr) (cl : List (Str × Addr)) (fp : List Addr), PG (X.blk s H scope (compEnvC scope cl C X.env) fp) tg (gT D tgt))
    (ht : ∀ (s : Shared) (H : Hp) (C : Addr) (cl : List (Str × Addr)) (fp : List Addr), PT (X.blk s H scope (compEnvC scope cl C X.env) fp) c (VT D ca W0 mt))
    (he : ∀ (s : Shared) (H : Hp) (C : Addr) (cl : List (Str × Addr)) (fp : List Addr), PE (X.blk s H scope (compEnvC scope cl C X.env) fp) elt (VE D ca W0 me)) (hs : ∀ x, foldedSetIterable iter X.env x = pure x) :
    PE X (.ListComp elt [⟨tg, iter, [c], 0⟩] scope pos) (VE D ca W fun ρ h => (mi ρ h).bind fun s h => lcGo s (lcStep tgt mt me (wipeP ρ tgt.slots)) fuel 0 [] h) := by
  refine PE.imp (pe_lc hc hN hi ok hg (fun s H C cl fp => pts_one (ht s H C cl fp)) he hs) fun σ H Q h => ?_
  rw [tgOwn_slots]
  exact lc_of (fun σ H Q h => h) σ H Q h
/-- name = [..] where the value goes to the name before the block's end -/
theorem ss_setLc {i : Nat} {y : Str} {py spos : Pos} (hc : X.calm = true) (hN : X.N.Nodup) (hy : X.N[i]? = some y) (hyl : X.env.scope.names.lookup y = some .local)
    (hsw : swapsWith (.ListComp elt [⟨tg, iter, [], 0⟩] scope pos) (some (.Name y py)) spos.line X.env = pure true) (hi : PI X tg iter (VI tgt.isMany D ca W mi)) (ok : BlkOk X.N X.env.scope scope (tgOwn X.N tgt))
    (hg : ∀ (s : Shared) (H : Hp) (C : Addr) (cl : List (Str × Addr)) (fp : List Addr), PG (X.blk s H scope (compEnvC scope cl C X.env) fp) tg (gT D tgt))
    (he : ∀ (s : Shared) (H : Hp) (C : Addr) (cl : List (Str × Addr)) (fp : List Addr), PE (X.blk s H scope (compEnvC scope cl C X.env) fp) elt (VE D ca W0 me)) (hs : ∀ x, foldedSetIterable iter X.env x = pure x) :
    PS X (.Assign [.Name y py] (.ListComp elt [⟨tg, iter, [], 0⟩] scope pos) spos) (VS D ca W fun ρ h => ((mi ρ h).bind fun s h => lcGo s (lcStep tgt (fun _ h => .ok true h) me (wipeP ρ tgt.slots)) fuel 0 [] h).st ρ fun p h => .nx (ρ.set i (some p)) h) := by
  refine PS.imp (ps_setLc hc hN hy hyl hsw hi ok hg (fun _ _ _ _ _ => pts_nil) he hs) fun E σ H ⟨ads, ρ, hp, rl, h⟩ => ?_
  rw [tgOwn_slots]
  refine lc_of (mt := fun _ h => .ok true h) (fuel := fuel) (W := W) (fun σ H Q ⟨ads, ρ, hp, rl, h⟩ => Res.atOk (E := Wx D ca W0 σ) h rl.hr rfl) σ H _ ⟨ads, ρ, hp, rl, (SRes.st rl h).imp fun v H1 ⟨ads1, q, hp1, e1, rl1, rq, h1⟩ => SRes.nxOk h1 (rl1.set rq)⟩
theorem ss_setLcIf {i : Nat} {y : Str} {py spos : Pos} (hc : X.calm = true) (hN : X.N.Nodup) (hy : X.N[i]? = some y) (hyl : X.env.scope.names.lookup y = some .local)
    (hsw : swapsWith (.ListComp elt [⟨tg, iter, [c], 0⟩] scope pos) (some (.Name y py)) spos.line X.env = pure true) (hi : PI X tg iter (VI tgt.isMany D ca W mi)) (ok : BlkOk X.N X.env.scope scope (tgOwn X.N tgt))
    (hg : ∀ (s : Shared) (H : Hp) (C : Addr) (cl : List (Str × Addr)) (fp : List Addr), PG (X.blk s H scope (compEnvC scope cl C X.env) fp) tg (gT D tgt))
    (ht : ∀ (s : Shared) (H : Hp) (C : Addr) (cl : List (Str × Addr)) (fp : List Addr), PT (X.blk s H scope (compEnvC scope cl C X.env) fp) c (VT D ca W0 mt))
    (he : ∀ (s : Shared) (H : Hp) (C : Addr) (cl : List (Str × Addr)) (fp : List Addr), PE (X.blk s H scope (compEnvC scope cl C X.env) fp) elt (VE D ca W0 me)) (hs : ∀ x, foldedSetIterable iter X.env x = pure x) :
    PS X (.Assign [.Name y py] (.ListComp elt [⟨tg, iter, [c], 0⟩] scope pos) spos) (VS D ca W fun ρ h => ((mi ρ h).bind fun s h => lcGo s (lcStep tgt mt me (wipeP ρ tgt.slots)) fuel 0 [] h).st ρ fun p h => .nx (ρ.set i (some p)) h) := by
  refine PS.imp (ps_setLc hc hN hy hyl hsw hi ok hg (fun s H C cl fp => pts_one (ht s H C cl fp)) he hs) fun E σ H ⟨ads, ρ, hp, rl, h⟩ => ?_
  rw [tgOwn_slots]
  refine lc_of (mt := mt) (fuel := fuel) (W := W) (fun σ H Q h => h) σ H _ ⟨ads, ρ, hp, rl, (SRes.st rl h).imp fun v H1 ⟨ads1, q, hp1, e1, rl1, rq, h1⟩ => SRes.nxOk h1 (rl1.set rq)⟩
end

/-! ### assignments -/
section
variable {X : Cx} {D : Gd} {ca : Nat → Option Addr} {W : WX} {pos : Pos} {e a b c : Expr} {me ma mb mc : PEnv → IH → R PV}
theorem ss_set {i : Nat} {x : Str} {pos' : Pos} (hN : X.N.Nodup) (hi : X.N[i]? = some x) (hx : Loc X.env.scope x) (he : PE X e (VE D ca W me)) (hs : swapsWith e (some (.Name x pos')) pos.line X.env = pure false) (hf : X.fn x = true ∨ X.env.scope.names.lookup x = some .local) :
    PS X (.Assign [.Name x pos'] e pos) (VS D ca W fun ρ h => (me ρ h).st ρ fun p h => .nx (ρ.set i (some p)) h) :=
  PS.imp (ps_set hN hi hx he hs hf) fun E σ H ⟨ads, ρ, hp, rl, h⟩ => ⟨ads, ρ, hp, rl, (SRes.st rl h).imp fun v H1 ⟨ads1, q, hp1, e1, rl1, rq, h1⟩ => SRes.nxOk h1 (rl1.set rq)⟩
theorem ss_asg {tg : Expr} {tgt : Tg} (he : PE X e (VE D ca W me)) (hg : PG X tg (gT D tgt)) (hs : swapsWithSole [tg] e pos.line X.env = pure false) (hw : swappedStores [tg] e X.env = pure none) (h1 : (assignEach [tg] X.env).map (·.2) = [assign tg X.env]) :
    PS X (.Assign [tg] e pos) (VS D ca W fun ρ h => (me ρ h).st ρ fun p h => (match tgO tgt p ρ with | some ρ1 => .nx ρ1 h | none => .bad)) := by
  refine PS.imp (ps_asg he hg hs hw h1) fun E σ H ⟨ads, ρ, hp, rl, h⟩ => ⟨ads, ρ, hp, rl, (SRes.st rl h).imp fun v H1 ⟨ads1, q, hp1, e1, rl1, rq, h1⟩ => ?_⟩
  cases q2 : tgO tgt q ρ with
  | none => rw [q2] at h1; exact h1.elim
  | some ρ1 => rw [q2] at h1; exact ⟨ads1, ρ, hp1, q, ρ1, rl1, .inl rq, q2, fun σ' rl' _ => SRes.nxOk h1 rl'⟩
theorem ss_par2 {i j : Nat} {x y : Str} {px py pt : Pos} {kt k2 : Nat} {pt2 : Pos} (hc : X.calm = true) (hN : X.N.Nodup) (hi : X.N[i]? = some x) (hj : X.N[j]? = some y) (hij : i ≠ j)
    (hx : X.env.scope.names.lookup x = some .local) (hy : X.env.scope.names.lookup y = some .local) (ha : PE X a (VE D ca W ma)) (hb : PE X b (VE D ca W mb))
    (s1 : starEach [a, b] X.env = (false, eval a X.env) :: starEach [b] X.env) (s2 : starEach [b] X.env = (false, eval b X.env) :: starEach [] X.env)
    (hw : swappedStores [.Tuple [.Name x px, .Name y py] kt pt] (.Tuple [a, b] k2 pt2) X.env = pure (some [x, y])) :
    PS X (.Assign [.Tuple [.Name x px, .Name y py] kt pt] (.Tuple [a, b] k2 pt2) pos) (VS D ca W fun ρ h => (ma ρ h).st ρ fun p h => (mb ρ h).st ρ fun q h => .nx ((ρ.set i (some p)).set j (some q)) h) := by
  refine PS.imp (ps_par hc hN hi hj hij hx hy (pa_cons ha (pa_cons hb pa_nil s2) s1) hw rfl) fun E σ H ⟨ads, ρ, hp, rl, h⟩ => ⟨ads, ρ, hp, rl, (SRes.st rl h).imp fun v H1 ⟨ads1, p, hp1, e1, rl1, rp, h1⟩ => ?_⟩
  refine ⟨ads1, ρ, hp1, rl1, (SRes.st rl1 h1).imp fun u H2 ⟨ads2, q, hp2, e2, rl2, rq, h2⟩ => ⟨v, u, rfl, SRes.nxOk h2 ((rl2.set (RV.ext rl1.hr.mut e2 rp)).set rq)⟩⟩
theorem ss_par3 {i j l : Nat} {x y z : Str} {px py pz pt : Pos} {kt k2 : Nat} {pt2 : Pos} (hc : X.calm = true) (hN : X.N.Nodup) (hi : X.N[i]? = some x) (hj : X.N[j]? = some y) (hl : X.N[l]? = some z) (hij : i ≠ j) (hil : i ≠ l) (hjl : j ≠ l)
    (hx : X.env.scope.names.lookup x = some .local) (hy : X.env.scope.names.lookup y = some .local) (hz : X.env.scope.names.lookup z = some .local) (ha : PE X a (VE D ca W ma)) (hb : PE X b (VE D ca W mb)) (hcc : PE X c (VE D ca W mc))
    (s1 : starEach [a, b, c] X.env = (false, eval a X.env) :: starEach [b, c] X.env) (s2 : starEach [b, c] X.env = (false, eval b X.env) :: starEach [c] X.env) (s3 : starEach [c] X.env = (false, eval c X.env) :: starEach [] X.env)
    (hw : swappedStores [.Tuple [.Name x px, .Name y py, .Name z pz] kt pt] (.Tuple [a, b, c] k2 pt2) X.env = pure (some [x, y, z])) :
    PS X (.Assign [.Tuple [.Name x px, .Name y py, .Name z pz] kt pt] (.Tuple [a, b, c] k2 pt2) pos)
      (VS D ca W fun ρ h => (ma ρ h).st ρ fun p h => (mb ρ h).st ρ fun q h => (mc ρ h).st ρ fun r h => .nx (((ρ.set i (some p)).set j (some q)).set l (some r)) h) := by
  refine PS.imp (ps_par3 hc hN hi hj hl hij hil hjl hx hy hz (pa_cons ha (pa_cons hb (pa_cons hcc pa_nil s3) s2) s1) hw rfl) fun E σ H ⟨ads, ρ, hp, rl, h⟩ => ⟨ads, ρ, hp, rl, (SRes.st rl h).imp fun v H1 ⟨ads1, p, hp1, e1, rl1, rp, h1⟩ => ?_⟩
  refine ⟨ads1, ρ, hp1, rl1, (SRes.st rl1 h1).imp fun u H2 ⟨ads2, q, hp2, e2, rl2, rq, h2⟩ => ?_⟩
  refine ⟨ads2, ρ, hp2, rl2, (SRes.st rl2 h2).imp fun t H3 ⟨ads3, r, hp3, e3, rl3, rr, h3⟩ => ⟨v, u, t, rfl, SRes.nxOk h3 (((rl3.set (RV.ext rl2.hr.mut e3 (RV.ext rl1.hr.mut e2 rp))).set (RV.ext rl2.hr.mut e3 rq)).set rr)⟩⟩
theorem ss_setix {o i : Expr} {mo mx : PEnv → IH → R PV} {tp : Pos} (ho : PE X o (VE D ca W mo)) (hi : PE X i (VE D ca W mx)) (he : PE X e (VE D ca W me))
    (ha : ∀ v, assign (.Subscript o i tp) X.env v = (do
      let ov ← holding [v] (eval o X.env)
      let iv ← holding [v, ov] (eval i X.env)
      standAt tp
      holding [v, ov, iv] (setItem ov iv v)
      release [v, ov, iv] []))
    (hs : swapsWithSole [.Subscript o i tp] e pos.line X.env = pure false) (hw : swappedStores [.Subscript o i tp] e X.env = pure none) (h1 : (assignEach [.Subscript o i tp] X.env).map (·.2) = [assign (.Subscript o i tp) X.env]) :
    PS X (.Assign [.Subscript o i tp] e pos) (VS D ca W fun ρ h => (me ρ h).st ρ fun p h => (mo ρ h).st ρ fun q h => (mx ρ h).st ρ fun k h => (match setixO q k p h with | some h => .nx ρ h | none => .bad)) := by
  refine PS.imp (ps_asg he (pg_sub ho hi set_list ha) hs hw h1) fun E σ H ⟨ads, ρ, hp, rl, h⟩ => ⟨ads, ρ, hp, rl, (SRes.st rl h).imp fun v H1 ⟨ads1, p, hp1, e1, rl1, rp, h1⟩ => ?_⟩
  refine ⟨ads1, ρ, hp1, rl1, (SRes.st rl1 h1).imp fun u H2 ⟨ads2, q, hp2, e2, rl2, rq, h2⟩ => ?_⟩
  refine ⟨ads2, ρ, hp2, rl2, (SRes.st rl2 h2).imp fun t H3 ⟨ads3, k, hp3, e3, rl3, rk, h3⟩ => ?_⟩
  have rp3 := RV.ext rl2.hr.mut e3 (RV.ext rl1.hr.mut e2 rp)
  have rq3 := RV.ext rl2.hr.mut e3 rq
  unfold setixO at h3
  cases q with
  | ref n =>
    cases k with
    | int k =>
      simp only [relV, RV] at rk; subst rk
      simp only at h3
      cases el : lstAt hp3 n with
      | none => rw [el] at h3; exact h3.elim
      | some xs =>
        rw [el] at h3
        obtain ⟨l, us, rfl, hn, h5, h6⟩ := rl3.hr.atRef rq3 el
        simp only [Option.bind_some] at h3
        cases ei : ixN xs.length k with
        | none => rw [ei] at h3; exact h3.elim
        | some j =>
          rw [ei] at h3
          obtain ⟨w1, w2⟩ := rl3.hr.write hn h5 (h6.set j rp3)
          exact ⟨l, us, k, j, rfl, rfl, h5, by rw [← h6.length]; exact ei, h3 ads3 σ _ w2 (rl3.ext w2 w1)⟩
    | _ => exact h3.elim
  | _ => exact h3.elim
/-- name op= e -/
theorem op_aug (o : BO) : OpR X (inplaceOp (boOf o)) (fun x y H Q => ∃ ads hp p q r, HR D ads hp H ∧ RV D ads H p x ∧ RV D ads H q y ∧ augO o p q = some r ∧ ∀ v, RV D ads H r v → Q v H) := by
  refine OpR.case fun x y H Q h => ?_
  obtain ⟨ads, hp, p, q, r, hr, rp, rq, e, h⟩ := h
  unfold augO at e
  split at e
  · simp only [RV] at rp rq; subst rp; subst rq; cases e
    exact ⟨_, iop_add, _, _, rfl, rfl, h _ (by simp [RV])⟩
  · simp only [RV] at rp rq; subst rp; subst rq; cases e
    exact ⟨_, iop_sub, _, _, rfl, rfl, h _ (by simp [RV])⟩
  · simp only [RV] at rp rq; subst rp; subst rq
    split at e
    · cases e; exact ⟨_, iop_mul, _, _, rfl, rfl, by assumption, h _ (by simp [RV])⟩
    · cases e
  · simp only [RV] at rp rq; subst rp; subst rq
    split at e
    · cases e; exact ⟨_, iop_fdiv, _, _, rfl, rfl, by assumption, h _ (by simp [RV])⟩
    · cases e
  · simp only [RV] at rp rq; subst rp; subst rq
    split at e
    · cases e; exact ⟨_, iop_mod, _, _, rfl, rfl, by assumption, h _ (by simp [RV])⟩
    · cases e
  · cases e
theorem ss_aug {i : Nat} {x : Str} {pos' : Pos} (o : BO) (hN : X.N.Nodup) (hi : X.N[i]? = some x) (hx : Loc X.env.scope x) (he : PE X e (VE D ca W me)) (hf : X.fn x = true ∨ X.env.scope.names.lookup x = some .local) :
    PS X (.AugAssign (.Name x pos') (boOf o) e pos) (VS D ca W fun ρ h => (match ρ[i]?.join with
    | some p => (me ρ h).st ρ fun q h => (match augO o p q with
      | some r => .nx (ρ.set i (some r)) h
      | none => .bad)
    | none => .bad)) := by
  refine PS.imp (ps_aug hN hi hx he (op_aug (D := D) o) hf) fun E σ H ⟨ads, ρ, hp, rl, h⟩ => ?_
  dsimp only at h
  cases e1 : ρ[i]? with
  | none => rw [e1] at h; exact h.elim
  | some op =>
    cases op with
    | none => rw [e1] at h; exact h.elim
    | some p =>
      rw [e1] at h
      obtain ⟨v, h1, h2⟩ := rl.at_ i p e1
      refine ⟨v, h1, ads, ρ, hp, rl, (SRes.st rl h).imp fun u H1 ⟨ads1, q, hp1, e2, rl1, rq, h3⟩ => ?_⟩
      cases e4 : augO o p q with
      | none => rw [e4] at h3; exact h3.elim
      | some r =>
        rw [e4] at h3
        exact ⟨ads1, hp1, p, q, r, rl1.hr, RV.ext rl.hr.mut e2 h2, rq, e4, fun z rz => SRes.nxOk h3 (rl1.set rz)⟩
end
end Pi

set_option Elab.async false
set_option linter.all false
set_option maxRecDepth 100000
set_option maxHeartbeats 4000000
/-! Pi K: a check that a text's tree is that of the small language. -/
namespace Pi
open PySem PySem.Spec PyProof.Rows L2

/-- the names of the defs, of the module's constants -/
structure Cfg where
  fns : Nat → Option Str
  cons : Nat → Option Str
def glB (sc : Scope) (x : Str) : Bool := match sc.names.lookup x with | some .globalImplicit => true | _ => false
def lclB (sc : Scope) (x : Str) : Bool := match sc.names.lookup x with | some .local => true | _ => false
def locB (sc : Scope) (x : Str) : Bool := match sc.names.lookup x with | some .local => true | some .cell => true | _ => false
def visB (sc : Scope) (x : Str) : Bool := match sc.names.lookup x with | some .local => true | some .cell => true | some .free => true | _ => false
def nmOk (x : Str) : Bool := !(x == ("__debug__" : Str)) && !(x == ("__classdict__" : Str))
def notStar : Expr → Bool
  | .Starred _ _ => false
  | _ => true
def noStar (es : List Expr) : Bool := es.all notStar
def notSlice : Expr → Bool
  | .Slice _ _ _ _ => false
  | _ => true
def boB : BO → Operator → Bool
  | .add, .Add => true | .sub, .Sub => true | .mul, .Mult => true | .fdiv, .FloorDiv => true | .mod, .Mod => true | .pow, .Pow => true
  | _, _ => false
def coB : CO → CmpOp → Bool
  | .eq, .Eq => true | .ne, .NotEq => true | .lt, .Lt => true | .le, .LtE => true | .gt, .Gt => true | .ge, .GtE => true | .is, .Is => true | .isNot, .IsNot => true | .inn, .In => true | .notIn, .NotIn => true
  | _, _ => false
theorem bo_of {o : BO} {p : Operator} (h : boB o p = true) : p = boOf o := by cases o <;> cases p <;> first | rfl | cases h
theorem co_of {o : CO} {p : CmpOp} (h : coB o p = true) : p = coOf o := by cases o <;> cases p <;> first | rfl | cases h
/- what may stand as a test -/
mutual
def canT : Expr → Bool
  | .BoolOp _ es _ => canTL es
  | .UnaryOp .Not a _ => canT a
  | .IfExp _ _ _ _ => false
  | _ => true
def canTL : List Expr → Bool
  | [] => true
  | e :: es => canT e && canTL es
end
def noCall : Expr → Bool
  | .Call _ _ _ _ => false
  | _ => true
/-- names, one after another -/
def chNm (N : List Str) (sc : Scope) : List Nat → List Expr → Bool
  | [], es => es.isEmpty
  | i :: xs, es => match es with
    | .Name x _ :: es => decide (N[i]? = some x) && locB sc x && chNm N sc xs es
    | _ => false
def chTg (N : List Str) (sc : Scope) (t : Tg) (e : Expr) : Bool := match t with
  | .name i => (match e with | .Name x _ => decide (N[i]? = some x) && locB sc x | _ => false)
  | .many xs => (match e with | .Tuple es _ _ => chNm N sc xs es | _ => false)
/-- zip's pairs go to names at once -/
def zipOk : Itr → Tg → Bool
  | .zip _ _, t => t.isMany
  | _, _ => true
section
variable (G : Cfg) (N : List Str)
mutual
def chE (sc : Scope) : Ex → Expr → Bool
  | .v i, e => match e with | .Name x _ => decide (N[i]? = some x) && visB sc x && nmOk x | _ => false
  | .gc g, e => match e with | .Name x _ => decide (G.cons g = some x) && glB sc x && nmOk x | _ => false
  | .int i, e => match e with | .Constant (.int j) _ _ => i == j | _ => false
  | .str i, e => match e with | .Constant (.str j) _ _ => i == j | _ => false
  | .bl i, e => match e with | .Constant (.bool j) _ _ => i == j | _ => false
  | .non, e => match e with | .Constant .none _ _ => true | _ => false
  | .neg a, e => match e with | .UnaryOp .USub a' _ => chE sc a a' | _ => false
  | .not a, e => match e with | .UnaryOp .Not a' _ => chE sc a a' | _ => false
  | .bin o a b, e => match e with | .BinOp a' o' b' _ => boB o o' && chE sc a a' && chE sc b b' | _ => false
  | .cmp o a b, e => match e with | .Compare a' [o'] [b'] _ => coB o o' && chE sc a a' && chE sc b b' && !(behindInMarks o' b') | _ => false
  | .chain o p a b c, e => match e with | .Compare a' [o', p'] [b', c'] _ => coB o o' && coB p p' && chE sc a a' && chE sc b b' && chE sc c c' && !(lastMarks [o', p'] [b', c']) | _ => false
  | .and es, e => match e with | .BoolOp .And es' _ => chEs sc es es' | _ => false
  | .or es, e => match e with | .BoolOp .Or es' _ => chEs sc es es' | _ => false
  | .ite c a b, e => match e with | .IfExp c' a' b' _ => chE sc c c' && canT c' && chE sc a a' && chE sc b b' | _ => false
  | .call f es, e => match e with | .Call (.Name x _) es' [] _ => decide (G.fns f = some x) && glB sc x && nmOk x && chEs sc es es' && noStar es' | _ => false
  | .callv i es, e => match e with | .Call (.Name x _) (e' :: es') [] _ => decide (N[i]? = some x) && visB sc x && nmOk x && chEs sc es (e' :: es') && noStar (e' :: es') | _ => false
  | .bi b es, e => match e with | .Call (.Name y _) (e' :: es') [] _ => biN b == y && glB sc y && chEs sc es (e' :: es') && noStar (e' :: es') | _ => false
  | .isi a t, e => match e with | .Call (.Name y _) [a', .Name z _] [] _ => ("isinstance" : Str) == y && Str.ofString t == z && tyKnown t && glB sc y && glB sc z && chE sc a a' && notStar a' | _ => false
  | .meth m o es, e => match e with
    | .Call (.Attribute o' nm apos) es' [] pos => mtN m == nm && chE sc o o' && chEs sc es es' && noStar es' && noCall o' && (apos.endLine == pos.line) && decide (es'.length < 30) &&
      (match m with | .pop => es'.isEmpty | _ => !es'.isEmpty)
    | _ => false
  | .ix a b, e => match e with | .Subscript a' b' _ => chE sc a a' && chE sc b b' && notSlice b' | _ => false
  | .slF a b, e => match e with | .Subscript a' (.Slice (some b') none none _) _ => chE sc a a' && chE sc b b' | _ => false
  | .slT a b, e => match e with | .Subscript a' (.Slice none (some b') none _) _ => chE sc a a' && chE sc b b' | _ => false
  | .slB a b c, e => match e with | .Subscript a' (.Slice (some b') (some c') none _) _ => chE sc a a' && chE sc b b' && chE sc c c' | _ => false
  | .slN a, e => match e with | .Subscript a' (.Slice none none none _) _ => chE sc a a' | _ => false
  | .rev a, e => match e with | .Subscript a' (.Slice none none (some (.UnaryOp .USub (.Constant (.int i) _ _) _)) _) _ => chE sc a a' && i == 1 | _ => false
  | .tup es, e => match e with | .Tuple es' _ _ => chEs sc es es' && noStar es' | _ => false
  | .lst es, e => match e with | .List es' _ => chEs sc es es' && noStar es' | _ => false
  | .lc elt tg it, e => match e with
    | .ListComp elt' [⟨tg', it', [], 0⟩] sc' _ => blkC N sc sc' (tgOwn N tg) && chI sc it tg' it' && chTg N sc' tg tg' && chE sc' elt elt' && zipOk it tg
    | _ => false
  | .lcIf elt tg it c, e => match e with
    | .ListComp elt' [⟨tg', it', [c'], 0⟩] sc' _ => blkC N sc sc' (tgOwn N tg) && chI sc it tg' it' && chTg N sc' tg tg' && chE sc' elt elt' && zipOk it tg && chE sc' c c' && canT c'
    | _ => false
def chEs (sc : Scope) : Exs → List Expr → Bool
  | .nil, es => es.isEmpty
  | .cons x xs, es => match es with | e :: es => chE sc x e && notStar e && chEs sc xs es | _ => false
def chI (sc : Scope) : Itr → Expr → Expr → Bool
  | .val x, _, e => chE sc x e && (match e with | .Set _ _ _ => false | _ => true)
  | .rng1 a, _, e => match e with | .Call (.Name y _) [a'] [] _ => ("range" : Str) == y && glB sc y && chE sc a a' && notStar a' | _ => false
  | .rng2 a b, _, e => match e with | .Call (.Name y _) [a', b'] [] _ => ("range" : Str) == y && glB sc y && chE sc a a' && chE sc b b' && notStar a' && notStar b' | _ => false
  | .zip a b, tg, e => match e with
    | .Call (.Name y _) [a', b'] [] _ => ("zip" : Str) == y && glB sc y && chE sc a a' && chE sc b b' && notStar a' && notStar b' && (match tg with | .Tuple _ _ _ => true | _ => false)
    | _ => false
end
end
end Pi

set_option Elab.async false
set_option linter.all false
set_option maxRecDepth 100000
set_option maxHeartbeats 8000000
/-! Pi L: what the check says holds. -/
namespace Pi
open PySem PySem.Spec PyProof.Rows L2

def biNames : List Str := ["range", "zip", "isinstance", "int", "bool", "tuple", "str", "list", "dict", "len", "abs", "max", "min", "sum", "all", "any", "repr"]
theorem biN_mem (b : Bi) : biN b ∈ biNames := by cases b <;> decide +kernel
theorem ty_mem {t : String} (h : tyKnown t = true) : Str.ofString t ∈ biNames := by
  unfold tyKnown at h
  simp only [Bool.or_eq_true, beq_iff_eq] at h
  rcases h with ((((h | h) | h) | h) | h) | h <;> subst h <;> decide +kernel

structure At (X : Cx) (D : Gd) (ca : Nat → Option Addr) (k : Nat) (C : Ctx) (G : Cfg) (N : List Str) (sc : Scope) (W : WX) : Prop where
  hK : D.K = X.K
  hN : X.N = N
  nd : N.Nodup
  calm : X.calm = true
  gd : X.A.guards = some []
  room : Room k X.A
  tk : Takes X W
  defs : Defs X D ca k C.call
  fn : ∀ (f : Nat) (x : Str), G.fns f = some x → ∃ a, D.fa f = some a ∧ X.mg x = some (.ref a)
  con : ∀ (g : Nat) (x : Str), G.cons g = some x → ∃ (v : V) (u : Value) (p : PV), X.mg x = some u ∧ RelV v u ∧ C.con g = some p ∧ ∀ ads H, RV D ads H p v
  bi : ∀ x ∈ biNames, X.mg x = none
  vis : ∀ x, visB sc x = true → Vis X.env.scope x
  loc : ∀ x, locB sc x = true → Loc X.env.scope x ∧ (X.fn x = true ∨ X.env.scope.names.lookup x = some .local)
  gl : ∀ x, glB sc x = true → Gl X x
  cf : ∀ x, sc.names.lookup x = some .cell ∨ sc.names.lookup x = some .free → X.env.scope.names.lookup x = some .cell ∨ X.env.scope.names.lookup x = some .free

theorem star_of {e : Expr} (env : Env) (es : List Expr) (h : notStar e = true) : starEach (e :: es) env = (false, eval e env) :: starEach es env := by
  cases e <;> first | rfl | cases h
theorem nostar_any {pos : Pos} {env : Env} : ∀ {es : List Expr}, noStar es = true → (backTo pos (starEach es env)).any (·.1) = false
  | [], _ => rfl
  | e :: es, h => by
    unfold noStar at h
    simp only [List.all_cons, Bool.and_eq_true] at h
    rw [star_of env es h.1]
    show (false || (backTo pos (starEach es env)).any (·.1)) = false
    rw [Bool.false_or]
    exact nostar_any (by unfold noStar; exact h.2)
theorem nostar_all {pos : Pos} {env : Env} : ∀ {es : List Expr}, noStar es = true → (backTo pos (starEach es env)).all (fun x => !x.1) = true
  | [], _ => rfl
  | e :: es, h => by
    unfold noStar at h
    simp only [List.all_cons, Bool.and_eq_true] at h
    rw [star_of env es h.1]
    show (true && (backTo pos (starEach es env)).all (fun x => !x.1)) = true
    rw [Bool.true_and]
    exact nostar_all (by unfold noStar; exact h.2)
theorem plainIx_of {b : Expr} (h : notSlice b = true) : PlainIx b := by
  intro o i
  cases b <;> first | rfl | cases h
theorem base_of {o : Expr} {nm : Str} {env : Env} {w : Sem Value} (h : noCall o = true) : attributeBase o nm env w = w := by
  cases o <;> first | rfl | cases h
theorem test_of {e : Expr} {env : Env} (h1 : canT e = true) (h2 : ∀ op es p, e ≠ .BoolOp op es p) (h3 : ∀ a p, e ≠ .UnaryOp .Not a p) (h4 : ∀ a b c p, e ≠ .Compare a b c p) : ∀ whole, isTrue e env whole = (do let v ← whole; standAt e.pos; holding [v] (truthy v)) := by
  intro whole
  cases e with
  | BoolOp op es p => exact absurd rfl (h2 _ _ _)
  | UnaryOp op a p =>
    cases op with
    | Not => exact absurd rfl (h3 _ _)
    | _ => rfl
  | Compare a b c p => exact absurd rfl (h4 _ _ _ _)
  | IfExp => cases h1
  | _ => rfl
theorem set_of {e : Expr} {env : Env} (h : (match e with | .Set _ _ _ => false | _ => true) = true) : ∀ x, foldedSetIterable e env x = pure x := by
  intro x
  cases e <;> first | rfl | cases h
theorem set_call {f : Expr} {as : List Expr} {ks : List Keyword} {p : Pos} {env : Env} : ∀ x, foldedSetIterable (.Call f as ks p) env x = pure x := fun _ => rfl

section
variable {X : Cx} {D : Gd} {ca : Nat → Option Addr} {k : Nat} {C : Ctx} {G : Cfg} {N : List Str} {sc : Scope} {W : WX}
theorem At.units (A : At X D ca k C G N sc W) : X.A.units + 65 < cLine := by have := A.room.un; omega
/-- a comprehension's block -/
theorem lookup_relabel {scope : Scope} {env : Env} : ∀ (names : List (Str × NameKind)) (x : Str),
    (names.map fun (n, k) => if (k == .free && env.scope.kind == .function && env.kindOf n == some .cell) then (n, .cell) else (n, k)).lookup x =
      (names.lookup x).map fun k => if (k == .free && env.scope.kind == .function && env.kindOf x == some .cell) then .cell else k
  | [], x => rfl
  | (n, k) :: r, x => by
    have ih := lookup_relabel (scope := scope) (env := env) r x
    simp only [List.map_cons]
    cases hx : x == n with
    | true =>
      have e : x = n := eq_of_beq hx
      subst e
      split <;> simp_all [List.lookup_cons]
    | false =>
      have e2 : ∀ v, List.lookup x ((n, v) :: (r.map fun (n, k) => if (k == .free && env.scope.kind == .function && env.kindOf n == some .cell) then (n, .cell) else (n, k))) = List.lookup x (r.map fun (n, k) => if (k == .free && env.scope.kind == .function && env.kindOf n == some .cell) then (n, .cell) else (n, k)) := fun v => by
        rw [List.lookup_cons, hx]
      have e3 : List.lookup x ((n, k) :: r) = List.lookup x r := by rw [List.lookup_cons, hx]
      rw [e3, ← ih]
      split
      · exact e2 _
      · exact e2 _
theorem At.blk (A : At X D ca k C G N sc W) {scope : Scope} {own : List (Str × Nat)} (hb : blkC N sc scope own = true) (s : Shared) (H : Hp) (Ca : Addr) (cl : List (Str × Addr)) (fp : List Addr) :
    At (X.blk s H scope (compEnvC scope cl Ca X.env) fp) D ca k C G N scope W0 := by
  have lk : ∀ x, (relabel scope X.env).names.lookup x = (scope.names.lookup x).map fun k => if (k == .free && X.env.scope.kind == .function && X.env.kindOf x == some .cell) then .cell else k := fun x => lookup_relabel (scope := scope) (env := X.env) scope.names x
  refine ⟨A.hK, A.hN, A.nd, A.calm, A.gd, A.room, ?_, ⟨fun f a h => ?_⟩, A.fn, A.con, A.bi, fun x h => ?_, fun x h => ?_, fun x h => ?_, fun x h => ?_⟩
  · exact fun u s' ⟨_, _, _, _, _, _, _, _, _, _, _, _, _, _, _, _, w⟩ => w.elim
  · obtain ⟨n, c, z⟩ := A.defs.ok f a h
    exact ⟨n, ⟨c.ex⟩, z⟩
  · unfold visB at h
    show Vis (relabel scope X.env) x
    unfold Vis
    rw [lk x]
    cases e : scope.names.lookup x with
    | none => rw [e] at h; cases h
    | some kk =>
      rw [e] at h
      cases kk <;> first | (cases h; done) | skip
      · exact .inl rfl
      · exact .inr (.inl rfl)
      · simp only [Option.map_some]
        split
        · exact .inr (.inl rfl)
        · exact .inr (.inr rfl)
  · unfold locB at h
    show Loc (relabel scope X.env) x ∧ ((scope.names.lookup x == some .cell) = true ∨ (relabel scope X.env).names.lookup x = some .local)
    unfold L2.Loc
    rw [lk x]
    cases e : scope.names.lookup x with
    | none => rw [e] at h; cases h
    | some kk =>
      rw [e] at h
      cases kk <;> first | (cases h; done) | skip
      · exact ⟨.inl rfl, .inr rfl⟩
      · exact ⟨.inr rfl, .inl rfl⟩
  · unfold glB at h
    show (relabel scope X.env).names.lookup x = _
    rw [lk x]
    cases e : scope.names.lookup x with
    | none => rw [e] at h; cases h
    | some kk =>
      rw [e] at h
      cases kk <;> first | (cases h; done) | rfl
  · show (relabel scope X.env).names.lookup x = _ ∨ (relabel scope X.env).names.lookup x = _
    rw [lk x]
    rcases h with h | h
    · rw [h]; exact .inl rfl
    · rw [h]
      simp only [Option.map_some]
      split
      · exact .inl rfl
      · exact .inr rfl
theorem At.blkOk (A : At X D ca k C G N sc W) {scope : Scope} {own : List (Str × Nat)} (hb : blkC N sc scope own = true) : BlkOk X.N X.env.scope scope own := by
  have q := blkOk_by hb
  refine ⟨q.kind, q.uniq, by rw [A.hN]; exact q.ix, fun y hy e => A.cf _ (q.free y hy e), by rw [A.hN]; exact q.own⟩
theorem nm_of (A : At X D ca k C G N sc W) : ∀ {xs : List Nat} {es : List Expr}, chNm N sc xs es = true → NmOk X es xs
  | [], es, h => by
    cases es with
    | nil => exact .nil
    | cons _ _ => cases h
  | i :: xs, es, h => by
    unfold chNm at h
    split at h
    · simp only [Bool.and_eq_true, decide_eq_true_eq] at h
      obtain ⟨⟨h2, h3⟩, h4⟩ := h
      exact .cons (by rw [A.hN]; exact h2) (A.loc _ h3).1 (A.loc _ h3).2 (nm_of A h4)
    · cases h
theorem tg_of (A : At X D ca k C G N sc W) {t : Tg} {e : Expr} (h : chTg N sc t e = true) : PG X e (gT D t) := by
  cases t with
  | name i =>
    simp only [chTg] at h
    split at h
    · simp only [Bool.and_eq_true, decide_eq_true_eq] at h
      obtain ⟨h2, h3⟩ := h
      exact sg_name (by rw [A.hN]; exact A.nd) (by rw [A.hN]; exact h2) (A.loc _ h3).1 (A.loc _ h3).2
    · cases h
  | many xs =>
    simp only [chTg] at h
    split at h
    · exact sg_tup A.hK A.calm (by rw [A.hN]; exact A.nd) (nm_of A h)
    · cases h
theorem nm_ne {x : Str} (h : nmOk x = true) : (x == ("__debug__" : Str)) = false ∧ (x == ("__classdict__" : Str)) = false := by
  unfold nmOk at h
  simp only [Bool.and_eq_true, Bool.not_eq_true'] at h
  exact h
end
end Pi

set_option Elab.async false
set_option linter.all false
set_option maxRecDepth 100000
set_option maxHeartbeats 8000000
/-! Pi M: what is checked is read by its plain meaning: expressions. -/
namespace Pi
open PySem PySem.Spec PyProof.Rows L2

theorem PT.tr {X : Cx} {D : Gd} {ca : Nat → Option Addr} {W : WX} {e : Expr} {m m' : PEnv → IH → R Bool} (h : PT X e (VT D ca W m)) (q : ∀ ρ hp, m' ρ hp = m ρ hp) : PT X e (VT D ca W m') := by
  rw [show m' = m from funext fun ρ => funext fun hp => q ρ hp]; exact h
theorem PW.tr {X : Cx} {D : Gd} {ca : Nat → Option Addr} {W : WX} {e : Expr} {m m' : PEnv → IH → R Bool} (h : PW X e (VT D ca W m)) (q : ∀ ρ hp, m' ρ hp = m ρ hp) : PW X e (VT D ca W m') := by
  rw [show m' = m from funext fun ρ => funext fun hp => q ρ hp]; exact h
theorem PE.tr {X : Cx} {D : Gd} {ca : Nat → Option Addr} {W : WX} {e : Expr} {m m' : PEnv → IH → R PV} (h : PE X e (VE D ca W m)) (q : ∀ ρ hp, m' ρ hp = m ρ hp) : PE X e (VE D ca W m') := by
  rw [show m' = m from funext fun ρ => funext fun hp => q ρ hp]; exact h
theorem R.bind_congr {α β : Type} {r : R α} {k l : α → IH → R β} (h : ∀ a hp, k a hp = l a hp) : r.bind k = r.bind l := by
  rw [show k = l from funext fun a => funext fun hp => h a hp]
theorem truO_bl (h : IH) (b : Bool) : truO h (.bl b) = some b := rfl
/-- how a tree that is no test of its own reads as a test -/
structure Both (X : Cx) (D : Gd) (ca : Nat → Option Addr) (W : WX) (C : Ctx) (x : Ex) (e : Expr) : Prop where
  pe : PE X e (VE D ca W (evE C x))
  pt : canT e = true → PT X e (VT D ca W (evT C x))
structure Boths (X : Cx) (D : Gd) (ca : Nat → Option Addr) (W : WX) (C : Ctx) (xs : Exs) (es : List Expr) : Prop where
  pa : PA X es (VA D ca W (evEs C xs))
  and : ∀ pos, PE X (.BoolOp .And es pos) (VE D ca W (evAnd C xs))
  or : ∀ pos, PE X (.BoolOp .Or es pos) (VE D ca W (evOr C xs))
  andT : ∀ pos, canTL es = true → PW X (.BoolOp .And es pos) (VT D ca W fun ρ h => (evAnd C xs ρ h).bind fun p h => ofP h (truO h p))
  orT : ∀ pos, canTL es = true → PW X (.BoolOp .Or es pos) (VT D ca W fun ρ h => (evOr C xs ρ h).bind fun p h => ofP h (truO h p))
section
variable {D : Gd} {ca : Nat → Option Addr} {k : Nat} {C : Ctx} {G : Cfg} {N : List Str}
theorem Both.val {X : Cx} {W : WX} {x : Ex} {e : Expr} {sc : Scope} (A : At X D ca k C G N sc W) (h : PE X e (VE D ca W (evE C x))) (h2 : ∀ op es p, e ≠ .BoolOp op es p) (h3 : ∀ a p, e ≠ .UnaryOp .Not a p) (h4 : ∀ a b c p, e ≠ .Compare a b c p) : Both X D ca W C x e :=
  ⟨h, fun hc => st_val A.hK h (test_of hc h2 h3 h4)⟩
theorem pe_bad {X : Cx} {W : WX} {e : Expr} : PE X e (VE D ca W fun _ _ => .bad) := ⟨fun _ _ _ _ _ _ ⟨_, _, _, _, h⟩ => h.elim⟩
theorem pw_bad {X : Cx} {W : WX} {e : Expr} : PW X e (VT D ca W fun _ _ => .bad) := ⟨fun _ _ _ _ _ _ _ ⟨_, _, _, _, h⟩ => h.elim⟩
theorem chEs_len {sc : Scope} : ∀ {xs : Exs} {es : List Expr}, chEs G N sc xs es = true → (xs = .nil ↔ es = [])
  | .nil, [], _ => by simp
  | .nil, _ :: _, h => by simp [chEs] at h
  | .cons _ _, [], h => by simp [chEs] at h
  | .cons _ _, _ :: _, _ => by simp
mutual
theorem sndE : ∀ (x : Ex) {X : Cx} {sc : Scope} {W : WX} (A : At X D ca k C G N sc W) (e : Expr), chE G N sc x e = true → Both X D ca W C x e
  | .v i, X, sc, W, A, e, h => by
    unfold chE at h
    split at h
    · simp only [Bool.and_eq_true, decide_eq_true_eq] at h
      obtain ⟨⟨h2, h3⟩, h4⟩ := h
      obtain ⟨n1, n2⟩ := nm_ne h4
      exact .val A (PE.tr (se_var (by rw [A.hN]; exact h2) (A.vis _ h3) n1 n2) fun ρ hp => by (simp only [evE] <;> rfl)) (by intros; intro z; cases z) (by intros; intro z; cases z) (by intros; intro z; cases z)
    · cases h
  | .gc g, X, sc, W, A, e, h => by
    unfold chE at h
    split at h
    · simp only [Bool.and_eq_true, decide_eq_true_eq] at h
      obtain ⟨⟨h2, h3⟩, h4⟩ := h
      obtain ⟨n1, n2⟩ := nm_ne h4
      obtain ⟨v, u, p, q1, q2, q3, q4⟩ := A.con _ _ h2
      exact .val A (se_con (A.gl _ h3) q1 q2 q4 n1 fun ρ hp => by simp only [evE, q3, ofP_some]) (by intros; intro z; cases z) (by intros; intro z; cases z) (by intros; intro z; cases z)
    · cases h
  | .int i, X, sc, W, A, e, h => by
    unfold chE at h
    split at h
    · simp only [beq_iff_eq] at h
      subst h
      exact .val A (PE.tr se_int fun ρ hp => by (simp only [evE] <;> rfl)) (by intros; intro z; cases z) (by intros; intro z; cases z) (by intros; intro z; cases z)
    · cases h
  | .str i, X, sc, W, A, e, h => by
    unfold chE at h
    split at h
    · simp only [beq_iff_eq] at h
      subst h
      exact .val A (PE.tr se_str fun ρ hp => by (simp only [evE] <;> rfl)) (by intros; intro z; cases z) (by intros; intro z; cases z) (by intros; intro z; cases z)
    · cases h
  | .bl i, X, sc, W, A, e, h => by
    unfold chE at h
    split at h
    · simp only [beq_iff_eq] at h
      subst h
      exact .val A (PE.tr se_bl fun ρ hp => by (simp only [evE] <;> rfl)) (by intros; intro z; cases z) (by intros; intro z; cases z) (by intros; intro z; cases z)
    · cases h
  | .non, X, sc, W, A, e, h => by
    unfold chE at h
    split at h
    · exact .val A (PE.tr se_non fun ρ hp => by (simp only [evE] <;> rfl)) (by intros; intro z; cases z) (by intros; intro z; cases z) (by intros; intro z; cases z)
    · cases h
  | .neg a, X, sc, W, A, e, h => by
    unfold chE at h
    split at h
    · exact .val A (PE.tr (se_neg (sndE a A _ h).pe) fun ρ hp => by (simp only [evE] <;> rfl)) (by intros; intro z; cases z) (by intros; intro z; cases z) (by intros; intro z; cases z)
    · cases h
  | .not a, X, sc, W, A, e, h => by
    unfold chE at h
    split at h
    · refine ⟨PE.tr (se_not A.hK (sndE a A _ h).pe) fun ρ hp => by (simp only [evE] <;> rfl), fun hc => ?_⟩
      unfold canT at hc
      refine PT.tr (st_not ((sndE a A _ h).pt hc)) fun ρ hp => ?_
      simp only [evT, evE]
      rw [R.bind_assoc, R.bind_assoc]
      refine R.bind_congr fun p hp' => ?_
      cases truO hp' p <;> rfl
    · cases h
  | .bin o a b, X, sc, W, A, e, h => by
    unfold chE at h
    split at h
    · simp only [Bool.and_eq_true] at h
      obtain ⟨⟨h1, h2⟩, h3⟩ := h
      rw [bo_of h1]
      exact .val A (PE.tr (se_bin A.hK o (sndE a A _ h2).pe (sndE b A _ h3).pe) fun ρ hp => by (simp only [evE] <;> rfl)) (by intros; intro z; cases z) (by intros; intro z; cases z) (by intros; intro z; cases z)
    · cases h
  | .cmp o a b, X, sc, W, A, e, h => by
    unfold chE at h
    split at h
    · simp only [Bool.and_eq_true, Bool.not_eq_true'] at h
      obtain ⟨⟨⟨h1, h2⟩, h3⟩, h4⟩ := h
      rw [co_of h1] at h4 ⊢
      refine ⟨PE.tr (se_cmp A.hK A.units o (sndE a A _ h2).pe (sndE b A _ h3).pe h4) fun ρ hp => by (simp only [evE] <;> rfl), fun _ => ?_⟩
      refine PT.tr (st_cmp A.hK A.units o (sndE a A _ h2).pe (sndE b A _ h3).pe h4) fun ρ hp => ?_
      simp only [evT, evE]
      rw [R.bind_assoc]
      refine R.bind_congr fun p hp' => ?_
      rw [R.bind_assoc]
      refine R.bind_congr fun q hp2 => ?_
      cases cmpO o p q hp2 <;> rfl
    · cases h
  | .chain o o' a b c, X, sc, W, A, e, h => by
    unfold chE at h
    split at h
    · simp only [Bool.and_eq_true, Bool.not_eq_true'] at h
      obtain ⟨⟨⟨⟨⟨h1, h1'⟩, h2⟩, h3⟩, h4⟩, h5⟩ := h
      rw [co_of h1, co_of h1'] at h5 ⊢
      refine ⟨PE.tr (se_chain A.hK A.units o o' (sndE a A _ h2).pe (sndE b A _ h3).pe (sndE c A _ h4).pe h5) fun ρ hp => by (simp only [evE] <;> rfl), fun _ => ?_⟩
      refine PT.tr (st_chain A.hK A.units o o' (sndE a A _ h2).pe (sndE b A _ h3).pe (sndE c A _ h4).pe h5) fun ρ hp => ?_
      simp only [evT, evE]
      rw [R.bind_assoc]
      refine R.bind_congr fun p hp' => ?_
      rw [R.bind_assoc]
      refine R.bind_congr fun q hp2 => ?_
      rw [R.bind_assoc]
      refine R.bind_congr fun t hp3 => ?_
      cases t with
      | false => rfl
      | true =>
        simp only
        rw [R.bind_assoc]
        refine R.bind_congr fun q' hp2 => ?_
        cases cmpO o' q q' hp2 <;> rfl
    · cases h
  | .and es, X, sc, W, A, e, h => by
    unfold chE at h
    split at h
    · have b := sndEs es A _ h
      refine ⟨PE.tr (b.and _) fun ρ hp => by (simp only [evE] <;> rfl), fun hc => ?_⟩
      unfold canT at hc
      exact PT.tr (b.andT _ hc).pt fun ρ hp => by simp only [evT, evE]
    · cases h
  | .or es, X, sc, W, A, e, h => by
    unfold chE at h
    split at h
    · have b := sndEs es A _ h
      refine ⟨PE.tr (b.or _) fun ρ hp => by (simp only [evE] <;> rfl), fun hc => ?_⟩
      unfold canT at hc
      exact PT.tr (b.orT _ hc).pt fun ρ hp => by simp only [evT, evE]
    · cases h
  | .ite c a b, X, sc, W, A, e, h => by
    unfold chE at h
    split at h
    · simp only [Bool.and_eq_true] at h
      obtain ⟨⟨⟨h1, h2⟩, h3⟩, h4⟩ := h
      refine .val A (PE.tr (se_ite ((sndE c A _ h1).pt h2) (sndE a A _ h3).pe (sndE b A _ h4).pe) fun ρ hp => ?_) (by intros; intro z; cases z) (by intros; intro z; cases z) (by intros; intro z; cases z)
      simp only [evE, evT]
      first
        | (rw [R.bind_assoc]; done)
        | (rw [R.bind_assoc]; rfl)
    · cases h
  | .call f es, X, sc, W, A, e, h => by
    unfold chE at h
    split at h
    · simp only [Bool.and_eq_true, beq_iff_eq, decide_eq_true_eq] at h
      obtain ⟨⟨⟨⟨h2, h3⟩, h4⟩, h5⟩, h6⟩ := h
      obtain ⟨a, q1, q2⟩ := A.fn _ _ h2
      obtain ⟨n1, n2⟩ := nm_ne h4
      have b := sndEs es A _ h5
      rename_i es' _
      cases es' with
      | nil =>
        have e1 : es = .nil := (chEs_len h5).mpr rfl
        subst e1
        exact .val A (PE.tr (se_call0 A.defs q1 A.room A.gd A.tk (A.gl _ h3) q2 n1) fun ρ hp => by simp only [evE, evEs, R.bind_ok]) (by intros; intro z; cases z) (by intros; intro z; cases z) (by intros; intro z; cases z)
      | cons e' es' =>
        have h7 := h6
        unfold noStar at h7
        simp only [List.all_cons, Bool.and_eq_true] at h7
        exact .val A (PE.tr (se_call A.defs q1 A.room A.gd A.tk (A.gl _ h3) q2 b.pa n1 (star_of _ _ h7.1) (nostar_any (by unfold noStar; exact h7.2))) fun ρ hp => by (simp only [evE] <;> rfl)) (by intros; intro z; cases z) (by intros; intro z; cases z) (by intros; intro z; cases z)
    · cases h
  | .callv i es, X, sc, W, A, e, h => by
    unfold chE at h
    split at h
    · simp only [Bool.and_eq_true, beq_iff_eq, decide_eq_true_eq] at h
      obtain ⟨⟨⟨⟨h2, h3⟩, h4⟩, h5⟩, h6⟩ := h
      obtain ⟨n1, n2⟩ := nm_ne h4
      have b := sndEs es A _ h5
      have h7 := h6
      unfold noStar at h7
      simp only [List.all_cons, Bool.and_eq_true] at h7
      exact .val A (PE.tr (se_callv A.defs A.room A.gd A.tk (by rw [A.hN]; exact h2) (A.vis _ h3) b.pa n1 n2 (star_of _ _ h7.1) (nostar_any (by unfold noStar; exact h7.2))) fun ρ hp => by (simp only [evE] <;> rfl)) (by intros; intro z; cases z) (by intros; intro z; cases z) (by intros; intro z; cases z)
    · cases h
  | .bi b es, X, sc, W, A, e, h => by
    unfold chE at h
    split at h
    · simp only [Bool.and_eq_true, beq_iff_eq] at h
      obtain ⟨⟨⟨rfl, h3⟩, h5⟩, h6⟩ := h
      have b' := sndEs es A _ h5
      have h7 := h6
      unfold noStar at h7
      simp only [List.all_cons, Bool.and_eq_true] at h7
      exact .val A (PE.tr (se_bi A.hK A.calm A.gd A.units b (A.gl _ h3) (A.bi _ (biN_mem b)) b'.pa (star_of _ _ h7.1) (nostar_any (by unfold noStar; exact h7.2))) fun ρ hp => by (simp only [evE] <;> rfl)) (by intros; intro z; cases z) (by intros; intro z; cases z) (by intros; intro z; cases z)
    · cases h
  | .isi a t, X, sc, W, A, e, h => by
    unfold chE at h
    split at h
    · simp only [Bool.and_eq_true, beq_iff_eq] at h
      obtain ⟨⟨⟨⟨⟨⟨rfl, rfl⟩, h3⟩, h4⟩, h5⟩, h6⟩, h7⟩ := h
      exact .val A (PE.tr (se_isi A.hK (A.gl _ h4) (A.bi _ (by decide +kernel)) (A.gl _ h5) (A.bi _ (ty_mem h3)) h3 (sndE a A _ h6).pe (star_of _ _ h7)) fun ρ hp => by (simp only [evE] <;> rfl)) (by intros; intro z; cases z) (by intros; intro z; cases z) (by intros; intro z; cases z)
    · cases h
  | .meth m o es, X, sc, W, A, e, h => by
    unfold chE at h
    split at h
    · simp only [Bool.and_eq_true, beq_iff_eq, decide_eq_true_eq] at h
      obtain ⟨⟨⟨⟨⟨⟨⟨rfl, h2⟩, h3⟩, h4⟩, h5⟩, h6⟩, h7⟩, h8⟩ := h
      have bo := sndE o A _ h2
      have b := sndEs es A _ h3
      rename_i es' _
      by_cases hm : m = .pop
      · subst hm
        cases es' with
        | cons _ _ => cases h8
        | nil =>
          have e1 : es = .nil := (chEs_len h3).mpr rfl
          subst e1
          exact .val A (PE.tr (se_pop bo.pe (base_of h5) (by simpa using h6)) fun ρ hp => by (simp only [evE, evEs] <;> rfl)) (by intros; intro z; cases z) (by intros; intro z; cases z) (by intros; intro z; cases z)
      · cases es' with
        | nil => cases m <;> first | (cases h8; done) | exact absurd rfl hm
        | cons e' es' =>
          have h9 := h4
          unfold noStar at h9
          simp only [List.all_cons, Bool.and_eq_true] at h9
          refine .val A (PE.tr (se_meth A.hK m bo.pe b.pa hm (base_of h5) ?_ (by simpa using h6) (star_of _ _ h9.1) (nostar_any (by unfold noStar; exact h9.2))) fun ρ hp => by (simp only [evE] <;> rfl)) (by intros; intro z; cases z) (by intros; intro z; cases z) (by intros; intro z; cases z)
          rw [nostar_all h4]
          simpa [keywordEach, backToKw] using h7
    · cases h
  | .ix a b, X, sc, W, A, e, h => by
    unfold chE at h
    split at h
    · simp only [Bool.and_eq_true] at h
      obtain ⟨⟨h1, h2⟩, h3⟩ := h
      exact .val A (PE.tr (se_ix A.hK (sndE a A _ h1).pe (sndE b A _ h2).pe (plainIx_of h3)) fun ρ hp => by (simp only [evE] <;> rfl)) (by intros; intro z; cases z) (by intros; intro z; cases z) (by intros; intro z; cases z)
    · cases h
  | .slF a b, X, sc, W, A, e, h => by
    unfold chE at h
    split at h
    · simp only [Bool.and_eq_true] at h
      exact .val A (PE.tr (se_slF A.hK (sndE a A _ h.1).pe (sndE b A _ h.2).pe) fun ρ hp => by (simp only [evE] <;> rfl)) (by intros; intro z; cases z) (by intros; intro z; cases z) (by intros; intro z; cases z)
    · cases h
  | .slT a b, X, sc, W, A, e, h => by
    unfold chE at h
    split at h
    · simp only [Bool.and_eq_true] at h
      exact .val A (PE.tr (se_slT A.hK (sndE a A _ h.1).pe (sndE b A _ h.2).pe) fun ρ hp => by (simp only [evE] <;> rfl)) (by intros; intro z; cases z) (by intros; intro z; cases z) (by intros; intro z; cases z)
    · cases h
  | .slB a b c, X, sc, W, A, e, h => by
    unfold chE at h
    split at h
    · simp only [Bool.and_eq_true] at h
      exact .val A (PE.tr (se_slB A.hK (sndE a A _ h.1.1).pe (sndE b A _ h.1.2).pe (sndE c A _ h.2).pe) fun ρ hp => by (simp only [evE] <;> rfl)) (by intros; intro z; cases z) (by intros; intro z; cases z) (by intros; intro z; cases z)
    · cases h
  | .slN a, X, sc, W, A, e, h => by
    unfold chE at h
    split at h
    · exact .val A (PE.tr (se_slN A.hK (sndE a A _ h).pe) fun ρ hp => by (simp only [evE] <;> rfl)) (by intros; intro z; cases z) (by intros; intro z; cases z) (by intros; intro z; cases z)
    · cases h
  | .rev a, X, sc, W, A, e, h => by
    unfold chE at h
    split at h
    · simp only [Bool.and_eq_true, beq_iff_eq] at h
      obtain ⟨h1, rfl⟩ := h
      exact .val A (PE.tr (se_rev A.hK (sndE a A _ h1).pe) fun ρ hp => by (simp only [evE] <;> rfl)) (by intros; intro z; cases z) (by intros; intro z; cases z) (by intros; intro z; cases z)
    · cases h
  | .tup es, X, sc, W, A, e, h => by
    unfold chE at h
    split at h
    · simp only [Bool.and_eq_true] at h
      exact .val A (PE.tr (se_tup (sndEs es A _ h.1).pa) fun ρ hp => by (simp only [evE] <;> rfl)) (by intros; intro z; cases z) (by intros; intro z; cases z) (by intros; intro z; cases z)
    · cases h
  | .lst es, X, sc, W, A, e, h => by
    unfold chE at h
    split at h
    · simp only [Bool.and_eq_true] at h
      exact .val A (PE.tr (se_lst (sndEs es A _ h.1).pa) fun ρ hp => by (simp only [evE] <;> rfl)) (by intros; intro z; cases z) (by intros; intro z; cases z) (by intros; intro z; cases z)
    · cases h
  | .lc elt tg it, X, sc, W, A, e, h => by
    unfold chE at h
    split at h
    · simp only [Bool.and_eq_true] at h
      obtain ⟨⟨⟨⟨h1, h2⟩, h3⟩, h4⟩, h5⟩ := h
      obtain ⟨i1, i2⟩ := sndI it A _ _ h2
      exact .val A (PE.tr (se_lc A.calm (by rw [A.hN]; exact A.nd) (i1 _ h5) (by rw [show tgOwn X.N tg = tgOwn N tg by rw [A.hN]]; exact A.blkOk h1) (fun s H Ca cl fp => tg_of (A.blk h1 s H Ca cl fp) h3) (fun s H Ca cl fp => (sndE elt (A.blk h1 s H Ca cl fp) _ h4).pe) i2) fun ρ hp => by (simp only [evE] <;> rfl)) (by intros; intro z; cases z) (by intros; intro z; cases z) (by intros; intro z; cases z)
    · cases h
  | .lcIf elt tg it c, X, sc, W, A, e, h => by
    unfold chE at h
    split at h
    · simp only [Bool.and_eq_true] at h
      obtain ⟨⟨⟨⟨⟨⟨h1, h2⟩, h3⟩, h4⟩, h5⟩, h6⟩, h7⟩ := h
      obtain ⟨i1, i2⟩ := sndI it A _ _ h2
      exact .val A (PE.tr (se_lcIf A.calm (by rw [A.hN]; exact A.nd) (i1 _ h5) (by rw [show tgOwn X.N tg = tgOwn N tg by rw [A.hN]]; exact A.blkOk h1) (fun s H Ca cl fp => tg_of (A.blk h1 s H Ca cl fp) h3) (fun s H Ca cl fp => (sndE c (A.blk h1 s H Ca cl fp) _ h6).pt h7) (fun s H Ca cl fp => (sndE elt (A.blk h1 s H Ca cl fp) _ h4).pe) i2) fun ρ hp => by (simp only [evE] <;> rfl)) (by intros; intro z; cases z) (by intros; intro z; cases z) (by intros; intro z; cases z)
    · cases h
theorem sndEs : ∀ (xs : Exs) {X : Cx} {sc : Scope} {W : WX} (A : At X D ca k C G N sc W) (es : List Expr), chEs G N sc xs es = true → Boths X D ca W C xs es
  | .nil, X, sc, W, A, es, h => by
    cases es with
    | nil =>
      exact ⟨by have := @sa_nil X D ca W; simpa only [evEs] using this, fun pos => PE.tr pe_bad fun ρ hp => by simp only [evAnd], fun pos => PE.tr pe_bad fun ρ hp => by simp only [evOr],
        fun pos _ => PW.tr pw_bad fun ρ hp => by simp only [evAnd, R.bind_bad], fun pos _ => PW.tr pw_bad fun ρ hp => by simp only [evOr, R.bind_bad]⟩
    | cons _ _ => simp [chEs] at h
  | .cons x xs, X, sc, W, A, es, h => by
    unfold chEs at h
    split at h
    · simp only [Bool.and_eq_true] at h
      obtain ⟨⟨h1, h2⟩, h3⟩ := h
      have b := sndE x A _ h1
      have r := sndEs xs A _ h3
      rename_i e es'
      have pa : PA X (e :: es') (VA D ca W (evEs C (.cons x xs))) := by
        have := sa_cons b.pe r.pa (star_of X.env es' h2)
        have q : evEs C (.cons x xs) = fun ρ h => (evE C x ρ h).bind fun p h => (evEs C xs ρ h).bind fun ps h => .ok (p :: ps) h := by funext ρ hp; simp only [evEs]
        rw [q]; exact this
      cases xs with
      | nil =>
        have e0 : es' = [] := (chEs_len h3).mp rfl
        subst e0
        exact ⟨pa, fun pos => PE.tr (pe_one b.pe) fun ρ hp => by simp only [evAnd], fun pos => PE.tr (pe_one b.pe) fun ρ hp => by simp only [evOr],
          fun pos hc => PW.tr (pw_and1 (b.pt (by simpa [canTL] using hc))) fun ρ hp => by simp only [evAnd, evT], fun pos hc => PW.tr (pw_or1 (b.pt (by simpa [canTL] using hc))) fun ρ hp => by simp only [evOr, evT]⟩
      | cons y ys =>
        cases es' with
        | nil => simp [chEs] at h3
        | cons e2 es2 =>
          refine ⟨pa, fun pos => PE.tr (se_and A.hK b.pe (r.and pos)) fun ρ hp => by (simp only [evAnd] <;> rfl), fun pos => PE.tr (se_or A.hK b.pe (r.or pos)) fun ρ hp => by (simp only [evOr] <;> rfl), fun pos hc => ?_, fun pos hc => ?_⟩
          · rw [canTL, Bool.and_eq_true] at hc
            refine PW.tr (st_and (b.pt hc.1) (r.andT pos hc.2)) fun ρ hp => ?_
            rw [evAnd]
            · exact and_test _ _
            · intro z; cases z
          · rw [canTL, Bool.and_eq_true] at hc
            refine PW.tr (st_or (b.pt hc.1) (r.orT pos hc.2)) fun ρ hp => ?_
            rw [evOr]
            · exact or_test _ _
            · intro z; cases z
    · cases h
theorem sndI : ∀ (it : Itr) {X : Cx} {sc : Scope} {W : WX} (A : At X D ca k C G N sc W) (tg e : Expr), chI G N sc it tg e = true →
    (∀ t : Tg, zipOk it t = true → PI X tg e (VI t.isMany D ca W (evI C it))) ∧ ∀ x, foldedSetIterable e X.env x = pure x
  | .val x, X, sc, W, A, tg, e, h => by
    unfold chI at h
    simp only [Bool.and_eq_true] at h
    refine ⟨fun t _ => ?_, set_of h.2⟩
    have q : evI C (.val x) = fun ρ h => (evE C x ρ h).bind fun p h => ofP h (srcOf h p) := by funext ρ hp; (simp only [evI] <;> rfl)
    rw [q]
    exact si_val A.hK (sndE x A _ h.1).pe
  | .rng1 a, X, sc, W, A, tg, e, h => by
    unfold chI at h
    split at h
    · simp only [Bool.and_eq_true, beq_iff_eq] at h
      obtain ⟨⟨⟨rfl, h2⟩, h3⟩, h4⟩ := h
      refine ⟨fun t _ => ?_, fun _ => rfl⟩
      skip
      have q : evI C (.rng1 a) = fun ρ h => (evE C a ρ h).bind fun p h => match p with | .int j => if inR j then .ok (.fix (rngL 0 j.toNat)) h else .bad | _ => .bad := by funext ρ hp; (simp only [evI] <;> rfl)
      rw [q]
      exact si_rng1 (tg := tg) (w := t.isMany) (A.gl _ h2) (A.bi _ (by decide +kernel)) (sndE a A _ h3).pe (star_of _ _ h4)
    · cases h
  | .rng2 a b, X, sc, W, A, tg, e, h => by
    unfold chI at h
    split at h
    · simp only [Bool.and_eq_true, beq_iff_eq] at h
      obtain ⟨⟨⟨⟨⟨rfl, h2⟩, h3⟩, h4⟩, h5⟩, h6⟩ := h
      refine ⟨fun t _ => ?_, fun _ => rfl⟩
      skip
      have q : evI C (.rng2 a b) = fun ρ h => (evE C a ρ h).bind fun p h => (evE C b ρ h).bind fun q h => match p, q with | .int i, .int j => if inR i ∧ inR j then .ok (.fix (rngL i (j - i).toNat)) h else .bad | _, _ => .bad := by funext ρ hp; (simp only [evI] <;> rfl)
      rw [q]
      exact si_rng2 (tg := tg) (w := t.isMany) (A.gl _ h2) (A.bi _ (by decide +kernel)) (sndE a A _ h3).pe (sndE b A _ h4).pe (by rw [star_of _ _ h5, star_of _ _ h6]; rfl) (star_of _ _ h6)
    · cases h
  | .zip a b, X, sc, W, A, tg, e, h => by
    unfold chI at h
    split at h
    · simp only [Bool.and_eq_true, beq_iff_eq] at h
      obtain ⟨⟨⟨⟨⟨⟨rfl, h2⟩, h3⟩, h4⟩, h5⟩, h6⟩, h7⟩ := h
      refine ⟨fun t ht => ?_, fun _ => rfl⟩
      split at h7
      · skip
        have q : evI C (.zip a b) = fun ρ h => (evE C a ρ h).bind fun p h => (evE C b ρ h).bind fun q h => match listOf h p, listOf h q with
          | some _, some _ => .ok (.zip p q) h
          | _, _ => (match p, q with | .tup xs, .tup ys => .ok (.fix (xs.zipWith (fun a b => .tup [a, b]) ys)) h | _, _ => .bad) := by funext ρ hp; (simp only [evI] <;> rfl)
        rw [q]
        have ht' : t.isMany = true := ht
        rw [ht']
        exact si_zip A.hK (A.gl _ h2) (A.bi _ (by decide +kernel)) (sndE a A _ h3).pe (sndE b A _ h4).pe (star_of _ _ h5) (star_of _ _ h6)
      · cases h7
    · cases h
end
end
end Pi

set_option Elab.async false
set_option linter.all false
set_option maxRecDepth 100000
set_option maxHeartbeats 8000000
/-! Pi N: what is checked is read by its plain meaning: statements. -/
namespace Pi
open PySem PySem.Spec PyProof.Rows L2

def notComp : Expr → Bool
  | .ListComp _ _ _ _ => false
  | .SetComp _ _ _ _ => false
  | .DictComp _ _ _ _ _ => false
  | _ => true
def compOk : Expr → Bool
  | .ListComp _ _ _ _ => true
  | e => notComp e
/-- does the value go to the name before the block's end -/
def lcSw (sc : Scope) (y : Str) (py : Pos) : Expr → Bool
  | .ListComp _ _ s p2 => lclB sc y && py.line == p2.line && !(s.names.any fun (n, k) => n == y && (k == .local || k == .cell))
  | _ => false
/-- a tuple's parts are stored from the left -/
def swNo (sc : Scope) (ts : List Expr) : Expr → Bool
  | .Tuple es _ _ => es.all (foldedForSure 8) || ts.any (fun t => match t with | .Name y _ => !lclB sc y | _ => true)
  | _ => true
section
variable (G : Cfg) (N : List Str)
mutual
def chS (sc : Scope) : St → Stmt → Bool
  | .set i e, s => match s with
    | .Assign [.Name x py] e' _ => decide (N[i]? = some x) && locB sc x && chE G N sc e e' && compOk e'
    | _ => false
  | .asg t e, s => match s with
    | .Assign [.Tuple ts k p] e' _ => chTg N sc t (.Tuple ts k p) && chE G N sc e e' && swNo sc ts e'
    | _ => false
  | .par2 i j a b, s => match s with
    | .Assign [.Tuple [.Name x px, .Name y py] _ _] (.Tuple [a', b'] _ _) _ => decide (N[i]? = some x) && decide (N[j]? = some y) && !(i == j) && !(x == y) && lclB sc x && lclB sc y && (py.line == px.line) && chE G N sc a a' && chE G N sc b b' && notStar a' && notStar b' &&
        !([a', b'].all (foldedForSure 8)) && !([a', b'].all (constantsAlone 8))
    | _ => false
  | .par3 i j l a b c, s => match s with
    | .Assign [.Tuple [.Name x px, .Name y py, .Name z pz] _ _] (.Tuple [a', b', c'] _ _) _ => decide (N[i]? = some x) && decide (N[j]? = some y) && decide (N[l]? = some z) && !(i == j) && !(i == l) && !(j == l) && !(x == y) && !(x == z) && !(y == z) &&
        lclB sc x && lclB sc y && lclB sc z && (py.line == px.line) && (pz.line == px.line) && chE G N sc a a' && chE G N sc b b' && chE G N sc c c' && notStar a' && notStar b' && notStar c' && !([a', b', c'].all (foldedForSure 8)) && !([a', b', c'].all (constantsAlone 8))
    | _ => false
  | .setix o i e, s => match s with
    | .Assign [.Subscript o' i' _] e' _ => chE G N sc o o' && chE G N sc i i' && chE G N sc e e' && notSlice i'
    | _ => false
  | .aug i o e, s => match s with
    | .AugAssign (.Name x _) o' e' _ => decide (N[i]? = some x) && locB sc x && boB o o' && chE G N sc e e'
    | _ => false
  | .expr e, s => match s with
    | .Expr e' _ => chE G N sc e e' && notComp e'
    | _ => false
  | .ret e, s => match s with
    | .Return (some e') _ => chE G N sc e e'
    | _ => false
  | .retN, s => match s with
    | .Return none _ => true
    | _ => false
  | .ifs c a b, s => match s with
    | .If c' a' b' _ => chE G N sc c c' && canT c' && chSs sc a a' && chSs sc b b'
    | _ => false
  | .whl c b, s => match s with
    | .While c' b' [] _ => chE G N sc c c' && canT c' && chSs sc b b'
    | _ => false
  | .for t it b, s => match s with
    | .For t' it' b' [] _ => chTg N sc t t' && chI G N sc it t' it' && zipOk it t && chSs sc b b'
    | _ => false
  | .raise, _ => true
  | .brk, s => match s with | .Break _ => true | _ => false
  | .cnt, s => match s with | .Continue _ => true | _ => false
  | .pass, s => match s with | .Pass _ => true | .Expr (.Constant (.str _) _ _) _ => true | _ => false
def chSs (sc : Scope) : Sts → List Stmt → Bool
  | .nil, ss => ss.isEmpty
  | .cons s ss, xs => match xs with | x :: xs => chS sc s x && chSs sc ss xs | _ => false
end
end

structure AtS (X : Cx) (D : Gd) (ca : Nat → Option Addr) (k : Nat) (C : Ctx) (G : Cfg) (N : List Str) (sc : Scope) (W : WX) : Prop where
  at_ : At X D ca k C G N sc W
  sce : X.env.scope = sc
  kind : sc.kind = .function
  own : PassesOwn (model X.prog X.w) X.A X.env X.xe

theorem sw_comp {e : Expr} {t : Option Expr} {l : Nat} {env : Env} (h : notComp e = true) : swapsWith e t l env = pure false := by
  cases e <;> first | rfl | cases h
theorem sw_sole {ts : List Expr} {k : Nat} {p : Pos} {e : Expr} {l : Nat} {env : Env} : swapsWithSole [.Tuple ts k p] e l env = pure false := by
  cases e <;> rfl
theorem sw_soleS {o i : Expr} {p : Pos} {e : Expr} {l : Nat} {env : Env} : swapsWithSole [.Subscript o i p] e l env = pure false := by
  cases e <;> rfl
theorem sw_storesS {o i : Expr} {p : Pos} {e : Expr} {env : Env} : swappedStores [.Subscript o i p] e env = pure none := by
  cases e <;> rfl
theorem lclB_of {sc : Scope} {x : Str} (h : lclB sc x = true) : sc.names.lookup x = some .local := by
  unfold lclB at h
  split at h
  · assumption
  · cases h
theorem lclB_not {sc : Scope} {x : Str} (h : lclB sc x = false) : (sc.names.lookup x == some .local) = false := by
  unfold lclB at h
  split at h
  · cases h
  · rename_i hn
    cases e : (sc.names.lookup x == some NameKind.local) with
    | false => rfl
    | true => exact absurd (eq_of_beq e) hn
theorem filterMap_short {α β : Type} {f : α → Option β} : ∀ {l : List α}, (∃ a ∈ l, f a = none) → (l.filterMap f).length < l.length
  | [], h => by obtain ⟨a, h, _⟩ := h; cases h
  | a :: l, h => by
    rw [List.filterMap_cons]
    obtain ⟨b, hb, e⟩ := h
    cases q : f a with
    | none => exact Nat.lt_succ_of_le (List.length_filterMap_le f l)
    | some y =>
      rcases List.mem_cons.mp hb with z | z
      · rw [z, q] at e; cases e
      · exact Nat.succ_lt_succ (filterMap_short ⟨b, z, e⟩)
theorem sw_stores {sc : Scope} {ts : List Expr} {k : Nat} {p : Pos} {e : Expr} {env : Env} (hs : env.scope = sc) (h : swNo sc ts e = true) : swappedStores [.Tuple ts k p] e env = pure none := by
  cases e <;> try rfl
  rename_i es k2 p2
  unfold swNo at h
  simp only [Bool.or_eq_true] at h
  unfold swappedStores
  simp only
  split
  · rfl
  · split
    · rfl
    · split
      · rfl
      · rename_i h3
        rcases h with h | h
        · rw [if_pos h]
        · exfalso
          apply h3
          rw [List.any_eq_true] at h
          obtain ⟨t, ht, hq⟩ := h
          have sh : (ts.filterMap fun x => match x with
            | .Name id pos => if env.kindOf id == some .local && pos.line == (ts.head?.map (·.pos.line)).getD 0 then some id else none
            | _ => none).length < ts.length := by
            refine filterMap_short ⟨t, ht, ?_⟩
            cases t <;> try rfl
            rename_i y py
            have hn : (env.kindOf y == some .local) = false := by
              unfold Env.kindOf
              rw [hs]
              exact lclB_not (by simpa using hq)
            simp only [hn, Bool.false_and]
            rfl
          rw [Bool.or_eq_true]
          left
          rw [bne_iff_ne]
          exact Nat.ne_of_lt sh
theorem blockKind_of {env : Env} (h : env.scope.kind = .function) : env.blockKind = .function := by unfold Env.blockKind; rw [h]; rfl
theorem sw_par2 {sc : Scope} {x y : Str} {px py pt pt2 : Pos} {k k2 : Nat} {a b : Expr} {env : Env} (hs : env.scope = sc) (hk : sc.kind = .function) (hx : lclB sc x = true) (hy : lclB sc y = true) (hl : (py.line == px.line) = true) (hn : (x == y) = false)
    (sa : notStar a = true) (sb : notStar b = true) (hf : ([a, b].all (foldedForSure 8)) = false) (hc : ([a, b].all (constantsAlone 8)) = false) : swappedStores [.Tuple [.Name x px, .Name y py] k pt] (.Tuple [a, b] k2 pt2) env = pure (some [x, y]) := by
  have kx : env.kindOf x = some .local := by unfold Env.kindOf; rw [hs]; exact lclB_of hx
  have ky : env.kindOf y = some .local := by unfold Env.kindOf; rw [hs]; exact lclB_of hy
  have bk := blockKind_of (env := env) (by rw [hs]; exact hk)
  have st : ([a, b].any fun | .Starred .. => true | _ => false) = false := by
    have q : ∀ e : Expr, notStar e = true → (match e with | .Starred .. => true | _ => false) = false := fun e h => by cases e <;> first | rfl | cases h
    simp only [List.any_cons, List.any_nil]
    rw [q a sa, q b sb] <;> rfl
  have hn' : x ≠ y := fun z => by rw [z] at hn; simp at hn
  unfold swappedStores
  simp only [bk, st, hf, hc]
  simp [kx, ky, Expr.pos, eq_of_beq hl, List.eraseDups_cons, hn'.symm, hn', st]
  intro h
  exfalso
  rcases h with h | h
  · cases a <;> first | (cases h; done) | (cases sa; done)
  · cases b <;> first | (cases h; done) | (cases sb; done)
theorem sw_par3 {sc : Scope} {x y z : Str} {px py pz pt pt2 : Pos} {k k2 : Nat} {a b c : Expr} {env : Env} (hs : env.scope = sc) (hk : sc.kind = .function) (hx : lclB sc x = true) (hy : lclB sc y = true) (hz : lclB sc z = true) (hl : (py.line == px.line) = true) (hl2 : (pz.line == px.line) = true)
    (hn : (x == y) = false) (hn2 : (x == z) = false) (hn3 : (y == z) = false)
    (sa : notStar a = true) (sb : notStar b = true) (scc : notStar c = true) (hf : ([a, b, c].all (foldedForSure 8)) = false) (hc : ([a, b, c].all (constantsAlone 8)) = false) : swappedStores [.Tuple [.Name x px, .Name y py, .Name z pz] k pt] (.Tuple [a, b, c] k2 pt2) env = pure (some [x, y, z]) := by
  have kx : env.kindOf x = some .local := by unfold Env.kindOf; rw [hs]; exact lclB_of hx
  have ky : env.kindOf y = some .local := by unfold Env.kindOf; rw [hs]; exact lclB_of hy
  have kz : env.kindOf z = some .local := by unfold Env.kindOf; rw [hs]; exact lclB_of hz
  have bk := blockKind_of (env := env) (by rw [hs]; exact hk)
  have st : ([a, b, c].any fun | .Starred .. => true | _ => false) = false := by
    have q : ∀ e : Expr, notStar e = true → (match e with | .Starred .. => true | _ => false) = false := fun e h => by cases e <;> first | rfl | cases h
    simp only [List.any_cons, List.any_nil]
    rw [q a sa, q b sb, q c scc] <;> rfl
  have hn' : x ≠ y := fun z => by rw [z] at hn; simp at hn
  have hn2' : x ≠ z := fun w => by rw [w] at hn2; simp at hn2
  have hn3' : y ≠ z := fun w => by rw [w] at hn3; simp at hn3
  unfold swappedStores
  simp only [bk, st, hf, hc]
  simp [kx, ky, kz, Expr.pos, eq_of_beq hl, eq_of_beq hl2, List.eraseDups_cons, hn', hn'.symm, hn2', hn2'.symm, hn3', hn3'.symm, st]
  intro h
  exfalso
  rcases h with h | h | h
  · cases a <;> first | (cases h; done) | (cases sa; done)
  · cases b <;> first | (cases h; done) | (cases sb; done)
  · cases c <;> first | (cases h; done) | (cases scc; done)
theorem sw_lcF {sc : Scope} {x : Str} {py : Pos} {elt : Expr} {gs : List Comprehension} {s : Scope} {p2 : Pos} {l : Nat} {env : Env} (hs : env.scope = sc) (hk : sc.kind = .function) (h : lcSw sc x py (.ListComp elt gs s p2) = false) :
    swapsWith (.ListComp elt gs s p2) (some (.Name x py)) l env = pure false := by
  have bk := blockKind_of (env := env) (by rw [hs]; exact hk)
  have kq : (env.kindOf x == some .local) = lclB sc x := by
    unfold Env.kindOf
    rw [hs]
    cases e : lclB sc x with
    | true => rw [lclB_of e]; rfl
    | false => exact lclB_not e
  unfold swapsWith
  simp only [bk, kq, Expr.pos]
  rw [show (ScopeKind.function == ScopeKind.function) = true from rfl, Bool.true_and]
  exact congrArg pure h
theorem sw_lcT {sc : Scope} {x : Str} {py : Pos} {elt : Expr} {gs : List Comprehension} {s : Scope} {p2 : Pos} {l : Nat} {env : Env} (hs : env.scope = sc) (hk : sc.kind = .function) (h : lcSw sc x py (.ListComp elt gs s p2) = true) :
    swapsWith (.ListComp elt gs s p2) (some (.Name x py)) l env = pure true := by
  have bk := blockKind_of (env := env) (by rw [hs]; exact hk)
  have kq : (env.kindOf x == some .local) = lclB sc x := by
    unfold Env.kindOf
    rw [hs]
    cases e : lclB sc x with
    | true => rw [lclB_of e]; rfl
    | false => exact lclB_not e
  unfold swapsWith
  simp only [bk, kq, Expr.pos]
  rw [show (ScopeKind.function == ScopeKind.function) = true from rfl, Bool.true_and]
  exact congrArg pure h
end Pi

set_option Elab.async false
set_option linter.all false
set_option maxRecDepth 100000
set_option maxHeartbeats 8000000
/-! Pi O: statements that are checked are read by their plain meaning. -/
namespace Pi
open PySem PySem.Spec PyProof.Rows L2

section
variable {D : Gd} {ca : Nat → Option Addr} {k : Nat} {C : Ctx} {G : Cfg} {N : List Str}
theorem PS.tr {X : Cx} {W : WX} {e : Stmt} {m m' : PEnv → IH → SR} (h : PS X e (VS D ca W m)) (q : ∀ ρ hp, m' ρ hp = m ρ hp) : PS X e (VS D ca W m') := by
  rw [show m' = m from funext fun ρ => funext fun hp => q ρ hp]; exact h
theorem PSs.tr {X : Cx} {W : WX} {e : List Stmt} {m m' : PEnv → IH → SR} (h : PSs X e (VS D ca W m)) (q : ∀ ρ hp, m' ρ hp = m ρ hp) : PSs X e (VS D ca W m') := by
  rw [show m' = m from funext fun ρ => funext fun hp => q ρ hp]; exact h
/-- name = value -/
theorem snd_set {X : Cx} {sc : Scope} {W : WX} (B : AtS X D ca k C G N sc W) {i : Nat} {x : Str} {e : Ex} {py pos : Pos} {e' : Expr} (hN : N[i]? = some x) (hl : locB sc x = true) (he : chE G N sc e e' = true) (hs : compOk e' = true) :
    PS X (.Assign [.Name x py] e' pos) (VS D ca W fun ρ h => (evE C e ρ h).st ρ fun p h => .nx (ρ.set i (some p)) h) := by
  have A := B.at_
  have plain : swapsWith e' (some (.Name x py)) pos.line X.env = pure false → PS X (.Assign [.Name x py] e' pos) (VS D ca W fun ρ h => (evE C e ρ h).st ρ fun p h => .nx (ρ.set i (some p)) h) := fun q =>
    ss_set (by rw [A.hN]; exact A.nd) (by rw [A.hN]; exact hN) (A.loc _ hl).1 (sndE e A _ he).pe q (A.loc _ hl).2
  unfold compOk at hs
  split at hs
  · rename_i elt' gs' sc' p2
    cases hsw : lcSw sc x py (.ListComp elt' gs' sc' p2) with
    | false => exact plain (sw_lcF B.sce B.kind hsw)
    | true =>
      have hq : ∀ l, swapsWith (.ListComp elt' gs' sc' p2) (some (.Name x py)) l X.env = pure true := fun l => sw_lcT B.sce B.kind hsw
      have lcl : X.env.scope.names.lookup x = some .local := by
        rw [B.sce]
        unfold lcSw at hsw
        simp only [Bool.and_eq_true] at hsw
        exact lclB_of hsw.1.1
      cases e with
      | lc elt tg it =>
        unfold chE at he
        split at he
        · rename_i heq
          injection heq with q1 q2 q3 q4
          subst q1; subst q2; subst q3; subst q4
          simp only [Bool.and_eq_true] at he
          obtain ⟨⟨⟨⟨h1, h2⟩, h3⟩, h4⟩, h5⟩ := he
          obtain ⟨i1, i2⟩ := sndI it A _ _ h2
          exact PS.tr (ss_setLc A.calm (by rw [A.hN]; exact A.nd) (by rw [A.hN]; exact hN) lcl (hq _) (i1 _ h5) (by rw [show tgOwn X.N tg = tgOwn N tg by rw [A.hN]]; exact A.blkOk h1) (fun s H Ca cl fp => tg_of (A.blk h1 s H Ca cl fp) h3) (fun s H Ca cl fp => (sndE elt (A.blk h1 s H Ca cl fp) _ h4).pe) i2) fun ρ hp => by (simp only [evE] <;> rfl)
        · cases he
      | lcIf elt tg it c =>
        unfold chE at he
        split at he
        · rename_i heq
          injection heq with q1 q2 q3 q4
          subst q1; subst q2; subst q3; subst q4
          simp only [Bool.and_eq_true] at he
          obtain ⟨⟨⟨⟨⟨⟨h1, h2⟩, h3⟩, h4⟩, h5⟩, h6⟩, h7⟩ := he
          obtain ⟨i1, i2⟩ := sndI it A _ _ h2
          exact PS.tr (ss_setLcIf A.calm (by rw [A.hN]; exact A.nd) (by rw [A.hN]; exact hN) lcl (hq _) (i1 _ h5) (by rw [show tgOwn X.N tg = tgOwn N tg by rw [A.hN]]; exact A.blkOk h1) (fun s H Ca cl fp => tg_of (A.blk h1 s H Ca cl fp) h3) (fun s H Ca cl fp => (sndE c (A.blk h1 s H Ca cl fp) _ h6).pt h7) (fun s H Ca cl fp => (sndE elt (A.blk h1 s H Ca cl fp) _ h4).pe) i2) fun ρ hp => by (simp only [evE] <;> rfl)
        · cases he
      | _ =>
        exfalso
        unfold chE at he
        first | (cases he; done) | (split at he <;> first | (rename_i heq; cases heq; done) | (cases he; done))
  · exact plain (sw_comp hs)
mutual
theorem sndS : ∀ (s : St) {X : Cx} {sc : Scope} {W : WX} (B : AtS X D ca k C G N sc W) (st : Stmt), chS G N sc s st = true → PS X st (VS D ca W (exS C s))
  | .set i e, X, sc, W, B, st, h => by
    unfold chS at h
    split at h
    · simp only [Bool.and_eq_true, beq_iff_eq, decide_eq_true_eq] at h
      obtain ⟨⟨⟨h2, h3⟩, h4⟩, h5⟩ := h
      exact PS.tr (snd_set B h2 h3 h4 h5) fun ρ hp => by (simp only [exS] <;> rfl)
    · cases h
  | .asg t e, X, sc, W, B, st, h => by
    unfold chS at h
    split at h
    · simp only [Bool.and_eq_true] at h
      obtain ⟨⟨h1, h2⟩, h3⟩ := h
      exact PS.tr (ss_asg (sndE e B.at_ _ h2).pe (tg_of B.at_ h1) sw_sole (sw_stores B.sce h3) rfl) fun ρ hp => by (simp only [exS] <;> rfl)
    · cases h
  | .par2 i j a b, X, sc, W, B, st, h => by
    unfold chS at h
    split at h
    · simp only [Bool.and_eq_true, beq_iff_eq, decide_eq_true_eq, Bool.not_eq_true'] at h
      obtain ⟨⟨⟨⟨⟨⟨⟨⟨⟨⟨⟨⟨h3, h4⟩, h5⟩, h6⟩, h7⟩, h8⟩, h9⟩, h10⟩, h11⟩, h12⟩, h13⟩, h14⟩, h15⟩ := h
      have A := B.at_
      exact PS.tr (ss_par2 A.calm (by rw [A.hN]; exact A.nd) (by rw [A.hN]; exact h3) (by rw [A.hN]; exact h4) (by simpa using h5) (by rw [B.sce]; exact lclB_of h7) (by rw [B.sce]; exact lclB_of h8) (sndE a A _ h10).pe (sndE b A _ h11).pe (star_of _ _ h12) (star_of _ _ h13)
        (sw_par2 B.sce B.kind h7 h8 (by simpa using h9) h6 h12 h13 h14 h15)) fun ρ hp => by (simp only [exS] <;> rfl)
    · cases h
  | .par3 i j l a b c, X, sc, W, B, st, h => by
    unfold chS at h
    split at h
    · simp only [Bool.and_eq_true, beq_iff_eq, decide_eq_true_eq, Bool.not_eq_true'] at h
      obtain ⟨⟨⟨⟨⟨⟨⟨⟨⟨⟨⟨⟨⟨⟨⟨⟨⟨⟨⟨⟨⟨h3, h4⟩, h5⟩, i1⟩, i2⟩, i3⟩, n1⟩, n2⟩, n3⟩, l1⟩, l2⟩, l3⟩, p1⟩, p2⟩, e1⟩, e2⟩, e3⟩, s1⟩, s2⟩, s3⟩, f1⟩, f2⟩ := h
      have A := B.at_
      exact PS.tr (ss_par3 A.calm (by rw [A.hN]; exact A.nd) (by rw [A.hN]; exact h3) (by rw [A.hN]; exact h4) (by rw [A.hN]; exact h5) (by simpa using i1) (by simpa using i2) (by simpa using i3) (by rw [B.sce]; exact lclB_of l1) (by rw [B.sce]; exact lclB_of l2) (by rw [B.sce]; exact lclB_of l3) (sndE a A _ e1).pe (sndE b A _ e2).pe (sndE c A _ e3).pe (star_of _ _ s1) (star_of _ _ s2) (star_of _ _ s3)
        (sw_par3 B.sce B.kind l1 l2 l3 (by simpa using p1) (by simpa using p2) n1 n2 n3 s1 s2 s3 f1 f2)) fun ρ hp => by (simp only [exS] <;> rfl)
    · cases h
  | .setix o i e, X, sc, W, B, st, h => by
    unfold chS at h
    split at h
    · simp only [Bool.and_eq_true] at h
      obtain ⟨⟨⟨h1, h2⟩, h3⟩, h4⟩ := h
      have A := B.at_
      refine PS.tr (ss_setix (sndE o A _ h1).pe (sndE i A _ h2).pe (sndE e A _ h3).pe (fun v => ?_) sw_soleS sw_storesS rfl) fun ρ hp => by (simp only [exS] <;> rfl)
      rename_i i' _ _ _
      cases i' <;> first | rfl | cases h4
    · cases h
  | .aug i o e, X, sc, W, B, st, h => by
    unfold chS at h
    split at h
    · simp only [Bool.and_eq_true, beq_iff_eq, decide_eq_true_eq] at h
      obtain ⟨⟨⟨h2, h3⟩, h4⟩, h5⟩ := h
      rw [bo_of h4]
      have A := B.at_
      exact PS.tr (ss_aug o (by rw [A.hN]; exact A.nd) (by rw [A.hN]; exact h2) (A.loc _ h3).1 (sndE e A _ h5).pe (A.loc _ h3).2) fun ρ hp => by (simp only [exS] <;> rfl)
    · cases h
  | .expr e, X, sc, W, B, st, h => by
    unfold chS at h
    split at h
    · simp only [Bool.and_eq_true] at h
      exact PS.tr (ss_expr (sndE e B.at_ _ h.1).pe (sw_comp h.2)) fun ρ hp => by (simp only [exS] <;> rfl)
    · cases h
  | .ret e, X, sc, W, B, st, h => by
    unfold chS at h
    split at h
    · exact PS.tr (ss_ret (sndE e B.at_ _ h).pe) fun ρ hp => by (simp only [exS] <;> rfl)
    · cases h
  | .retN, X, sc, W, B, st, h => by
    unfold chS at h
    split at h
    · exact PS.tr ss_retN fun ρ hp => by (simp only [exS] <;> rfl)
    · cases h
  | .ifs c a b, X, sc, W, B, st, h => by
    unfold chS at h
    split at h
    · simp only [Bool.and_eq_true] at h
      obtain ⟨⟨⟨h1, h2⟩, h3⟩, h4⟩ := h
      exact PS.tr (ss_if ((sndE c B.at_ _ h1).pt h2) (sndSs a B _ h3) (sndSs b B _ h4)) fun ρ hp => by (simp only [exS] <;> rfl)
    · cases h
  | .whl c b, X, sc, W, B, st, h => by
    unfold chS at h
    split at h
    · simp only [Bool.and_eq_true] at h
      obtain ⟨⟨h1, h2⟩, h3⟩ := h
      exact PS.tr (ss_whl (fuel := C.fuel) B.own ((sndE c B.at_ _ h1).pt h2) (sndSs b B _ h3)) fun ρ hp => by (simp only [exS] <;> rfl)
    · cases h
  | .for t it b, X, sc, W, B, st, h => by
    unfold chS at h
    split at h
    · simp only [Bool.and_eq_true] at h
      obtain ⟨⟨⟨h1, h2⟩, h3⟩, h4⟩ := h
      obtain ⟨i1, i2⟩ := sndI it B.at_ _ _ h2
      exact PS.tr (ss_for (fuel := C.fuel) B.own B.at_.calm (i1 _ h3) (tg_of B.at_ h1) (sndSs b B _ h4) i2) fun ρ hp => by (simp only [exS] <;> rfl)
    · cases h
  | .raise, X, sc, W, B, st, h => PS.tr ss_never fun ρ hp => by (simp only [exS] <;> rfl)
  | .brk, X, sc, W, B, st, h => by
    unfold chS at h
    split at h
    · exact PS.tr ss_brk fun ρ hp => by (simp only [exS] <;> rfl)
    · cases h
  | .cnt, X, sc, W, B, st, h => by
    unfold chS at h
    split at h
    · exact PS.tr ss_cnt fun ρ hp => by (simp only [exS] <;> rfl)
    · cases h
  | .pass, X, sc, W, B, st, h => by
    unfold chS at h
    split at h
    · exact PS.tr ss_pass fun ρ hp => by (simp only [exS] <;> rfl)
    · exact PS.tr ss_doc fun ρ hp => by (simp only [exS] <;> rfl)
    · cases h
theorem sndSs : ∀ (ss : Sts) {X : Cx} {sc : Scope} {W : WX} (B : AtS X D ca k C G N sc W) (st : List Stmt), chSs G N sc ss st = true → PSs X st (VS D ca W (exSs C ss))
  | .nil, X, sc, W, B, st, h => by
    cases st with
    | nil => exact PSs.tr sss_nil fun ρ hp => by (simp only [exSs] <;> rfl)
    | cons _ _ => simp [chSs] at h
  | .cons s ss, X, sc, W, B, st, h => by
    unfold chSs at h
    split at h
    · simp only [Bool.and_eq_true] at h
      exact PSs.tr (sss_cons (sndS s B _ h.1) (sndSs ss B _ h.2)) fun ρ hp => by (simp only [exSs] <;> rfl)
    · cases h
end
end
end Pi

set_option Elab.async false
set_option linter.all false
set_option maxRecDepth 100000
set_option maxHeartbeats 8000000
/-! Pi P: all defs of a text; the law's call. -/
namespace Pi
open PySem PySem.Spec PyProof.Rows L2

/-- a def's text -/
structure DefT (G : Cfg) (x : Str) (st : Stmt) (F : Fn) (N ps : List Str) : Prop where
  S : FnScope N ps (defScope st)
  bind : ∀ (kV doc pm : Value) (an : Option Addr) (cdv ct : Value) (us : List Value), us.length = ps.length → bindArgs (PySem.W.fnOf x x (defArgs st) (defBody st) (defScope st) .none kV doc pm an cdv ct) ⟨us, []⟩ = pure (ps.zip us)
  nps : F.ps = ps.length
  nns : F.ns = N.length
  ok : chSs G N (defScope st) F.body (defBody st) = true
/-- a def's object -/
structure DefIn (K : PySem.W.Frag) (x : Str) (st : Stmt) (a : Addr) : Prop where
  ex : ∃ (od an : Option Addr) (osl : Array (Option Value)) (oc kV doc pm cdv ct : Value), K.lookup a = some ⟨oc, od, .func (PySem.W.fnOf x x (defArgs st) (defBody st) (defScope st) .none kV doc pm an cdv ct), osl⟩ ∧ PySem.W.codeIn K cdv x = true ∧ PySem.W.keepIn K (.ref a) = true
theorem DefIn.mk' {K : PySem.W.Frag} {x : Str} {st : Stmt} {a : Addr} {od an : Option Addr} {osl : Array (Option Value)} {oc kV doc pm cdv ct : Value} (h1 : K.lookup a = some ⟨oc, od, .func (PySem.W.fnOf x x (defArgs st) (defBody st) (defScope st) .none kV doc pm an cdv ct), osl⟩) (h2 : PySem.W.codeIn K cdv x = true) (h3 : PySem.W.keepIn K (.ref a) = true) : DefIn K x st a := ⟨_, _, _, _, _, _, _, _, _, h1, h2, h3⟩
structure Ok (K : PySem.W.Frag) (mg : Str → Option Value) (D : Gd) (G : Cfg) (T : Nat → Option Fn) (con : Nat → Option PV) : Prop where
  hK : D.K = K
  defs : ∀ (f : Nat) (a : Addr), D.fa f = some a → ∃ x st F N ps, DefIn K x st a ∧ DefT G x st F N ps ∧ T f = some F
  fn : ∀ (f : Nat) (x : Str), G.fns f = some x → ∃ a, D.fa f = some a ∧ mg x = some (.ref a)
  con : ∀ (g : Nat) (x : Str), G.cons g = some x → ∃ (v : V) (u : Value) (p : PV), mg x = some u ∧ RelV v u ∧ con g = some p ∧ ∀ ads H, RV D ads H p v
  bi : ∀ x ∈ biNames, mg x = none

section
variable {P : Program} {w : World} {K : PySem.W.Frag} {mg : Str → Option Value} {base : Heap} {D : Gd} {ca : Nat → Option Addr} {G : Cfg} {T : Nat → Option Fn} {con : Nat → Option PV} {fuel : Nat}
theorem start_rel {ads : List Addr} {hp : IH} {H : Hp} {ps : List PV} {vs : List V} {N : List Str} (hr : HR D ads hp H) (r : RVs D ads H ps vs) (hl : vs.length ≤ N.length) : Rel D ads (startP N.length ps) hp (L2.start N vs) H := by
  refine ⟨hr, ?_, fun i p e => ?_⟩
  · unfold startP L2.start
    simp [r.length]
  · unfold startP at e
    have hi : i < ps.length := by
      refine Nat.lt_of_not_le fun z => ?_
      rw [List.getElem?_append_right (by simpa using z)] at e
      rw [List.getElem?_replicate] at e
      split at e <;> cases e
    rw [List.getElem?_append_left (by simpa using hi), List.getElem?_map] at e
    cases q : ps[i]? with
    | none => rw [q] at e; cases e
    | some p' =>
      rw [q] at e; cases e
      obtain ⟨v, hv, rv⟩ := r.get q
      refine ⟨v, ?_, rv⟩
      unfold L2.start
      rw [List.getElem?_append_left (by rw [List.length_map, ← r.length]; exact hi), List.getElem?_map, hv]
      rfl
theorem run_len {d f : Nat} {F : Fn} {ps : List PV} {h : IH} (hT : T f = some F) (hl : ps.length ≠ F.ps) : run T con fuel d f ps h = .bad := by
  cases d with
  | zero => rw [run_0]
  | succ d => rw [run_s, hT]; exact if_neg hl
/-- every def of the text keeps what its run says -/
theorem fn_at (O : Ok K mg D G T con) : ∀ (d f : Nat) (a : Addr) {x : Str} {st : Stmt} {F : Fn} {N ps : List Str} {od an : Option Addr} {osl : Array (Option Value)} {oc kV doc pm cdv ct : Value},
    K.lookup a = some ⟨oc, od, .func (PySem.W.fnOf x x (defArgs st) (defBody st) (defScope st) .none kV doc pm an cdv ct), osl⟩ → PySem.W.codeIn K cdv x = true → DefT G x st F N ps → T f = some F →
    FnG P w K mg base d a (PySem.W.fnOf x x (defArgs st) (defBody st) (defScope st) .none kV doc pm an cdv ct) ps (spC D ca ps.length (run T con fuel d f))
  | 0, f, a, x, st, F, N, ps, od, an, osl, oc, kV, doc, pm, cdv, ct, h1, h2, t, hT => by
    refine ⟨fun vs H Q E h => h.1, fun A outer s H args us vs Q E hr hgd e0 hb r h => ?_⟩
    obtain ⟨_, ads, hp, qs, _, _, h⟩ := h
    rw [run_0] at h
    exact h.elim
  | d + 1, f, a, x, st, F, N, ps, od, an, osl, oc, kV, doc, pm, cdv, ct, h1, h2, t, hT => by
    refine fn_ofG h1 h2 t.S (fun vs H Q E h => h.1) fun A outer s H vs Q E hr hgd h => ?_
    obtain ⟨hl, ads, hp, qs, hrr, rv, h⟩ := h
    have defs : Defs (cxOf (L2.CX P w) P w K mg base N x (defScope st) a cdv A outer s H E) D ca d (run T con fuel d) := ⟨fun f a hf => by
      obtain ⟨x, st, F, N, ps, ⟨od, an, osl, oc, kV, doc, pm, cdv, ct, h1, h2, h3⟩, t, hT⟩ := O.defs f a hf
      exact ⟨ps.length, ⟨_, ps, fn_at O d f a h1 h2 t hT, h3, .all (t.bind kV doc pm an cdv ct)⟩, fun qs h hl => run_len hT (by rw [t.nps]; exact hl)⟩⟩
    have B : AtS (cxOf (L2.CX P w) P w K mg base N x (defScope st) a cdv A outer s H E) D ca d ⟨run T con fuel d, con, fuel⟩ G N (defScope st) (fun cls d _ H => E cls d H) := by
      refine ⟨⟨O.hK, rfl, t.S.nd, rfl, hgd, hr, takes_of rfl rfl rfl rfl, defs, O.fn, O.con, O.bi, fun x h => ?_, fun x h => ?_, fun x h => ?_, fun x h => h⟩, rfl, t.S.kind, passes_of rfl⟩
      · unfold visB at h
        show Vis (defScope st) x
        unfold Vis
        split at h
        · exact .inl (by assumption)
        · exact .inr (.inl (by assumption))
        · exact .inr (.inr (by assumption))
        · cases h
      · unfold locB at h
        show L2.Loc (defScope st) x ∧ _
        unfold L2.Loc
        split at h
        · exact ⟨.inl (by assumption), .inl rfl⟩
        · exact ⟨.inr (by assumption), .inl rfl⟩
        · cases h
      · unfold glB at h
        split at h
        · assumption
        · cases h
    refine ⟨_, sndSs F.body B (defBody st) t.ok, ads, startP N.length qs, hp, start_rel hrr rv ?_, ?_⟩
    · rw [hl]
      have := congrArg List.length t.S.pre
      rw [List.length_take] at this
      omega
    · rw [run_s, hT] at h
      simp only at h
      rw [if_pos (by rw [t.nps, rv.length, hl]), t.nns] at h
      cases q : exSs ⟨run T con fuel d, con, fuel⟩ F.body (startP N.length qs) hp with
      | nx ρ h' => rw [q] at h; exact fun ads' σ' H' e rl => h ads' .non H' e rl.hr (by simp [RV])
      | rt p h' => rw [q] at h; exact fun ads' v H' e hr' r => h ads' v H' e hr' r
      | bk ρ h' => rw [q] at h; exact h.elim
      | ct ρ h' => rw [q] at h; exact h.elim
      | ex x ρ h' => rw [q] at h; exact fun ads' σ' H' cls dd e rl r => h ads' H' cls dd e rl.hr r
      | bad => rw [q] at h; exact h.elim
end

/-! ### the law's call -/
theorem law_callG {P : Program} {w : World} {K : PySem.W.Frag} {mg mb : Str → Option Value} {k : Nat} {fa a : Addr} {fd : FuncData} {x : Str} {sp : Sp} {s₁ : Shared} {vs : List Value} {ns : List Int}
    (KX : K.In s₁.heap) (hns : s₁.heap.Ns mainGlobals mg) (hb : s₁.heap.Ns builtinsNs mb) (hbb : ∀ x : Str, x ≠ "__name__" → mb x = bootBuiltins x) (hlim : s₁.heap.NoLimit) (hg : s₁.gens = #[])
    (ha : s₁.heap.get? a = some { cls := .type "list", data := .seq vs.toArray }) (hi : IntsAre vs ns) (hl : ns.length ≤ sizeLine) (hr : Room k callerA) (hgd : callerA.guards = some [])
    (F : ∀ base : Heap, K.In base → base.Ns mainGlobals mg → FnG P w K mg base k fa fd [x] sp) (hbind : ∀ (s : Shared) (u : Value), BindsTo s fd ⟨[u], []⟩ [(x, u)])
    (hsp : ∀ H : Hp, Only H → SqL K H a (ns.map V.int) → sp [.ref a] H (fun v _ => v = .bl true) fun _ _ _ => False) :
    codeAny (model P w) callerA (.call (.ref fa) ⟨[.ref a], []⟩) (fun r s' => r = .ok (.ret (.bool true)) ∧ OldK s₁.heap s'.heap ∧ s'.os = s₁.os ∧ AllBare s'.gens) s₁ := by
  have rv := vals_ints hi
  have lenV := hi.length
  have core : ∀ H : Hp, Only H → SqL K H a (ns.map V.int) → HOk P w H s₁.heap → (∀ b, H b ≠ none → b = a) → (H a ≠ none → K.lookup a = none) →
      codeAny (model P w) callerA (.call (.ref fa) ⟨[.ref a], []⟩) (fun r s' => r = .ok (.ret (.bool true)) ∧ OldK s₁.heap s'.heap ∧ s'.os = s₁.os ∧ AllBare s'.gens) s₁ := by
    intro H hO hS hok hA hK
    have base_of : ∀ {b : Addr} {o : Obj}, s₁.heap.get? b = some o → H b = none → (hidT s₁.heap H).get? b = some o := fun e n => hidT_get e n
    have noA : ∀ {b : Addr} {o : Obj} {es : Array DictEntry} {ep : Nat}, s₁.heap.get? b = some o → o.data = .dict es ep → H b = none := fun {b o es ep} e d => by
      cases q : H b with
      | none => rfl
      | some u =>
        have e' : b = a := hA b (by rw [q]; simp)
        subst e'
        rw [ha] at e; cases e
        have d' : Data.seq vs.toArray _ = Data.dict es ep := d
        cases d'
    have nsK : ∀ {b : Addr} {m : Str → Option Value}, s₁.heap.Ns b m → (hidT s₁.heap H).Ns b m := fun {b m} ⟨o, es, ep, e, d, r⟩ => ⟨o, es, ep, base_of e (noA e d), d, r⟩
    have hKb : K.In (hidT s₁.heap H) := fun b o e => base_of (KX b o e) (by
      cases q : H b with
      | none => rfl
      | some u =>
        have e' : b = a := hA b (by rw [q]; simp)
        subst e'
        rw [hK (by rw [q]; simp)] at e; cases e)
    have hM : Mod K mg (hidT s₁.heap H) := ⟨hKb, nsK hns, ⟨mb, nsK hb, hbb⟩, let ⟨mc, h1, h2⟩ := hlim; ⟨mc, nsK h1, h2⟩⟩
    have e0 : Env0 P w K mg (hidT s₁.heap H) callerA [] s₁ H := ⟨rfl, hM, fun b o e => of_hidT e, Nat.le_of_eq (hidT_size _ _), trivial, fun b hb => absurd (show b ∈ ([] : List Addr) from hb) (by simp), hok, .of_eq hg⟩
    refine codeAny_mono ((F _ hKb (nsK hns)).run callerA [] s₁ H ⟨[.ref a], []⟩ [.ref a] [.ref a] _ _ hr hgd e0 (hbind s₁ (.ref a)) (.cons rfl .nil) (hsp H hO hS)) fun r s' h => ?_
    cases r with
    | error e =>
      have h' : L2.CX P w [] H s₁ (fun _ _ _ => False) e s' := h
      obtain ⟨_, _, _, _, _, _, _, _, _, _, _, _, h'⟩ := h'
      exact h'.elim
    | ok fl =>
      cases fl with
      | next => exact False.elim h
      | brk => exact False.elim h
      | cont => exact False.elim h
      | ret u =>
        obtain ⟨v, H', os, bare, un, hok', r', q⟩ := h
        have q' : v = .bl true := q
        subst q'
        obtain rfl : u = Value.bool true := r'
        refine ⟨rfl, OldK.of_keep fun b o e => ?_, os, bare⟩
        cases q : H b with
        | none => exact un.keep b o e q (by intro z; exact absurd (show b ∈ ([] : List Addr) from z) (by simp)) (by simp)
        | some u =>
          rcases hO b with z | ⟨ob, xs, z⟩
          · rw [q] at z; cases z
          · have z2 := un.frzs b ob _ z
            obtain ⟨e1, _⟩ := hok b _ z
            obtain ⟨e2, _⟩ := hok' b _ z2
            rw [e] at e1; cases e1
            exact e2
  cases hk : K.lookup a with
  | some o =>
    have e := KX a o hk
    rw [ha] at e
    cases e
    refine core (fun _ => none) (fun _ => .inl rfl) (.inr ⟨_, vs.toArray, _, hk, rfl, rfl, rfl, by rw [List.size_toArray, lenV]; exact hl, by simpa using rv⟩) (fun b u z => by have z' : (none : Option HO) = some u := z; cases z') (fun b z => absurd rfl z) fun z => absurd rfl z
  | none =>
    refine core (fun b => if b = a then some (.frz { cls := .type "list", data := .seq vs.toArray } (.lst (ns.map V.int))) else none) (fun b => ?_) (.inl (.inr ⟨{ cls := .type "list", data := .seq vs.toArray }, if_pos rfl⟩)) (fun b u z => ?_) (fun b z => ?_) fun _ => hk
    · by_cases hb : b = a
      · exact .inr ⟨_, _, if_pos hb⟩
      · exact .inl (if_neg hb)
    · by_cases hb : b = a
      · have z' := (if_pos hb).symm.trans z
        cases z'
        subst hb
        exact ⟨ha, by rw [List.length_map]; exact hl, vs, _, rv, ha⟩
      · have z' := (if_neg hb).symm.trans z
        cases z'
    · by_cases hb : b = a
      · exact hb
      · exact absurd (if_neg hb) z
theorem walk_ofG {l : PySem.W.OpenLaw} {n k : Nat} {q : Program} {loose : List Str} {XP : (Str → Option Value) → Heap → Prop} {YP : World → Heap → Prop} {d : DefRec} {K : Params → PySem.W.Frag}
    (hn : l.most = some n) (hn2 : n ≤ sizeLine) (hdf : d.params.defaults = []) (hr : Room k callerA)
    (hY : ∀ (w : World) (h : Heap), YP w h → (K w.params).In h)
    (F : ∀ (w : World) (mg : Str → Option Value) (fa : Addr) (h : Heap), (K w.params).In h → h.Ns mainGlobals mg → mg d.name = some (.ref fa) →
      ∃ (fd : FuncData) (x : Str) (sp : Sp), (∀ (s : Shared) (u : Value), BindsTo s fd ⟨[u], []⟩ [(x, u)]) ∧ (∀ base : Heap, (K w.params).In base → base.Ns mainGlobals mg → FnG l.prog w (K w.params) mg base k fa fd [x] sp) ∧
        ∀ (H : Hp) (a : Addr) (ns : List Int), ns.length ≤ n → Only H → SqL (K w.params) H a (ns.map V.int) → sp [.ref a] H (fun v _ => v = .bl true) fun _ _ _ => False) :
    PySem.W.WalkO q loose XP YP l.row.toRowW d [] (fun f vs => PySem.call f vs) := by
  refine Att.attach_call hn hdf fun w s₀ s₁ mg mb fa o pm cd doc a vs ns G Y ho hd hcd hmg hobj hints hlen hg => ?_
  have KX := hY w _ Y
  obtain ⟨fd, x, sp, hb, hF, hsp⟩ := F w mg fa _ KX G.T.g hmg
  exact law_callG KX G.T.g G.T.b G.T.builtins G.T.nolimit hg hobj hints (Nat.le_trans hlen hn2) hr rfl hF hb fun H hO hS => hsp H a ns hlen hO hS

/-! ### tables -/
abbrev Tx := List (Nat × Fn × Str)
def txN (es : Tx) (n : Nat) : Option Str := (es.lookup n).map (·.2)
def txA : Tx → List Addr → Nat → Option Addr
  | e :: es, a :: as, m => if m = e.1 then some a else txA es as m
  | _, _, _ => none
inductive Tab (K : PySem.W.Frag) (mg : Str → Option Value) (G : Cfg) (T : Nat → Option Fn) : Tx → List Addr → Prop
  | nil : Tab K mg G T [] []
  | cons {n : Nat} {x : Str} {st : Stmt} {a : Addr} {F : Fn} {N ps : List Str} {es : Tx} {as : List Addr} (i : DefIn K x st a) (t : DefT G x st F N ps) (m : mg x = some (.ref a)) (g : T n = some F) (r : Tab K mg G T es as) : Tab K mg G T ((n, F, x) :: es) (a :: as)
abbrev Cs := List (Nat × Str)
abbrev tx (n : Nat) (F : Fn) (x : Str) : Nat × Fn × Str := (n, F, x)
abbrev cx (n : Nat) (x : Str) : Nat × Str := (n, x)
inductive Cst (mg : Str → Option Value) (D : Gd) (con : Nat → Option PV) : Cs → Prop
  | nil : Cst mg D con []
  | cons {n : Nat} {x : Str} {p : PV} {v : V} {u : Value} {xs : Cs} (m : mg x = some u) (r : RelV v u) (h : ∀ ads H, RV D ads H p v) (g : con n = some p) (k : Cst mg D con xs) : Cst mg D con ((n, x) :: xs)
section
variable {K : PySem.W.Frag} {mg : Str → Option Value} {G : Cfg} {D : Gd} {T : Nat → Option Fn} {con : Nat → Option PV}
theorem Tab.defs : ∀ {es : Tx} {as : List Addr}, Tab K mg G T es as → ∀ (f : Nat) (a : Addr), txA es as f = some a → ∃ x st F N ps, DefIn K x st a ∧ DefT G x st F N ps ∧ T f = some F
  | _, _, .nil, f, a, h => by simp [txA] at h
  | _, _, .cons (n := n) i t m g r, f, a, h => by
    by_cases e : f = n
    · subst e
      simp only [txA, if_pos] at h
      cases h
      exact ⟨_, _, _, _, _, i, t, g⟩
    · simp only [txA, if_neg e] at h
      exact Tab.defs r f a h
theorem Tab.fn : ∀ {es : Tx} {as : List Addr}, Tab K mg G T es as → ∀ (f : Nat) (x : Str), txN es f = some x → ∃ a, txA es as f = some a ∧ mg x = some (.ref a)
  | _, _, .nil, f, a, h => by simp [txN] at h
  | _, _, .cons (n := n) i t m g r, f, x, h => by
    by_cases e : f = n
    · subst e
      simp only [txN, List.lookup_cons, beq_self_eq_true] at h
      cases h
      exact ⟨_, by simp [txA], m⟩
    · have e' : (f == n) = false := by simp [e]
      simp only [txN, List.lookup_cons, e'] at h
      obtain ⟨a, h1, h2⟩ := Tab.fn r f x h
      exact ⟨a, by simp [txA, e, h1], h2⟩
theorem Cst.get : ∀ {xs : Cs}, Cst mg D con xs → ∀ (g : Nat) (x : Str), xs.lookup g = some x → ∃ (v : V) (u : Value) (p : PV), mg x = some u ∧ RelV v u ∧ con g = some p ∧ ∀ ads H, RV D ads H p v
  | _, .nil, f, a, h => by simp at h
  | _, .cons (n := n) m r hh g k, f, x, h => by
    by_cases e : f = n
    · subst e
      simp only [List.lookup_cons, beq_self_eq_true] at h
      cases h
      exact ⟨_, _, _, m, r, g, hh⟩
    · have e' : (f == n) = false := by simp [e]
      simp only [List.lookup_cons, e'] at h
      exact Cst.get k f x h
theorem bi_of (h1 : ∀ x, x ∈ biNames → PySem.W.nsIn K mainGlobals x = some none) {h : Heap} (X : K.In h) (g : h.Ns mainGlobals mg) : ∀ x ∈ biNames, mg x = none := fun x hx => PySem.W.mg_none_of X g (h1 x hx)
/-- the promise of the law, from its plain run -/
theorem end_of {P : Program} {w : World} {es : Tx} {as : List Addr} {cs : Cs} {fuel d fl n : Nat} {fa : Addr} {lw : Str} {Fl : Fn}
    (tab : Tab K mg ⟨txN es, fun g => cs.lookup g⟩ T es as) (cst : Cst mg ⟨K, txA es as⟩ con cs) (bi : ∀ x ∈ biNames, mg x = none) (hfl : txN es fl = some lw) (hfa : mg lw = some (.ref fa))
    (hTl : T fl = some Fl) (one : Fl.ps = 1)
    (law : ∀ ns : List Int, ns.length ≤ n → ∃ h', run T con fuel d fl [.rol (ns.map .int)] [] = .ok (.bl true) h') :
    ∃ (fd : FuncData) (x : Str) (sp : Sp), (∀ (s : Shared) (u : Value), BindsTo s fd ⟨[u], []⟩ [(x, u)]) ∧ (∀ base : Heap, K.In base → base.Ns mainGlobals mg → FnG P w K mg base d fa fd [x] sp) ∧
        ∀ (H : Hp) (a : Addr) (ns : List Int), ns.length ≤ n → Only H → SqL K H a (ns.map V.int) → sp [.ref a] H (fun v _ => v = .bl true) fun _ _ _ => False := by
  have O : Ok K mg ⟨K, txA es as⟩ ⟨txN es, fun g => cs.lookup g⟩ T con := ⟨rfl, tab.defs, tab.fn, cst.get, bi⟩
  obtain ⟨a, ha, hm⟩ := tab.fn fl lw hfl
  rw [hfa] at hm
  cases hm
  obtain ⟨x, st, F, N, ps, ⟨od, an, osl, oc, kV, doc, pm, cdv, ct, h1, h2, h3⟩, t, hT⟩ := tab.defs fl fa ha
  have hps : ps.length = 1 := by
    rw [hTl] at hT
    cases hT
    rw [← t.nps]
    exact one
  obtain ⟨y, rfl⟩ : ∃ y, ps = [y] := by
    cases ps with
    | nil => cases hps
    | cons y r =>
      cases r with
      | nil => exact ⟨y, rfl⟩
      | cons _ _ => simp at hps
  refine ⟨_, y, _, fun s u => .of_eq (t.bind kV doc pm an cdv ct [u] rfl), fun base _ _ => fn_at (ca := fun _ => none) (fuel := fuel) O d fl fa h1 h2 t hT, fun H a ns hl hO hS => ?_⟩
  refine ⟨rfl, [], [], [.rol (ns.map .int)], ⟨rfl, by simp, fun n b c e => by simp at e⟩, ?_, ?_⟩
  · have rv : ∀ ns : List Int, RVs ⟨K, txA es as⟩ [] H (ns.map .int) (ns.map V.int) := by
      intro ns
      induction ns with
      | nil => exact RVs.nil
      | cons n ns ih => exact RVs.cons (by simp [RV]) ih
    refine RVs.cons ?_ RVs.nil
    simp only [RV]
    refine ⟨a, ns.map V.int, rfl, ?_, rv ns⟩
    rcases hS with (hS | ⟨o, hS⟩) | hS
    · rcases hO a with z | ⟨o, ys, z⟩
      · rw [hS] at z; cases z
      · rw [hS] at z; cases z
    · exact .inl ⟨o, hS⟩
    · exact .inr hS
  · obtain ⟨h', e⟩ := law ns hl
    have e' : run T con fuel d fl [.rol (ns.map .int)] [] = .ok (.bl true) h' := e
    rw [e']
    intro ads' v H' _ _ r
    simp only [relV, RV] at r
    exact r
end
end Pi

set_option Elab.async false
set_option linter.all false
set_option maxRecDepth 100000
set_option maxHeartbeats 8000000
/-! Pi Q: what a plain run reaches: rules for running. -/
namespace Pi
open PySem

def wpE {α : Type} (r : R α) (P : α → IH → Prop) : Prop := match r with
  | .ok a h => P a h
  | _ => False
def wpS (r : SR) (N : PEnv → IH → Prop) (Rt : PV → IH → Prop) (B Ct : PEnv → IH → Prop) : Prop := match r with
  | .nx ρ h => N ρ h
  | .rt p h => Rt p h
  | .bk ρ h => B ρ h
  | .ct ρ h => Ct ρ h
  | _ => False
theorem wpE_congr {α : Type} {r r' : R α} {P : α → IH → Prop} (h : r = r') : wpE r P = wpE r' P := by rw [h]
theorem wpS_congr {r r' : SR} {N : PEnv → IH → Prop} {Rt : PV → IH → Prop} {B Ct : PEnv → IH → Prop} (h : r = r') : wpS r N Rt B Ct = wpS r' N Rt B Ct := by rw [h]
theorem wpE_ok {α : Type} (a : α) (h : IH) (P : α → IH → Prop) : wpE (.ok a h) P = P a h := rfl
theorem wpE_bind {α β : Type} (r : R α) (k : α → IH → R β) (P : β → IH → Prop) : wpE (r.bind k) P = wpE r (fun a h => wpE (k a h) P) := by cases r <;> rfl
theorem wpE_mono {α : Type} {r : R α} {P P' : α → IH → Prop} (h : wpE r P) (k : ∀ a h, P a h → P' a h) : wpE r P' := by
  cases r with
  | ok a hp => exact k _ _ h
  | ex _ _ => exact h
  | bad => exact h
theorem wpS_mono {r : SR} {N N' : PEnv → IH → Prop} {Rt Rt' : PV → IH → Prop} {B B' Ct Ct' : PEnv → IH → Prop} (h : wpS r N Rt B Ct) (kn : ∀ ρ h, N ρ h → N' ρ h) (kr : ∀ p h, Rt p h → Rt' p h) (kb : ∀ ρ h, B ρ h → B' ρ h) (kc : ∀ ρ h, Ct ρ h → Ct' ρ h) : wpS r N' Rt' B' Ct' := by
  cases r with
  | nx ρ hp => exact kn _ _ h
  | rt p hp => exact kr _ _ h
  | bk ρ hp => exact kb _ _ h
  | ct ρ hp => exact kc _ _ h
  | ex _ _ _ => exact h
  | bad => exact h
theorem wpS_nx (ρ : PEnv) (h : IH) (N : PEnv → IH → Prop) (Rt : PV → IH → Prop) (B Ct : PEnv → IH → Prop) : wpS (.nx ρ h) N Rt B Ct = N ρ h := rfl
theorem wpS_rt (p : PV) (h : IH) (N : PEnv → IH → Prop) (Rt : PV → IH → Prop) (B Ct : PEnv → IH → Prop) : wpS (.rt p h) N Rt B Ct = Rt p h := rfl
theorem wpS_bk (ρ : PEnv) (h : IH) (N : PEnv → IH → Prop) (Rt : PV → IH → Prop) (B Ct : PEnv → IH → Prop) : wpS (.bk ρ h) N Rt B Ct = B ρ h := rfl
theorem wpS_ct (ρ : PEnv) (h : IH) (N : PEnv → IH → Prop) (Rt : PV → IH → Prop) (B Ct : PEnv → IH → Prop) : wpS (.ct ρ h) N Rt B Ct = Ct ρ h := rfl
theorem wpS_st {α : Type} (ρ : PEnv) (r : R α) (k : α → IH → SR) (N : PEnv → IH → Prop) (Rt : PV → IH → Prop) (B Ct : PEnv → IH → Prop) : wpS (r.st ρ k) N Rt B Ct = wpE r (fun a h => wpS (k a h) N Rt B Ct) := by cases r <;> rfl
theorem wpS_then (r : SR) (k : PEnv → IH → SR) (N : PEnv → IH → Prop) (Rt : PV → IH → Prop) (B Ct : PEnv → IH → Prop) : wpS (r.then k) N Rt B Ct = wpS r (fun ρ h => wpS (k ρ h) N Rt B Ct) Rt B Ct := by cases r <;> rfl
theorem wpS_turn (r : SR) (k : PEnv → IH → SR) (N : PEnv → IH → Prop) (Rt : PV → IH → Prop) (B Ct : PEnv → IH → Prop) : wpS (r.turn k) N Rt B Ct = wpS r (fun ρ h => wpS (k ρ h) N Rt B Ct) Rt N (fun ρ h => wpS (k ρ h) N Rt B Ct) := by cases r <;> rfl
theorem wpE_fin (r : SR) (P : PV → IH → Prop) : wpE r.fin P = wpS r (fun _ h => P .non h) P (fun _ _ => False) (fun _ _ => False) := by cases r <;> rfl
theorem wpE_noX {α : Type} (r : R α) (P : α → IH → Prop) : wpE (noX r) P = wpE r P := by cases r <;> rfl
theorem wpS_if {b : Bool} {x y : SR} {N : PEnv → IH → Prop} {Rt : PV → IH → Prop} {B Ct : PEnv → IH → Prop} : wpS (match b with | true => x | false => y) N Rt B Ct = if b = true then wpS x N Rt B Ct else wpS y N Rt B Ct := by cases b <;> simp

def getP {α : Type} (o : Option α) (P : α → Prop) : Prop := match o with
  | some a => P a
  | none => False
theorem getP_some {α : Type} (a : α) (P : α → Prop) : getP (some a) P = P a := rfl
theorem getP_none {α : Type} (P : α → Prop) : getP (none : Option α) P = False := rfl
theorem getP_map {α β : Type} (o : Option α) (f : α → β) (P : β → Prop) : getP (o.map f) P = getP o (fun a => P (f a)) := by cases o <;> rfl
theorem getP_bind {α β : Type} (o : Option α) (f : α → Option β) (P : β → Prop) : getP (o.bind f) P = getP o (fun a => getP (f a) P) := by cases o <;> rfl
theorem getP_ite {α : Type} {c : Prop} [Decidable c] (a : α) (P : α → Prop) : getP (if c then some a else none) P = (c ∧ P a) := by split <;> simp_all [getP]
theorem getP_if {α : Type} {c : Prop} [Decidable c] (a b : Option α) (P : α → Prop) : getP (if c then a else b) P = if c then getP a P else getP b P := by split <;> rfl
theorem getP_ok {α : Type} {o : Option α} {P : α → Prop} {a : α} (h : o = some a) (k : P a) : getP o P := by rw [h]; exact k
def asI : PV → Option Int
  | .int i => some i
  | _ => none
def asF : PV → Option Nat
  | .fn f => some f
  | _ => none
def asT : PV → Option (List PV)
  | .tup f => some f
  | _ => none
theorem asI_int (i : Int) : asI (.int i) = some i := rfl
theorem asF_fn (i : Nat) : asF (.fn i) = some i := rfl
theorem asT_tup (xs : List PV) : asT (.tup xs) = some xs := rfl
theorem wpE_ofO {α : Type} (o : Option (α × IH)) (P : α → IH → Prop) : wpE (ofO o) P = getP o (fun r => P r.1 r.2) := by cases o <;> rfl
theorem wpE_ofP {α : Type} (h : IH) (o : Option α) (P : α → IH → Prop) : wpE (ofP h o) P = getP o (fun r => P r h) := by cases o <;> rfl

/-! ### the statements, run -/
section
variable (C : Ctx) (N : PEnv → IH → Prop) (Rt : PV → IH → Prop) (B Ct : PEnv → IH → Prop) (ρ : PEnv) (h : IH)
theorem w_nil : wpS (exSs C .nil ρ h) N Rt B Ct = N ρ h := by simp only [exSs, wpS_nx]
theorem w_cons (s : St) (ss : Sts) : wpS (exSs C (.cons s ss) ρ h) N Rt B Ct = wpS (exS C s ρ h) (fun ρ h => wpS (exSs C ss ρ h) N Rt B Ct) Rt B Ct := by simp only [exSs, wpS_then]
theorem w_set (i : Nat) (e : Ex) : wpS (exS C (.set i e) ρ h) N Rt B Ct = wpE (evE C e ρ h) (fun p h => N (ρ.set i (some p)) h) := by simp only [exS, wpS_st, wpS_nx]
theorem w_asg (t : Tg) (e : Ex) : wpS (exS C (.asg t e) ρ h) N Rt B Ct = wpE (evE C e ρ h) (fun p h => getP (tgO t p ρ) fun ρ1 => N ρ1 h) := by
  simp only [exS, wpS_st]
  congr 1
  funext p h
  cases tgO t p ρ <;> rfl
theorem w_par2 (i j : Nat) (a b : Ex) : wpS (exS C (.par2 i j a b) ρ h) N Rt B Ct = wpE (evE C a ρ h) (fun p h => wpE (evE C b ρ h) (fun q h => N ((ρ.set i (some p)).set j (some q)) h)) := by simp only [exS, wpS_st, wpS_nx]
theorem w_par3 (i j k : Nat) (a b c : Ex) : wpS (exS C (.par3 i j k a b c) ρ h) N Rt B Ct = wpE (evE C a ρ h) (fun p h => wpE (evE C b ρ h) (fun q h => wpE (evE C c ρ h) (fun r h => N (((ρ.set i (some p)).set j (some q)).set k (some r)) h))) := by simp only [exS, wpS_st, wpS_nx]
theorem w_setix (o i e : Ex) : wpS (exS C (.setix o i e) ρ h) N Rt B Ct = wpE (evE C e ρ h) (fun p h => wpE (evE C o ρ h) (fun q h => wpE (evE C i ρ h) (fun k h => getP (setixO q k p h) fun h' => N ρ h'))) := by
  simp only [exS, wpS_st]
  congr 1
  funext p h
  congr 1
  funext q h
  congr 1
  funext k h
  cases setixO q k p h <;> rfl
theorem w_aug (i : Nat) (o : BO) (e : Ex) : wpS (exS C (.aug i o e) ρ h) N Rt B Ct = getP (ρ[i]?.join) fun p => wpE (evE C e ρ h) (fun q h => getP (augO o p q) fun r => N (ρ.set i (some r)) h) := by
  simp only [exS]
  cases ρ[i]?.join with
  | none => rfl
  | some p =>
    simp only [wpS_st, getP_some]
    congr 1
    funext q h
    cases augO o p q <;> rfl
theorem w_expr (e : Ex) : wpS (exS C (.expr e) ρ h) N Rt B Ct = wpE (evE C e ρ h) (fun _ h => N ρ h) := by simp only [exS, wpS_st, wpS_nx]
theorem w_ret (e : Ex) : wpS (exS C (.ret e) ρ h) N Rt B Ct = wpE (evE C e ρ h) Rt := by simp only [exS, wpS_st, wpS_rt]
theorem w_retN : wpS (exS C .retN ρ h) N Rt B Ct = Rt .non h := by simp only [exS, wpS_rt]
theorem w_ifs (c : Ex) (a b : Sts) : wpS (exS C (.ifs c a b) ρ h) N Rt B Ct = wpE (evT C c ρ h) (fun t h => (t = true → wpS (exSs C a ρ h) N Rt B Ct) ∧ (t = false → wpS (exSs C b ρ h) N Rt B Ct)) := by
  simp only [exS, wpS_st]
  congr 1
  funext t h
  cases t <;> simp
theorem w_brk : wpS (exS C .brk ρ h) N Rt B Ct = B ρ h := by simp only [exS, wpS_bk]
theorem w_cnt : wpS (exS C .cnt ρ h) N Rt B Ct = Ct ρ h := by simp only [exS, wpS_ct]
theorem w_pass : wpS (exS C .pass ρ h) N Rt B Ct = N ρ h := by simp only [exS, wpS_nx]
theorem w_raise : wpS (exS C .raise ρ h) N Rt B Ct = False := by simp only [exS]; rfl
theorem w_for (t : Tg) (it : Itr) (b : Sts) : wpS (exS C (.for t it b) ρ h) N Rt B Ct = wpE (evI C it ρ h) (fun s h => wpS (forGo s t (exSs C b) C.fuel 0 ρ h) N Rt B Ct) := by simp only [exS, wpS_st]
theorem w_whl (c : Ex) (b : Sts) : wpS (exS C (.whl c b) ρ h) N Rt B Ct = wpS (whlGo (evT C c) (exSs C b) C.fuel ρ h) N Rt B Ct := by simp only [exS]
end
/-! ### the expressions, run -/
section
variable (C : Ctx) (P : PV → IH → Prop) (ρ : PEnv) (h : IH)
theorem e_v (i : Nat) : wpE (evE C (.v i) ρ h) P = getP (ρ[i]?.join) fun p => P p h := by simp only [evE, wpE_ofP]
theorem e_gc (g : Nat) : wpE (evE C (.gc g) ρ h) P = getP (C.con g) fun p => P p h := by simp only [evE, wpE_ofP]
theorem e_int (i : Int) : wpE (evE C (.int i) ρ h) P = P (.int i) h := by simp only [evE, wpE_ok]
theorem e_str (i : Str) : wpE (evE C (.str i) ρ h) P = P (.str i) h := by simp only [evE, wpE_ok]
theorem e_bl (i : Bool) : wpE (evE C (.bl i) ρ h) P = P (.bl i) h := by simp only [evE, wpE_ok]
theorem e_non : wpE (evE C .non ρ h) P = P .non h := by simp only [evE, wpE_ok]
theorem e_neg (a : Ex) : wpE (evE C (.neg a) ρ h) P = wpE (evE C a ρ h) (fun p h => getP (asI p) fun i => P (.int (-i)) h) := by
  simp only [evE, wpE_bind]; congr 1; funext p h; cases p <;> rfl
theorem e_not (a : Ex) : wpE (evE C (.not a) ρ h) P = wpE (evE C a ρ h) (fun p h => getP (truO h p) fun b => P (.bl (!b)) h) := by simp only [evE, wpE_bind, wpE_ofP, getP_map]
theorem e_bin (o : BO) (a b : Ex) : wpE (evE C (.bin o a b) ρ h) P = wpE (evE C a ρ h) (fun p h => wpE (evE C b ρ h) (fun q h => getP (binO o p q h) fun r => P r.1 r.2)) := by simp only [evE, wpE_bind, wpE_ofO]
theorem e_cmp (o : CO) (a b : Ex) : wpE (evE C (.cmp o a b) ρ h) P = wpE (evE C a ρ h) (fun p h => wpE (evE C b ρ h) (fun q h => getP (cmpO o p q h) fun r => P (.bl r) h)) := by simp only [evE, wpE_bind, wpE_ofP, getP_map]
theorem e_chain (o o' : CO) (a b c : Ex) : wpE (evE C (.chain o o' a b c) ρ h) P = wpE (evE C a ρ h) (fun p h => wpE (evE C b ρ h) (fun q h => getP (cmpO o p q h) fun r => (r = true → wpE (evE C c ρ h) (fun s h => getP (cmpO o' q s h) fun t => P (.bl t) h)) ∧ (r = false → P (.bl false) h))) := by
  simp only [evE, wpE_bind, wpE_ofP]; congr 1; funext p h; congr 1; funext q h; congr 1; funext r
  cases r with
  | false => simp [wpE_ok]
  | true => simp [wpE_bind, wpE_ofP, getP_map]
theorem e_and1 (a : Ex) : wpE (evAnd C (.cons a .nil) ρ h) P = wpE (evE C a ρ h) P := by simp only [evAnd]
theorem e_and2 (a b : Ex) (r : Exs) : wpE (evAnd C (.cons a (.cons b r)) ρ h) P = wpE (evE C a ρ h) (fun p h => getP (truO h p) fun t => (t = true → wpE (evAnd C (.cons b r) ρ h) P) ∧ (t = false → P p h)) := by
  rw [evAnd]
  · simp only [wpE_bind, wpE_ofP]; congr 1; funext p h; congr 1; funext t
    cases t <;> simp [wpE_ok]
  · intro z; cases z
theorem e_or1 (a : Ex) : wpE (evOr C (.cons a .nil) ρ h) P = wpE (evE C a ρ h) P := by simp only [evOr]
theorem e_or2 (a b : Ex) (r : Exs) : wpE (evOr C (.cons a (.cons b r)) ρ h) P = wpE (evE C a ρ h) (fun p h => getP (truO h p) fun t => (t = true → P p h) ∧ (t = false → wpE (evOr C (.cons b r) ρ h) P)) := by
  rw [evOr]
  · simp only [wpE_bind, wpE_ofP]; congr 1; funext p h; congr 1; funext t
    cases t <;> simp [wpE_ok]
  · intro z; cases z
theorem e_and (es : Exs) : wpE (evE C (.and es) ρ h) P = wpE (evAnd C es ρ h) P := by simp only [evE]
theorem e_or (es : Exs) : wpE (evE C (.or es) ρ h) P = wpE (evOr C es ρ h) P := by simp only [evE]
theorem e_ite (c a b : Ex) : wpE (evE C (.ite c a b) ρ h) P = wpE (evE C c ρ h) (fun p h => getP (truO h p) fun t => (t = true → wpE (evE C a ρ h) P) ∧ (t = false → wpE (evE C b ρ h) P)) := by
  simp only [evE, wpE_bind, wpE_ofP]; congr 1; funext p h; congr 1; funext t
  cases t <;> simp
theorem e_T (e : Ex) (P : Bool → IH → Prop) : wpE (evT C e ρ h) P = wpE (evE C e ρ h) (fun p h => getP (truO h p) fun t => P t h) := by simp only [evT, wpE_bind, wpE_ofP]
theorem e_call (f : Nat) (es : Exs) : wpE (evE C (.call f es) ρ h) P = wpE (evEs C es ρ h) (fun ps h => wpE (C.call f ps h) P) := by simp only [evE, wpE_bind]
theorem e_callv (i : Nat) (es : Exs) : wpE (evE C (.callv i es) ρ h) P = getP (ρ[i]?.join) fun p => getP (asF p) fun f => wpE (evEs C es ρ h) (fun ps h => wpE (C.call f ps h) P) := by
  simp only [evE]
  cases ρ[i]?.join with
  | none => rfl
  | some p => cases p <;> first | rfl | simp only [wpE_bind, getP_some, asF_fn]
theorem e_bi (b : Bi) (es : Exs) : wpE (evE C (.bi b es) ρ h) P = wpE (evEs C es ρ h) (fun ps h => getP (biO b ps h) fun r => P r.1 r.2) := by simp only [evE, wpE_bind, wpE_ofO]
theorem e_isi (a : Ex) (t : String) : wpE (evE C (.isi a t) ρ h) P = wpE (evE C a ρ h) (fun p h => getP (isiO h p t) fun b => P (.bl b) h) := by simp only [evE, wpE_bind, wpE_ofP, getP_map]
theorem e_meth (m : Mt) (o : Ex) (es : Exs) : wpE (evE C (.meth m o es) ρ h) P = wpE (evE C o ρ h) (fun p h => mtPre m p = true ∧ wpE (evEs C es ρ h) (fun ps h => getP (mtO m p ps h) fun r => P r.1 r.2)) := by
  simp only [evE, wpE_bind]; congr 1; funext p h
  cases mtPre m p with
  | false => simp [wpE]
  | true => simp [wpE_bind, wpE_ofO]
theorem e_ix (a b : Ex) : wpE (evE C (.ix a b) ρ h) P = wpE (evE C a ρ h) (fun p h => wpE (evE C b ρ h) (fun q h => getP (ixO p q h) fun r => P r h)) := by simp only [evE, wpE_bind, wpE_ofP]
theorem e_slF (a b : Ex) : wpE (evE C (.slF a b) ρ h) P = wpE (evE C a ρ h) (fun p h => wpE (evE C b ρ h) (fun q h => getP (asI q) fun i => getP (slO p (some i) none h) fun r => P r.1 r.2)) := by
  simp only [evE, wpE_bind]; congr 1; funext p h; congr 1; funext q h
  cases q <;> first | rfl | simp only [wpE_ofO, asI_int, getP_some]
theorem e_slT (a b : Ex) : wpE (evE C (.slT a b) ρ h) P = wpE (evE C a ρ h) (fun p h => wpE (evE C b ρ h) (fun q h => getP (asI q) fun i => getP (slO p none (some i) h) fun r => P r.1 r.2)) := by
  simp only [evE, wpE_bind]; congr 1; funext p h; congr 1; funext q h
  cases q <;> first | rfl | simp only [wpE_ofO, asI_int, getP_some]
theorem e_slB (a b c : Ex) : wpE (evE C (.slB a b c) ρ h) P = wpE (evE C a ρ h) (fun p h => wpE (evE C b ρ h) (fun q h => getP (asI q) fun i => wpE (evE C c ρ h) (fun s h => getP (asI s) fun j => getP (slO p (some i) (some j) h) fun r => P r.1 r.2))) := by
  simp only [evE, wpE_bind]; congr 1; funext p h; congr 1; funext q h
  cases q with
  | int i =>
    simp only [asI_int, getP_some, wpE_bind]; congr 1; funext s h
    cases s <;> first | rfl | simp only [wpE_ofO, asI_int, getP_some]
  | _ => rfl
theorem e_slN (a : Ex) : wpE (evE C (.slN a) ρ h) P = wpE (evE C a ρ h) (fun p h => getP (slO p none none h) fun r => P r.1 r.2) := by simp only [evE, wpE_bind, wpE_ofO]
theorem e_rev (a : Ex) : wpE (evE C (.rev a) ρ h) P = wpE (evE C a ρ h) (fun p h => getP (revO p h) fun r => P r.1 r.2) := by simp only [evE, wpE_bind, wpE_ofO]
theorem e_tup (es : Exs) : wpE (evE C (.tup es) ρ h) P = wpE (evEs C es ρ h) (fun ps h => ps.length ≤ sizeLine ∧ P (.tup ps) h) := by
  simp only [evE, wpE_bind]; congr 1; funext ps h
  by_cases hz : ps.length ≤ sizeLine
  · rw [if_pos hz]; simp [hz, wpE_ok]
  · rw [if_neg hz]; simp [hz, wpE]
theorem e_lst (es : Exs) : wpE (evE C (.lst es) ρ h) P = wpE (evEs C es ρ h) (fun ps h => ps.length ≤ sizeLine ∧ P (.ref h.length) (h ++ [.lst ps])) := by
  simp only [evE, wpE_bind]; congr 1; funext ps h
  by_cases hz : ps.length ≤ sizeLine
  · rw [if_pos hz]; simp [hz, wpE_ok]
  · rw [if_neg hz]; simp [hz, wpE]
theorem e_lc (elt : Ex) (tg : Tg) (it : Itr) : wpE (evE C (.lc elt tg it) ρ h) P = wpE (evI C it ρ h) (fun s h => wpE (lcGo s (lcStep tg (fun _ h => .ok true h) (evE C elt) (wipeP ρ tg.slots)) C.fuel 0 [] h) P) := by simp only [evE, wpE_bind]
theorem e_lcIf (elt : Ex) (tg : Tg) (it : Itr) (c : Ex) : wpE (evE C (.lcIf elt tg it c) ρ h) P = wpE (evI C it ρ h) (fun s h => wpE (lcGo s (lcStep tg (evT C c) (evE C elt) (wipeP ρ tg.slots)) C.fuel 0 [] h) P) := by
  simp only [evE, wpE_bind]; rfl
theorem es_nil (P : List PV → IH → Prop) : wpE (evEs C .nil ρ h) P = P [] h := by simp only [evEs, wpE_ok]
theorem es_cons (P : List PV → IH → Prop) (e : Ex) (es : Exs) : wpE (evEs C (.cons e es) ρ h) P = wpE (evE C e ρ h) (fun p h => wpE (evEs C es ρ h) (fun ps h => P (p :: ps) h)) := by simp only [evEs, wpE_bind, wpE_ok]
theorem i_val (P : Src → IH → Prop) (e : Ex) : wpE (evI C (.val e) ρ h) P = wpE (evE C e ρ h) (fun p h => getP (srcOf h p) fun s => P s h) := by simp only [evI, wpE_bind, wpE_ofP]
theorem i_rng1 (P : Src → IH → Prop) (a : Ex) : wpE (evI C (.rng1 a) ρ h) P = wpE (evE C a ρ h) (fun p h => getP (asI p) fun j => inR j ∧ P (.fix (rngL 0 j.toNat)) h) := by
  simp only [evI, wpE_bind]; congr 1; funext p h
  cases p with
  | int j => by_cases hj : inR j <;> simp [wpE, hj, getP, asI]
  | _ => rfl
theorem i_rng2 (P : Src → IH → Prop) (a b : Ex) : wpE (evI C (.rng2 a b) ρ h) P = wpE (evE C a ρ h) (fun p h => wpE (evE C b ρ h) (fun q h => getP (asI p) fun i => getP (asI q) fun j => (inR i ∧ inR j) ∧ P (.fix (rngL i (j - i).toNat)) h)) := by
  simp only [evI, wpE_bind]; congr 1; funext p h; congr 1; funext q h
  cases p with
  | int i =>
    cases q with
    | int j => by_cases hj : inR i ∧ inR j <;> simp [wpE, hj, getP, asI]
    | _ => rfl
  | _ => cases q <;> rfl
/-- what zip walks -/
def zipS (h : IH) (p q : PV) : Option Src := match p, q with
  | .tup xs, .tup ys => some (.fix (xs.zipWith (fun a b => .tup [a, b]) ys))
  | p, q => (listOf h p).bind fun _ => (listOf h q).map fun _ => .zip p q
theorem i_zip (P : Src → IH → Prop) (a b : Ex) : wpE (evI C (.zip a b) ρ h) P = wpE (evE C a ρ h) (fun p h => wpE (evE C b ρ h) (fun q h => getP (zipS h p q) fun s => P s h)) := by
  simp only [evI, wpE_bind]; congr 1; funext p h; congr 1; funext q h
  unfold zipS
  cases p with
  | tup xs => cases q <;> rfl
  | _ =>
    cases q with
    | ref m =>
      simp only [listOf]
      first
        | rfl
        | (cases lstAt h m <;> rfl)
        | (rename_i n; cases lstAt h n <;> first | rfl | (cases lstAt h m <;> rfl))
    | _ =>
      simp only [listOf]
      first
        | rfl
        | (rename_i n _; cases lstAt h n <;> rfl)
        | (rename_i n; cases lstAt h n <;> rfl)
end
end Pi

set_option Elab.async false
set_option linter.all false
set_option maxRecDepth 100000
set_option maxHeartbeats 8000000
/-! Pi R: heaps that grow; loops; whole numbers, tuples of them. -/
namespace Pi
open PySem

/-! ### entering a def -/
theorem run_in {T : Nat → Option Fn} {con : Nat → Option PV} {N d f : Nat} {ps : List PV} {h : IH} {F : Fn} (hT : T f = some F) (hl : ps.length = F.ps) (P : PV → IH → Prop) :
    wpE (run T con N (d + 1) f ps h) P = wpS (exSs ⟨run T con N d, con, N⟩ F.body (startP F.ns ps) h) (fun _ h => P .non h) P (fun _ _ => False) (fun _ _ => False) := by
  rw [run_s, hT]
  simp only
  rw [if_pos hl, wpE_fin]

/-! ### heaps -/
/-- all old cells but those of S stay -/
def Gr (S : List Nat) (h h' : IH) : Prop := h.length ≤ h'.length ∧ ∀ i, i < h.length → i ∉ S → h'[i]? = h[i]?
section
variable {S S' : List Nat} {h h' h'' : IH} {n : Nat} {c : Cell} {xs : List PV}
theorem Gr.refl : Gr S h h := ⟨Nat.le_refl _, fun _ _ _ => rfl⟩
theorem Gr.trans (a : Gr S h h') (b : Gr S h' h'') : Gr S h h'' := ⟨Nat.le_trans a.1 b.1, fun i hi hs => by rw [b.2 i (Nat.lt_of_lt_of_le hi a.1) hs, a.2 i hi hs]⟩
theorem Gr.mono (a : Gr S h h') (k : ∀ i ∈ S, i ∈ S') : Gr S' h h' := ⟨a.1, fun i hi hs => a.2 i hi fun z => hs (k i z)⟩
theorem Gr.any (a : Gr [] h h') : Gr S h h' := a.mono fun i hi => absurd hi (by simp)
theorem Gr.new (a : Gr S h h') : Gr S h (h' ++ [c]) := ⟨by rw [List.length_append]; exact Nat.le_trans a.1 (Nat.le_add_right _ _), fun i hi hs => by rw [List.getElem?_append_left (Nat.lt_of_lt_of_le hi a.1)]; exact a.2 i hi hs⟩
theorem Gr.set_new (a : Gr S h h') (hn : h.length ≤ n) : Gr S h (h'.set n c) := ⟨by simpa using a.1, fun i hi hs => by rw [List.getElem?_set_ne (by omega)]; exact a.2 i hi hs⟩
theorem Gr.set_in (a : Gr S h h') (hn : n ∈ S) : Gr S h (h'.set n c) := ⟨by simpa using a.1, fun i hi hs => by rw [List.getElem?_set_ne (fun z => hs (by rw [← z]; exact hn))]; exact a.2 i hi hs⟩
theorem lstAt_lt (e : lstAt h n = some xs) : n < h.length := by
  unfold lstAt at e
  cases q : h[n]? with
  | none => rw [q] at e; cases e
  | some c => exact (List.getElem?_eq_some_iff.mp q).1
theorem Gr.at (a : Gr S h h') (e : lstAt h n = some xs) (hn : n ∉ S) : lstAt h' n = some xs := by
  have := a.2 n (lstAt_lt e) hn
  unfold lstAt at e ⊢
  rw [this]; exact e
theorem lst_new : lstAt (h ++ [.lst xs]) h.length = some xs := by unfold lstAt; simp
theorem lst_old (hn : n < h.length) : lstAt (h ++ [c]) n = lstAt h n := by unfold lstAt; rw [List.getElem?_append_left hn]
theorem lst_set (hn : n < h.length) : lstAt (h.set n (.lst xs)) n = some xs := by unfold lstAt; rw [List.getElem?_set_self hn]
theorem lst_set_ne {m : Nat} (hn : n ≠ m) : lstAt (h.set m c) n = lstAt h n := by unfold lstAt; rw [List.getElem?_set_ne (Ne.symm hn)]
end

/-! ### loops -/
section
variable {N : PEnv → IH → Prop} {Rt : PV → IH → Prop} {B Ct : PEnv → IH → Prop} {t : Tg} {body : PEnv → IH → SR} {fuel : Nat} {ρ : PEnv} {h : IH}
/-- a for whose source's items are known turn by turn -/
theorem for_src {src : Src} {xs : List PV} (I : Nat → PEnv → IH → Prop) (h0 : I 0 ρ h) (hs : ∀ i ρ h, i ≤ xs.length → I i ρ h → srcAt src i h = some xs[i]?)
    (hb : ∀ i x ρ h, xs[i]? = some x → I i ρ h → getP (tgO t x ρ) fun ρ1 => wpS (body ρ1 h) (I (i + 1)) Rt N (I (i + 1))) (hd : ∀ ρ h, I xs.length ρ h → N ρ h) (hf : xs.length < fuel) : wpS (forGo src t body fuel 0 ρ h) N Rt B Ct := by
  have gen : ∀ (m i : Nat) (ρ : PEnv) (h : IH), i ≤ xs.length → xs.length - i < m → I i ρ h → wpS (forGo src t body m i ρ h) N Rt B Ct := by
    intro m
    induction m with
    | zero => intro i ρ h _ hm; omega
    | succ m ih =>
      intro i ρ h hi hm hI
      rw [forGo, hs i ρ h hi hI]
      cases q : xs[i]? with
      | none =>
        have : i = xs.length := by have := List.getElem?_eq_none_iff.mp q; omega
        subst this
        exact hd ρ h hI
      | some x =>
        have hlt : i < xs.length := (List.getElem?_eq_some_iff.mp q).1
        have hb' := hb i x ρ h q hI
        simp only
        cases q2 : tgO t x ρ with
        | none => rw [q2] at hb'; exact hb'.elim
        | some ρ1 =>
          rw [q2] at hb'
          simp only [wpS_turn]
          exact wpS_mono hb' (fun ρ h k => ih _ _ _ hlt (by omega) k) (fun _ _ k => k) (fun _ _ k => k) fun ρ h k => ih _ _ _ hlt (by omega) k
  exact gen fuel 0 ρ h (Nat.zero_le _) (by omega) h0
theorem for_fix {xs : List PV} (I : Nat → PEnv → IH → Prop) (h0 : I 0 ρ h) (hb : ∀ i x ρ h, xs[i]? = some x → I i ρ h → getP (tgO t x ρ) fun ρ1 => wpS (body ρ1 h) (I (i + 1)) Rt N (I (i + 1))) (hd : ∀ ρ h, I xs.length ρ h → N ρ h) (hf : xs.length < fuel) : wpS (forGo (.fix xs) t body fuel 0 ρ h) N Rt B Ct :=
  for_src I h0 (fun _ _ _ _ _ => rfl) hb hd hf
theorem for_lst {n : Nat} {xs : List PV} (I : Nat → PEnv → IH → Prop) (h0 : I 0 ρ h) (hl : ∀ i ρ h, I i ρ h → lstAt h n = some xs) (hb : ∀ i x ρ h, xs[i]? = some x → I i ρ h → getP (tgO t x ρ) fun ρ1 => wpS (body ρ1 h) (I (i + 1)) Rt N (I (i + 1))) (hd : ∀ ρ h, I xs.length ρ h → N ρ h) (hf : xs.length < fuel) : wpS (forGo (.lst n) t body fuel 0 ρ h) N Rt B Ct :=
  for_src I h0 (fun i ρ h _ k => by simp only [srcAt]; rw [hl i ρ h k]; rfl) hb hd hf
theorem whl_by {c : PEnv → IH → R Bool} {m : Nat} (I : Nat → PEnv → IH → Prop) (h0 : I m ρ h) (hb : ∀ m ρ h, I m ρ h → wpE (c ρ h) fun t h => (t = true → wpS (body ρ h) (fun ρ h => ∃ m', m' < m ∧ I m' ρ h) Rt N (fun ρ h => ∃ m', m' < m ∧ I m' ρ h)) ∧ (t = false → N ρ h)) (hf : m < fuel) : wpS (whlGo c body fuel ρ h) N Rt B Ct := by
  have gen : ∀ (f m : Nat) (ρ : PEnv) (h : IH), m < f → I m ρ h → wpS (whlGo c body f ρ h) N Rt B Ct := by
    intro f
    induction f with
    | zero => intro m ρ h hm; omega
    | succ f ih =>
      intro m ρ h hm hI
      rw [whlGo, wpS_st]
      refine wpE_mono (hb m ρ h hI) fun t h k => ?_
      cases t with
      | false => exact k.2 rfl
      | true =>
        simp only [wpS_turn]
        exact wpS_mono (k.1 rfl) (fun ρ h ⟨m', h1, h2⟩ => ih m' ρ h (by omega) h2) (fun _ _ k => k) (fun _ _ k => k) fun ρ h ⟨m', h1, h2⟩ => ih m' ρ h (by omega) h2
  exact gen fuel m ρ h hf h0
/-- a comprehension -/
theorem lc_src {src : Src} {xs : List PV} {step : PV → IH → R (Option PV)} {P : PV → IH → Prop} (I : Nat → List PV → IH → Prop) (h0 : I 0 [] h) (hs : ∀ i acc h, i ≤ xs.length → I i acc h → srcAt src i h = some xs[i]?)
    (hb : ∀ i x acc h, xs[i]? = some x → acc.length ≤ i → I i acc h → wpE (step x h) fun o h => match o with | some y => I (i + 1) (acc ++ [y]) h | none => I (i + 1) acc h) (hd : ∀ acc h, I xs.length acc h → P (.ref h.length) (h ++ [.lst acc])) (hz : xs.length ≤ sizeLine) (hf : xs.length < fuel) :
    wpE (lcGo src step fuel 0 [] h) P := by
  have gen : ∀ (m i : Nat) (acc : List PV) (h : IH), i ≤ xs.length → acc.length ≤ i → xs.length - i < m → I i acc h → wpE (lcGo src step m i acc h) P := by
    intro m
    induction m with
    | zero => intro i acc h _ _ hm; omega
    | succ m ih =>
      intro i acc h hi ha hm hI
      rw [lcGo, hs i acc h hi hI]
      cases q : xs[i]? with
      | none =>
        have : i = xs.length := by have := List.getElem?_eq_none_iff.mp q; omega
        subst this
        exact hd acc h hI
      | some x =>
        have hlt : i < xs.length := (List.getElem?_eq_some_iff.mp q).1
        simp only [wpE_bind]
        refine wpE_mono (hb i x acc h q ha hI) fun o h k => ?_
        cases o with
        | none => exact ih _ _ _ hlt (by omega) (by omega) k
        | some y =>
          simp only
          rw [if_pos (by omega)]
          exact ih _ _ _ hlt (by simp; omega) (by omega) k
  exact gen fuel 0 [] h (Nat.zero_le _) (Nat.le_refl _) (by omega) h0
/-- each item gives one -/
theorem lc_map {xs ys : List PV} {step : PV → IH → R (Option PV)} {P : PV → IH → Prop} (S : List Nat) (hl : ys.length = xs.length)
    (hb : ∀ (i : Nat) (x y : PV) (h' : IH), xs[i]? = some x → ys[i]? = some y → Gr S h h' → wpE (step x h') fun o h'' => o = some y ∧ Gr S h h'') (hd : ∀ h', Gr S h h' → P (.ref h'.length) (h' ++ [.lst ys])) (hz : xs.length ≤ sizeLine) (hf : xs.length < fuel) :
    wpE (lcGo (.fix xs) step fuel 0 [] h) P := by
  refine lc_src (xs := xs) (fun i acc h' => acc = ys.take i ∧ Gr S h h') ⟨by simp, .refl⟩ (fun _ _ _ _ _ => rfl) (fun i x acc h' hx _ ⟨ha, hg⟩ => ?_) (fun acc h' ⟨ha, hg⟩ => ?_) hz hf
  · have hlt : i < ys.length := by rw [hl]; exact (List.getElem?_eq_some_iff.mp hx).1
    refine wpE_mono (hb i x _ h' hx (List.getElem?_eq_getElem hlt) hg) fun o h'' ⟨ho, hg'⟩ => ?_
    subst ho; subst ha
    exact ⟨by rw [List.take_add_one, List.getElem?_eq_getElem hlt]; rfl, hg'⟩
  · subst ha
    rw [← hl, List.take_length]
    exact hd h' hg
theorem step_name {i : Nat} {tst : PEnv → IH → R Bool} {elt : PEnv → IH → R PV} {p : PV} {P : Option PV → IH → Prop} : wpE (lcStep (.name i) tst elt ρ p h) P = wpE (tst (ρ.set i (some p)) h) (fun t h => (t = true → wpE (elt (ρ.set i (some p)) h) (fun y h => P (some y) h)) ∧ (t = false → P none h)) := by
  simp only [lcStep, tgO, wpE_bind, wpE_noX]
  congr 1; funext t h
  cases t <;> simp [wpE_bind, wpE_noX, wpE_ok]
theorem step_many {xs : List Nat} {tst : PEnv → IH → R Bool} {elt : PEnv → IH → R PV} {ps : List PV} {P : Option PV → IH → Prop} : wpE (lcStep (.many xs) tst elt ρ (.tup ps) h) P = getP (setMany xs ps ρ) fun ρ1 => wpE (tst ρ1 h) (fun t h => (t = true → wpE (elt ρ1 h) (fun y h => P (some y) h)) ∧ (t = false → P none h)) := by
  simp only [lcStep, tgO]
  cases setMany xs ps ρ with
  | none => rfl
  | some ρ1 =>
    simp only [wpE_bind, wpE_noX, getP_some]
    congr 1; funext t h
    cases t <;> simp [wpE_bind, wpE_noX, wpE_ok]
end

/-! ### tuples of whole numbers -/
def iL (w : List Int) : List PV := w.map .int
abbrev iT (w : List Int) : PV := .tup (iL w)
theorem iL_len (w : List Int) : (iL w).length = w.length := by simp [iL]
theorem iL_get {w : List Int} {i : Nat} {p : PV} (h : (iL w)[i]? = some p) : ∃ x, w[i]? = some x ∧ p = .int x := by
  unfold iL at h
  rw [List.getElem?_map] at h
  cases q : w[i]? with
  | none => rw [q] at h; cases h
  | some x => rw [q] at h; cases h; exact ⟨x, rfl, rfl⟩
theorem iL_at {w : List Int} {i : Nat} {x : Int} (h : w[i]? = some x) : (iL w)[i]? = some (.int x) := by unfold iL; rw [List.getElem?_map, h]; rfl
theorem iL_app (v w : List Int) : iL (v ++ w) = iL v ++ iL w := by simp [iL]
theorem iL_nil : iL [] = [] := rfl
theorem iL_cons (x : Int) (w : List Int) : iL (x :: w) = .int x :: iL w := rfl
theorem iL_take (w : List Int) (n : Nat) : (iL w).take n = iL (w.take n) := by simp [iL, List.map_take]
theorem iL_drop (w : List Int) (n : Nat) : (iL w).drop n = iL (w.drop n) := by simp [iL, List.map_drop]
theorem iL_rev (w : List Int) : (iL w).reverse = iL w.reverse := by simp [iL]
theorem iL_empty (w : List Int) : (iL w).isEmpty = w.isEmpty := by cases w <;> rfl
theorem iL_ints (w : List Int) : intsP (iL w) = some w := by
  induction w with
  | nil => rfl
  | cons x w ih => simp only [iL_cons, intsP, ih, Option.map_some]
theorem iL_inj {v w : List Int} : iL v = iL w ↔ v = w := by
  constructor
  · intro h
    have := congrArg intsP h
    rw [iL_ints, iL_ints] at this
    exact Option.some.inj this
  · intro h; rw [h]
def dI (w : List Int) : List PyData := w.map .int
theorem iL_data (h : IH) (k : Nat) (w : List Int) : (iL w).mapM (toD h k) = some (dI w) := by
  induction w with
  | nil => rfl
  | cons x w ih =>
    rw [iL_cons, List.mapM_cons, ih]
    cases k <;> rfl
theorem toD_iT (h : IH) (k : Nat) (w : List Int) : toD h (k + 1) (iT w) = some (.tuple (dI w)) := by simp only [toD, iL_data, Option.map_some]
theorem canLay_dI : ∀ w : List Int, PyData.canLayAll0 (dI w) = true
  | [] => rfl
  | x :: w => by
    show (PyData.canLay0 (.int x) && PyData.canLayAll0 (dI w)) = true
    rw [canLay_dI w]; rfl
theorem depth_dI : ∀ w : List Int, PyData.depthAll (dI w) ≤ 1
  | [] => by simp [dI, PyData.depthAll]
  | x :: w => by
    have := depth_dI w
    simp only [dI, List.map_cons, PyData.depthAll, PyData.depth] at this ⊢
    omega
theorem shaped_iT (w : List Int) : SeqAt.shaped (.tuple (dI w)) = true := by
  have := depth_dI w
  refine Bool.and_eq_true_iff.mpr ⟨canLay_dI w, decide_eq_true ?_⟩
  show PyData.depthAll (dI w) + 1 ≤ 64
  omega
theorem shaped_iL (w : List Int) : SeqAt.shaped (.list (dI w)) = true := by
  have := depth_dI w
  refine Bool.and_eq_true_iff.mpr ⟨canLay_dI w, decide_eq_true ?_⟩
  show PyData.depthAll (dI w) + 1 ≤ 64
  omega
theorem eqv_dI : ∀ v w : List Int, PyData.eqvAll (dI v) (dI w) = decide (v = w)
  | [], [] => by simp [dI, PyData.eqvAll]
  | [], _ :: _ => by simp [dI, PyData.eqvAll]
  | _ :: _, [] => by simp [dI, PyData.eqvAll]
  | x :: v, y :: w => by
    have ih := eqv_dI v w
    simp only [dI, List.map_cons, PyData.eqvAll, PyData.eqv] at ih ⊢
    rw [ih]
    simp [Bool.decide_and]
    rfl
theorem eq_iT (h : IH) (v w : List Int) : eqO h (iT v) (iT w) = some (decide (v = w)) := by
  simp only [eqO, eqD, dMost, toD_iT, shaped_iT, and_self, if_true, PyData.eqv, eqv_dI]
theorem eq_lsts {h : IH} {n m : Nat} {v w : List Int} (e1 : lstAt h n = some (iL v)) (e2 : lstAt h m = some (iL w)) : eqO h (.ref n) (.ref m) = some (decide (v = w)) := by
  simp only [eqO, eqD, dMost, toD, e1, e2, Option.bind_some, iL_data, Option.map_some, shaped_iL, and_self, if_true, PyData.eqv, eqv_dI]
end Pi

set_option Elab.async false
set_option linter.all false
set_option maxRecDepth 100000
set_option maxHeartbeats 8000000
/-! Pi S: operators at told kinds. -/
namespace Pi
open PySem
section
variable (h : IH) (i j : Int) (x y : Str) (p q : PV) (xs ys : List PV) (n : Nat) (b c : Bool)
theorem c_eq : cmpO .eq p q h = eqO h p q := rfl
theorem c_ne : cmpO .ne p q h = (eqO h p q).map not := rfl
theorem c_lt : cmpO .lt (.int i) (.int j) h = some (decide (i < j)) := rfl
theorem c_ltT : cmpO .lt (.tup xs) (.tup ys) h = ltInts xs ys := rfl
theorem c_le : cmpO .le (.int i) (.int j) h = some (decide (i ≤ j)) := rfl
theorem c_gt : cmpO .gt (.int i) (.int j) h = some (decide (j < i)) := rfl
theorem c_ge : cmpO .ge (.int i) (.int j) h = some (decide (j ≤ i)) := rfl
theorem c_is : cmpO .is p q h = isO p q := rfl
theorem c_isNot : cmpO .isNot p q h = (isO p q).map not := rfl
theorem c_in : cmpO .inn p q h = inD h p q := rfl
theorem c_notIn : cmpO .notIn p q h = (inD h p q).map not := rfl
theorem eq_int : eqO h (.int i) (.int j) = some (decide (i = j)) := rfl
theorem eq_bl : eqO h (.bl b) (.bl c) = some (decide (b = c)) := rfl
theorem eq_str : eqO h (.str x) (.str y) = some (decide (x = y)) := rfl
theorem is_bl : isO (.bl b) (.bl c) = some (decide (b = c)) := rfl
theorem is_nn : isO .non .non = some true := rfl
theorem is_in : isO (.int i) .non = some false := rfl
theorem is_bn : isO (.bl b) .non = some false := rfl
theorem is_sn : isO (.str x) .non = some false := rfl
theorem is_tn : isO (.tup xs) .non = some false := rfl
theorem is_ln : isO (.rol xs) .non = some false := rfl
theorem is_rn : isO (.ref n) .non = some false := rfl
theorem is_fn : isO (.fn n) .non = some false := rfl
theorem t_non : truO h .non = some false := rfl
theorem t_bl : truO h (.bl b) = some b := rfl
theorem t_int : truO h (.int i) = some (i != 0) := rfl
theorem t_tup : truO h (.tup xs) = some (!xs.isEmpty) := rfl
theorem t_rol : truO h (.rol xs) = some (!xs.isEmpty) := rfl
theorem b_add : binO .add (.int i) (.int j) h = some (.int (i + j), h) := rfl
theorem b_sub : binO .sub (.int i) (.int j) h = some (.int (i - j), h) := rfl
theorem b_mul : binO .mul (.int i) (.int j) h = if bigOk i j = true then some (.int (i * j), h) else none := rfl
theorem b_mod : binO .mod (.int i) (.int j) h = if 0 < j then some (.int (i % j), h) else none := rfl
theorem b_fdiv : binO .fdiv (.int i) (.int j) h = if 0 < j ∧ j.natAbs.log2 < 9000 then some (.int (i / j), h) else none := rfl
theorem b_pow : binO .pow (.int i) (.int j) h = if 0 ≤ j ∧ j ≤ 1000000 ∧ i.natAbs < 2 ^ 64 then some (.int (i ^ j.toNat), h) else none := rfl
theorem b_addT : binO .add (.tup xs) (.tup ys) h = if xs.length + ys.length ≤ sizeLine then some (.tup (xs ++ ys), h) else none := rfl
theorem b_addS : binO .add (.str x) (.str y) h = if x.length + y.length ≤ sizeLine then some (.str (x ++ y), h) else none := rfl
theorem b_mulT : binO .mul (.tup xs) (.int i) h = if xs.isEmpty = false ∧ 2 ≤ i ∧ i ≤ 1000 ∧ xs.length ≤ 1000 then some (.tup (List.replicate i.toNat xs).flatten, h) else none := rfl
theorem b_mulSame : (bigOk i j = true) = (i.natAbs.log2 + j.natAbs.log2 < 1000000) := by unfold bigOk; simp
theorem f_lenT : biO .len [.tup xs] h = some (.int xs.length, h) := rfl
theorem f_lenL : biO .len [.rol xs] h = some (.int xs.length, h) := rfl
theorem f_abs : biO .abs [.int i] h = some (.int (if i < 0 then -i else i), h) := rfl
theorem f_max : biO .max [.int i, .int j] h = some (.int (if j > i then j else i), h) := rfl
theorem f_min : biO .min [.int i, .int j] h = some (.int (if j < i then j else i), h) := rfl
theorem f_int : biO .int [.int i] h = some (.int i, h) := rfl
theorem f_intB : biO .int [.bl b] h = some (.int (if b = true then 1 else 0), h) := rfl
theorem f_tupT : biO .tuple [.tup xs] h = some (.tup xs, h) := rfl
theorem f_lstT : biO .list [.tup xs] h = some (.ref h.length, h ++ [.lst xs]) := rfl
theorem f_lstR : biO .list [.ref n] h = (lstAt h n).map fun xs => (.ref h.length, h ++ [.lst xs]) := rfl
theorem f_lenR : biO .len [.ref n] h = (lstAt h n).map fun xs => (.int xs.length, h) := rfl
theorem f_tupR : biO .tuple [.ref n] h = (lstAt h n).map fun xs => (.tup xs, h) := rfl
theorem f_sum : biO .sum [.ref n] h = (lstAt h n).bind fun xs => (intsP xs).map fun ns => (.int ns.sum, h) := rfl
theorem f_all : biO .all [.ref n] h = (lstAt h n).bind fun xs => (bools xs).map fun bs => (.bl (bs.all id), h) := rfl
theorem f_any : biO .any [.ref n] h = (lstAt h n).bind fun xs => (bools xs).map fun bs => (.bl (bs.any id), h) := rfl
theorem f_anyT : biO .any [.tup xs] h = (bools xs).map fun bs => (.bl (bs.any id), h) := rfl
theorem f_allT : biO .all [.tup xs] h = (bools xs).map fun bs => (.bl (bs.all id), h) := rfl
theorem f_repr : biO .repr [p] h = (reprO h p).map fun x => (.str x, h) := rfl
theorem x_tup : ixO (.tup xs) (.int i) h = L2.atI xs i := rfl
theorem x_rol : ixO (.rol xs) (.int i) h = L2.atI xs i := rfl
theorem x_ref : ixO (.ref n) (.int i) h = (lstAt h n).bind fun xs => L2.atI xs i := rfl
theorem l_tup (lo hi : Option Int) : slO (.tup xs) lo hi h = some (.tup (cutP xs lo hi), h) := rfl
theorem l_ref (lo hi : Option Int) : slO (.ref n) lo hi h = (lstAt h n).map fun xs => (.ref h.length, h ++ [.lst (cutP xs lo hi)]) := rfl
theorem r_tup : revO (.tup xs) h = some (.tup xs.reverse, h) := rfl
theorem m_app : mtO .append (.ref n) [p] h = (lstAt h n).bind fun xs => if xs.length < sizeLine then some (.non, h.set n (.lst (xs ++ [p]))) else none := rfl
theorem m_ext (m : Nat) : mtO .extend (.ref n) [.ref m] h = (lstAt h n).bind fun xs => (lstAt h m).bind fun ys => if xs.length + ys.length ≤ sizeLine then some (.non, h.set n (.lst (xs ++ ys))) else none := rfl
theorem m_pop : mtO .pop (.ref n) [] h = (lstAt h n).bind fun xs => xs.getLast?.map fun y => (y, h.set n (.lst xs.dropLast)) := rfl
theorem m_cnt (k : Int) : mtO .count (.tup xs) [.int k] h = (intsP xs).map fun ns => (.int (ns.count k : Nat), h) := rfl
theorem p_app : (mtPre .append (.ref n) = true) = True := by simp [mtPre]
theorem p_ext : (mtPre .extend (.ref n) = true) = True := by simp [mtPre]
theorem p_pop : (mtPre .pop (.ref n) = true) = True := by simp [mtPre]
theorem p_cnt : (mtPre .count (.tup xs) = true) = True := by simp [mtPre]
theorem s_tup : srcOf h (.tup xs) = some (.fix xs) := rfl
theorem s_rol : srcOf h (.rol xs) = some (.fix xs) := rfl
theorem s_ref : srcOf h (.ref n) = (lstAt h n).map fun _ => .lst n := rfl
theorem y_ii : isiO h (.int i) "int" = some true := rfl
theorem y_ib : isiO h (.int i) "bool" = some false := rfl
theorem y_it : isiO h (.int i) "tuple" = some false := rfl
theorem y_il : isiO h (.int i) "list" = some false := rfl
theorem y_bi : isiO h (.bl b) "int" = some true := rfl
theorem y_bb : isiO h (.bl b) "bool" = some true := rfl
theorem y_bt : isiO h (.bl b) "tuple" = some false := rfl
theorem y_tt : isiO h (.tup xs) "tuple" = some true := rfl
theorem y_ti : isiO h (.tup xs) "int" = some false := rfl
theorem y_tb : isiO h (.tup xs) "bool" = some false := rfl
theorem y_tl : isiO h (.tup xs) "list" = some false := rfl
theorem y_ni : isiO h .non "int" = some false := rfl
theorem y_nt : isiO h .non "tuple" = some false := rfl
theorem x_set (k : Int) : setixO (.ref n) (.int k) p h = (lstAt h n).bind fun xs => (L2.ixN xs.length k).map fun j => h.set n (.lst (xs.set j p)) := rfl
theorem a_add : augO .add (.int i) (.int j) = some (.int (i + j)) := rfl
theorem a_sub : augO .sub (.int i) (.int j) = some (.int (i - j)) := rfl
theorem g_name (k : Nat) (ρ : PEnv) : tgO (.name k) p ρ = some (ρ.set k (some p)) := rfl
theorem g_many (zs : List Nat) (ρ : PEnv) : tgO (.many zs) (.tup xs) ρ = setMany zs xs ρ := rfl
theorem g_nil (ρ : PEnv) : setMany [] [] ρ = some ρ := rfl
theorem g_cons (k : Nat) (ks : List Nat) (ρ : PEnv) : setMany (k :: ks) (p :: xs) ρ = setMany ks xs (ρ.set k (some p)) := rfl
end
end Pi

set_option Elab.async false
set_option linter.all false
set_option maxRecDepth 100000
set_option maxHeartbeats 8000000
/-! ### the defs, as trees of the small language -/
namespace Pi
open PySem
def b0_2 : Sts := .cons (.ret (.lst (.cons (.v 3) (.cons (.bin .add (.bin .add (.bin .add (.bin .mul (.bin .mod (.bi .abs (.cons (.v 2) .nil)) (.int 1152921504606846869)) (.int 37)) (.bin .mul (.int 953) (.v 1))) (.bin .mul (.int 29) (.bi .int (.cons (.cmp .lt (.v 2) (.int 0)) .nil)))) (.int 23)) (.cons (.int 0) .nil))))) .nil
def b0_1 : Sts := .cons (.set 3 (.bin .mod (.bi .max (.cons (.int 0) (.cons (.bin .sub (.bi .abs (.cons (.v 2) .nil)) (.bin .pow (.int 10) (.int 16))) .nil))) (.bin .mul (.bin .pow (.int 10) (.int 60)) (.bin .pow (.int 10) (.int 60))))) b0_2
def b0_0 : Sts := .cons (.set 2 (.ite (.cmp .lt (.v 1) (.bi .len (.cons (.v 0) .nil))) (.bi .int (.cons (.ix (.v 0) (.v 1)) .nil)) (.bin .add (.bin .mul (.int 101) (.v 1)) (.int 67)))) b0_1
def F0 : Fn := ⟨2, 4, b0_0⟩
def b1_4 : Sts := .cons (.ret (.bin .mod (.bi .int (.cons (.bin .fdiv (.v 3) (.int 65536)) .nil)) (.v 1))) .nil
def b1_3 : Sts := .cons (.set 3 (.bin .add (.bin .mul (.bin .mod (.bi .int (.cons (.bin .add (.bin .mul (.v 2) (.v 2)) (.bin .mul (.int 179) (.ix (.v 0) (.int 2)))) .nil)) (.int 2305843009213693921)) (.int 7368787)) (.v 2))) b1_4
def b1_2 : Sts := .cons (.set 2 (.bin .mod (.bi .int (.cons (.bin .add (.ix (.v 0) (.int 1)) (.bin .mul (.int 15485867) (.ix (.v 0) (.int 2)))) .nil)) (.int 2305843009213693907))) b1_3
def b1_1 : Sts := .cons (.setix (.v 0) (.int 2) (.bin .add (.ix (.v 0) (.int 2)) (.int 1))) b1_2
def b1_0 : Sts := .cons (.ifs (.cmp .gt (.ix (.v 0) (.int 0)) (.int 0)) (.cons (.set 4 (.bin .mod (.bi .int (.cons (.ix (.v 0) (.int 0)) .nil)) (.v 1))) (.cons (.setix (.v 0) (.int 0) (.bin .fdiv (.ix (.v 0) (.int 0)) (.v 1))) (.cons (.ret (.v 4)) .nil))) .nil) b1_1
def F1 : Fn := ⟨2, 5, b1_0⟩
def b2_0 : Sts := .cons (.ret (.ix (.v 1) (.call 1 (.cons (.v 0) (.cons (.bi .len (.cons (.v 1) .nil)) .nil))))) .nil
def F2 : Fn := ⟨2, 2, b2_0⟩
def b12_0 : Sts := .cons (.ret (.and (.cons (.isi (.v 0) "int") (.cons (.not (.isi (.v 0) "bool")) .nil)))) .nil
def F12 : Fn := ⟨1, 1, b12_0⟩
def b13_0 : Sts := .cons (.ret (.and (.cons (.call 12 (.cons (.v 0) .nil)) (.cons (.chain .lt .lt (.neg (.gc 11)) (.v 0) (.gc 11)) .nil)))) .nil
def F13 : Fn := ⟨1, 1, b13_0⟩
def b14_0 : Sts := .cons (.ret (.and (.cons (.call 12 (.cons (.v 0) .nil)) (.cons (.chain .le .le (.v 1) (.v 0) (.v 2)) .nil)))) .nil
def F14 : Fn := ⟨3, 3, b14_0⟩
def b15_0 : Sts := .cons (.ifs (.or (.cons (.not (.call 13 (.cons (.v 0) .nil))) (.cons (.and (.cons (.cmp .isNot (.v 1) .non) (.cons (.cmp .lt (.v 0) (.v 1)) .nil))) (.cons (.and (.cons (.cmp .isNot (.v 2) .non) (.cons (.cmp .gt (.v 0) (.v 2)) .nil))) .nil)))) (.cons .raise .nil) .nil) .nil
def F15 : Fn := ⟨3, 3, b15_0⟩
def b16_0 : Sts := .cons (.ret (.and (.cons (.call 14 (.cons (.v 1) (.cons (.neg (.v 0)) (.cons (.v 0) .nil)))) (.cons (.cmp .ne (.v 1) (.int 0)) .nil)))) .nil
def F16 : Fn := ⟨2, 2, b16_0⟩
def b17_1 : Sts := .cons (.ret (.bi .all (.cons (.lc (.call 16 (.cons (.v 0) (.cons (.v 2) .nil))) (.name 2) (.val (.v 1))) .nil))) .nil
def b17_0 : Sts := .cons (.ifs (.or (.cons (.not (.isi (.v 1) "tuple")) (.cons (.cmp .gt (.bi .len (.cons (.v 1) .nil)) (.gc 0)) .nil))) (.cons (.ret (.bl false)) .nil) .nil) b17_1
def F17 : Fn := ⟨2, 3, b17_0⟩
def b18_1 : Sts := .cons (.ret (.cmp .le (.bi .sum (.cons (.lc (.bi .len (.cons (.v 2) .nil)) (.name 2) (.val (.v 1))) .nil)) (.gc 0))) .nil
def b18_0 : Sts := .cons (.ifs (.or (.cons (.not (.isi (.v 1) "tuple")) (.cons (.cmp .gt (.bi .len (.cons (.v 1) .nil)) (.gc 1)) (.cons (.not (.bi .all (.cons (.lc (.call 17 (.cons (.v 0) (.cons (.v 2) .nil))) (.name 2) (.val (.v 1))) .nil))) .nil)))) (.cons (.ret (.bl false)) .nil) .nil) b18_1
def F18 : Fn := ⟨2, 3, b18_0⟩
def l19_0_0 : Sts := .cons (.expr (.meth .extend (.v 1) (.cons (.lst (.cons (.v 2) (.cons (.neg (.v 2)) .nil))) .nil))) .nil
def b19_2 : Sts := .cons (.ret (.bi .tuple (.cons (.v 1) .nil))) .nil
def b19_1 : Sts := .cons (.for (.name 2) (.rng2 (.int 1) (.bin .add (.v 0) (.int 1))) l19_0_0) b19_2
def b19_0 : Sts := .cons (.set 1 (.lst .nil)) b19_1
def F19 : Fn := ⟨1, 3, b19_0⟩
def l20_0_0 : Sts := .cons (.ifs (.and (.cons (.cmp .ne (.v 1) (.lst .nil)) (.cons (.cmp .eq (.ix (.v 1) (.neg (.int 1))) (.neg (.v 2))) .nil))) (.cons (.expr (.meth .pop (.v 1) .nil)) .nil) (.cons (.expr (.meth .append (.v 1) (.cons (.v 2) .nil))) .nil)) .nil
def b20_2 : Sts := .cons (.ret (.bi .tuple (.cons (.v 1) .nil))) .nil
def b20_1 : Sts := .cons (.for (.name 2) (.val (.v 0)) l20_0_0) b20_2
def b20_0 : Sts := .cons (.set 1 (.lst .nil)) b20_1
def F20 : Fn := ⟨1, 3, b20_0⟩
def b21_0 : Sts := .cons (.ret (.bi .tuple (.cons (.lc (.neg (.v 1)) (.name 1) (.val (.rev (.v 0)))) .nil))) .nil
def F21 : Fn := ⟨1, 2, b21_0⟩
def l22_1_0 : Sts := .cons (.ifs (.and (.cons (.cmp .ne (.v 1) (.lst .nil)) (.cons (.cmp .eq (.ix (.v 1) (.neg (.int 1))) (.neg (.v 3))) .nil))) (.cons (.expr (.meth .pop (.v 1) .nil)) .nil) (.cons (.expr (.meth .append (.v 1) (.cons (.v 3) .nil))) .nil)) .nil
def l22_0_0 : Sts := .cons (.for (.name 3) (.val (.v 2)) l22_1_0) .nil
def b22_2 : Sts := .cons (.ret (.bi .tuple (.cons (.v 1) .nil))) .nil
def b22_1 : Sts := .cons (.for (.name 2) (.val (.v 0)) l22_0_0) b22_2
def b22_0 : Sts := .cons (.set 1 (.lst .nil)) b22_1
def F22 : Fn := ⟨1, 4, b22_0⟩
def l23_0_1 : Sts := .cons (.aug 2 .add (.int 1)) .nil
def l23_0_0 : Sts := .cons (.ifs (.cmp .ne (.v 3) (.neg (.v 4))) (.cons (.ret (.v 2)) .nil) .nil) l23_0_1
def b23_2 : Sts := .cons (.ret (.v 2)) .nil
def b23_1 : Sts := .cons (.for (.many [3, 4]) (.zip (.rev (.v 0)) (.v 1)) l23_0_0) b23_2
def b23_0 : Sts := .cons (.set 2 (.int 0)) b23_1
def F23 : Fn := ⟨2, 5, b23_0⟩
def b24_0 : Sts := .cons (.ret (.bi .tuple (.cons (.lc (.bin .sub (.meth .count (.v 1) (.cons (.v 2) .nil)) (.meth .count (.v 1) (.cons (.neg (.v 2)) .nil))) (.name 2) (.rng2 (.int 1) (.bin .add (.v 0) (.int 1)))) .nil))) .nil
def F24 : Fn := ⟨2, 3, b24_0⟩
def b25_0 : Sts := .cons (.expr (.call 15 (.cons (.v 0) (.cons (.int 1) (.cons (.gc 12) .nil))))) .nil
def F25 : Fn := ⟨1, 1, b25_0⟩
def b26_0 : Sts := .cons (.ifs (.not (.call 17 (.cons (.v 0) (.cons (.v 1) .nil)))) (.cons .raise .nil) .nil) .nil
def F26 : Fn := ⟨2, 2, b26_0⟩
def b27_0 : Sts := .cons (.ifs (.not (.call 18 (.cons (.v 0) (.cons (.v 1) .nil)))) (.cons .raise .nil) .nil) .nil
def F27 : Fn := ⟨2, 2, b27_0⟩
def b28_1 : Sts := .cons (.expr (.call 26 (.cons (.v 0) (.cons (.v 1) .nil)))) .nil
def b28_0 : Sts := .cons (.expr (.call 25 (.cons (.v 0) .nil))) b28_1
def F28 : Fn := ⟨2, 2, b28_0⟩
def b29_1 : Sts := .cons (.expr (.call 26 (.cons (.v 0) (.cons (.v 2) .nil)))) .nil
def b29_0 : Sts := .cons (.expr (.call 28 (.cons (.v 0) (.cons (.v 1) .nil)))) b29_1
def F29 : Fn := ⟨3, 3, b29_0⟩
def b30_1 : Sts := .cons (.expr (.call 27 (.cons (.v 0) (.cons (.v 1) .nil)))) .nil
def b30_0 : Sts := .cons (.expr (.call 25 (.cons (.v 0) .nil))) b30_1
def F30 : Fn := ⟨2, 2, b30_0⟩
def b31_1 : Sts := .cons (.ret (.call 19 (.cons (.v 0) .nil))) .nil
def b31_0 : Sts := .cons (.expr (.call 25 (.cons (.v 0) .nil))) b31_1
def F31 : Fn := ⟨1, 1, b31_0⟩
def b32_1 : Sts := .cons (.ret (.call 20 (.cons (.v 1) .nil))) .nil
def b32_0 : Sts := .cons (.expr (.call 28 (.cons (.v 0) (.cons (.v 1) .nil)))) b32_1
def F32 : Fn := ⟨2, 2, b32_0⟩
def b33_1 : Sts := .cons (.ret (.call 20 (.cons (.call 21 (.cons (.v 1) .nil)) .nil))) .nil
def b33_0 : Sts := .cons (.expr (.call 28 (.cons (.v 0) (.cons (.v 1) .nil)))) b33_1
def F33 : Fn := ⟨2, 2, b33_0⟩
def b34_1 : Sts := .cons (.ret (.call 22 (.cons (.v 1) .nil))) .nil
def b34_0 : Sts := .cons (.expr (.call 30 (.cons (.v 0) (.cons (.v 1) .nil)))) b34_1
def F34 : Fn := ⟨2, 2, b34_0⟩
def b35_1 : Sts := .cons (.ret (.cmp .eq (.call 20 (.cons (.v 1) .nil)) (.call 20 (.cons (.v 2) .nil)))) .nil
def b35_0 : Sts := .cons (.expr (.call 29 (.cons (.v 0) (.cons (.v 1) (.cons (.v 2) .nil))))) b35_1
def F35 : Fn := ⟨3, 3, b35_0⟩
def b36_1 : Sts := .cons (.ret (.call 23 (.cons (.call 20 (.cons (.v 1) .nil)) (.cons (.call 20 (.cons (.v 2) .nil)) .nil)))) .nil
def b36_0 : Sts := .cons (.expr (.call 29 (.cons (.v 0) (.cons (.v 1) (.cons (.v 2) .nil))))) b36_1
def F36 : Fn := ⟨3, 3, b36_0⟩
def b37_1 : Sts := .cons (.ret (.call 24 (.cons (.v 0) (.cons (.v 1) .nil)))) .nil
def b37_0 : Sts := .cons (.expr (.call 28 (.cons (.v 0) (.cons (.v 1) .nil)))) b37_1
def F37 : Fn := ⟨2, 2, b37_0⟩
def b38_1 : Sts := .cons (.ret (.bin .fdiv (.bin .sub (.bi .len (.cons (.v 1) .nil)) (.bi .len (.cons (.call 20 (.cons (.v 1) .nil)) .nil))) (.int 2))) .nil
def b38_0 : Sts := .cons (.expr (.call 28 (.cons (.v 0) (.cons (.v 1) .nil)))) b38_1
def F38 : Fn := ⟨2, 2, b38_0⟩
def l39_0_0 : Sts := .cons (.set 1 (.bin .add (.v 1) (.lst (.cons (.v 2) (.cons (.bin .sub (.int 0) (.v 2)) .nil))))) .nil
def b39_2 : Sts := .cons (.ret (.v 1)) .nil
def b39_1 : Sts := .cons (.for (.name 2) (.rng2 (.int 1) (.bin .add (.v 0) (.int 1))) l39_0_0) b39_2
def b39_0 : Sts := .cons (.set 1 (.lst .nil)) b39_1
def F39 : Fn := ⟨1, 3, b39_0⟩
def l40_0_0 : Sts := .cons (.ifs (.and (.cons (.cmp .ne (.v 1) (.lst .nil)) (.cons (.cmp .eq (.ix (.v 1) (.neg (.int 1))) (.bin .sub (.int 0) (.v 2))) .nil))) (.cons (.expr (.meth .pop (.v 1) .nil)) .nil) (.cons (.expr (.meth .append (.v 1) (.cons (.v 2) .nil))) .nil)) .nil
def b40_2 : Sts := .cons (.ret (.bi .tuple (.cons (.v 1) .nil))) .nil
def b40_1 : Sts := .cons (.for (.name 2) (.val (.v 0)) l40_0_0) b40_2
def b40_0 : Sts := .cons (.set 1 (.lst .nil)) b40_1
def F40 : Fn := ⟨1, 3, b40_0⟩
def b41_0 : Sts := .cons (.ret (.bi .tuple (.cons (.lc (.bin .sub (.int 0) (.v 1)) (.name 1) (.val (.rev (.v 0)))) .nil))) .nil
def F41 : Fn := ⟨1, 2, b41_0⟩
def l42_0_0 : Sts := .cons (.set 1 (.call 40 (.cons (.bin .add (.v 1) (.bi .tuple (.cons (.v 2) .nil))) .nil))) .nil
def b42_2 : Sts := .cons (.ret (.v 1)) .nil
def b42_1 : Sts := .cons (.for (.name 2) (.val (.v 0)) l42_0_0) b42_2
def b42_0 : Sts := .cons (.set 1 (.tup .nil)) b42_1
def F42 : Fn := ⟨1, 3, b42_0⟩
def b43_0 : Sts := .cons (.ret (.bi .tuple (.cons (.lc (.call 2 (.cons (.v 0) (.cons (.call 39 (.cons (.v 1) .nil)) .nil))) (.name 3) (.rng1 (.call 1 (.cons (.v 0) (.cons (.bin .add (.v 2) (.int 1)) .nil))))) .nil))) .nil
def F43 : Fn := ⟨3, 4, b43_0⟩
def l44_0_1 : Sts := .cons (.set 3 (.bin .add (.bin .add (.slT (.v 3) (.v 5)) (.lst (.cons (.v 6) (.cons (.bin .sub (.int 0) (.v 6)) .nil)))) (.slF (.v 3) (.v 5)))) .nil
def l44_0_0 : Sts := .cons (.par2 5 6 (.call 1 (.cons (.v 0) (.cons (.bin .add (.bi .len (.cons (.v 3) .nil)) (.int 1)) .nil))) (.call 2 (.cons (.v 0) (.cons (.call 39 (.cons (.v 1) .nil)) .nil)))) l44_0_1
def b44_2 : Sts := .cons (.ret (.bi .tuple (.cons (.v 3) .nil))) .nil
def b44_1 : Sts := .cons (.for (.name 4) (.rng1 (.call 1 (.cons (.v 0) (.cons (.int 3) .nil)))) l44_0_0) b44_2
def b44_0 : Sts := .cons (.set 3 (.bi .list (.cons (.v 2) .nil))) b44_1
def F44 : Fn := ⟨3, 7, b44_0⟩
def b45_0 : Sts := .cons (.ret (.bi .tuple (.cons (.lc (.call 43 (.cons (.v 0) (.cons (.v 1) (.cons (.v 3) .nil)))) (.name 4) (.rng1 (.call 1 (.cons (.v 0) (.cons (.bin .add (.v 2) (.int 1)) .nil))))) .nil))) .nil
def F45 : Fn := ⟨4, 5, b45_0⟩
def l46_0_1 : Sts := .cons (.ifs (.cmp .ne (.v 4) (.lst .nil)) (.cons (.set 5 (.call 2 (.cons (.v 0) (.cons (.v 4) .nil)))) (.cons (.set 2 (.bin .add (.slT (.v 2) (.v 5)) (.slF (.v 2) (.bin .add (.v 5) (.int 2))))) .nil)) .nil) .nil
def l46_0_0 : Sts := .cons (.set 4 (.lcIf (.v 5) (.name 5) (.rng1 (.bin .sub (.bi .len (.cons (.v 2) .nil)) (.int 1))) (.cmp .eq (.ix (.v 2) (.v 5)) (.bin .sub (.int 0) (.ix (.v 2) (.bin .add (.v 5) (.int 1))))))) l46_0_1
def b46_2 : Sts := .cons (.ret (.bi .tuple (.cons (.v 2) .nil))) .nil
def b46_1 : Sts := .cons (.for (.name 3) (.rng1 (.bi .len (.cons (.v 1) .nil))) l46_0_0) b46_2
def b46_0 : Sts := .cons (.set 2 (.bi .list (.cons (.v 1) .nil))) b46_1
def F46 : Fn := ⟨2, 6, b46_0⟩
def b47_0 : Sts := .cons (.ret (.bi .tuple (.cons (.lc (.bin .sub (.meth .count (.v 1) (.cons (.v 2) .nil)) (.meth .count (.v 1) (.cons (.bin .sub (.int 0) (.v 2)) .nil))) (.name 2) (.rng2 (.int 1) (.bin .add (.v 0) (.int 1)))) .nil))) .nil
def F47 : Fn := ⟨2, 3, b47_0⟩
def b48_13 : Sts := .cons (.ret (.and (.cons (.cmp .eq (.call 34 (.cons (.v 1) (.cons (.v 6) .nil))) (.call 42 (.cons (.v 6) .nil))) (.cons (.cmp .eq (.bi .repr (.cons (.call 31 (.cons (.v 1) .nil)) .nil)) (.bi .repr (.cons (.bi .tuple (.cons (.call 39 (.cons (.v 1) .nil)) .nil)) .nil))) .nil)))) .nil
def b48_12 : Sts := .cons (.set 6 (.call 45 (.cons (.v 0) (.cons (.v 1) (.cons (.int 5) (.cons (.int 6) .nil)))))) b48_13
def b48_11 : Sts := .cons (.ifs (.or (.cons (.cmp .ne (.call 34 (.cons (.v 1) (.cons (.tup (.cons (.v 7) (.cons (.call 41 (.cons (.v 7) .nil)) .nil))) .nil))) (.tup .nil)) (.cons (.cmp .ne (.call 36 (.cons (.v 1) (.cons (.v 7) (.cons (.call 41 (.cons (.v 7) .nil)) .nil)))) (.bi .len (.cons (.v 2) .nil))) .nil))) (.cons (.ret (.bl false)) .nil) .nil) b48_12
def b48_10 : Sts := .cons (.ifs (.or (.cons (.cmp .ne (.bi .repr (.cons (.v 4) .nil)) (.bi .repr (.cons (.v 5) .nil))) (.cons (.cmp .ne (.bin .mul (.int 2) (.call 36 (.cons (.v 1) (.cons (.v 7) (.cons (.v 8) .nil))))) (.bin .sub (.bin .add (.bi .len (.cons (.v 2) .nil)) (.bi .len (.cons (.call 40 (.cons (.v 8) .nil)) .nil))) (.bi .len (.cons (.v 5) .nil)))) .nil))) (.cons (.ret (.bl false)) .nil) .nil) b48_11
def b48_9 : Sts := .cons (.set 5 (.call 46 (.cons (.v 0) (.cons (.bin .add (.v 7) (.v 8)) .nil)))) b48_10
def b48_8 : Sts := .cons (.set 4 (.call 34 (.cons (.v 1) (.cons (.tup (.cons (.v 7) (.cons (.v 8) .nil))) .nil)))) b48_9
def b48_7 : Sts := .cons (.ifs (.or (.cons (.cmp .isNot (.call 35 (.cons (.v 1) (.cons (.v 7) (.cons (.v 3) .nil)))) (.bl true)) (.cons (.cmp .ne (.bi .repr (.cons (.call 35 (.cons (.v 1) (.cons (.v 7) (.cons (.v 8) .nil)))) .nil)) (.bi .repr (.cons (.cmp .eq (.v 2) (.call 40 (.cons (.v 8) .nil))) .nil))) .nil))) (.cons (.ret (.bl false)) .nil) .nil) b48_8
def b48_6 : Sts := .cons (.set 3 (.call 44 (.cons (.v 0) (.cons (.v 1) (.cons (.v 2) .nil))))) b48_7
def b48_5 : Sts := .cons (.ifs (.or (.cons (.cmp .ne (.bi .repr (.cons (.call 37 (.cons (.v 1) (.cons (.v 7) .nil))) .nil)) (.bi .repr (.cons (.call 47 (.cons (.v 1) (.cons (.v 7) .nil))) .nil))) (.cons (.cmp .ne (.call 37 (.cons (.v 1) (.cons (.v 7) .nil))) (.call 37 (.cons (.v 1) (.cons (.v 2) .nil)))) .nil))) (.cons (.ret (.bl false)) .nil) .nil) b48_6
def b48_4 : Sts := .cons (.ifs (.cmp .ne (.bi .repr (.cons (.call 38 (.cons (.v 1) (.cons (.v 7) .nil))) .nil)) (.bi .repr (.cons (.bin .fdiv (.bin .sub (.bi .len (.cons (.v 7) .nil)) (.bi .len (.cons (.v 2) .nil))) (.int 2)) .nil))) (.cons (.ret (.bl false)) .nil) .nil) b48_5
def b48_3 : Sts := .cons (.ifs (.or (.cons (.cmp .ne (.bi .repr (.cons (.call 32 (.cons (.v 1) (.cons (.v 7) .nil))) .nil)) (.bi .repr (.cons (.v 2) .nil))) (.cons (.cmp .ne (.bi .repr (.cons (.call 33 (.cons (.v 1) (.cons (.v 7) .nil))) .nil)) (.bi .repr (.cons (.call 41 (.cons (.v 2) .nil)) .nil))) .nil))) (.cons (.ret (.bl false)) .nil) .nil) b48_4
def b48_2 : Sts := .cons (.set 2 (.call 46 (.cons (.v 0) (.cons (.v 7) .nil)))) b48_3
def b48_1 : Sts := .cons (.par2 7 8 (.call 43 (.cons (.v 0) (.cons (.v 1) (.cons (.int 12) .nil)))) (.call 43 (.cons (.v 0) (.cons (.v 1) (.cons (.int 12) .nil))))) b48_2
def b48_0 : Sts := .cons (.set 1 (.bin .add (.int 1) (.call 1 (.cons (.v 0) (.cons (.int 4) .nil))))) b48_1
def F48 : Fn := ⟨1, 9, b48_0⟩
def l49_1_0 : Sts := .cons (.ifs (.not (.call 48 (.cons (.v 4) .nil))) (.cons (.ret (.bl false)) .nil) .nil) .nil
def l49_0_1 : Sts := .cons (.for (.name 5) (.rng1 (.int 6)) l49_1_0) .nil
def l49_0_0 : Sts := .cons (.set 4 (.call 0 (.cons (.v 0) (.cons (.v 1) .nil)))) l49_0_1
def b49_3 : Sts := .cons (.ret (.cmp .eq (.bin .add (.v 3) (.lst (.cons (.call 36 (.cons (.int 2) (.cons (.tup (.cons (.int 1) (.cons (.int 2) .nil))) (.cons (.tup (.cons (.neg (.int 2)) (.cons (.int 1) .nil))) .nil)))) .nil))) (.lst (.cons (.tup .nil) (.cons (.int 200) (.cons (.bl true) (.cons (.tup .nil) (.cons (.int 1) .nil)))))))) .nil
def b49_2 : Sts := .cons (.set 3 (.lst (.cons (.call 32 (.cons (.int 2) (.cons (.v 2) .nil))) (.cons (.call 38 (.cons (.int 2) (.cons (.v 2) .nil))) (.cons (.cmp .eq (.call 32 (.cons (.int 2) (.cons (.bin .mul (.tup (.cons (.int 1) (.cons (.int 2) .nil))) (.int 200)) .nil))) (.bin .mul (.tup (.cons (.int 1) (.cons (.int 2) .nil))) (.int 200))) (.cons (.call 34 (.cons (.int 1) (.cons (.tup .nil) .nil))) .nil)))))) b49_3
def b49_1 : Sts := .cons (.set 2 (.bin .add (.bin .mul (.tup (.cons (.int 1) (.cons (.int 2) .nil))) (.int 100)) (.bin .mul (.tup (.cons (.neg (.int 2)) (.cons (.neg (.int 1)) .nil))) (.int 100)))) b49_2
def b49_0 : Sts := .cons (.for (.name 1) (.rng1 (.bi .max (.cons (.int 1) (.cons (.bi .min (.cons (.int 4) (.cons (.bi .len (.cons (.v 0) .nil)) .nil))) .nil)))) l49_0_0) b49_1
def F49 : Fn := ⟨1, 6, b49_0⟩
def b2714_0 : Sts := .cons (.ret (.call 22 (.cons (.lst (.cons (.v 0) (.cons (.v 1) (.cons (.call 21 (.cons (.v 0) .nil)) (.cons (.call 21 (.cons (.v 1) .nil)) .nil))))) .nil))) .nil
def F2714 : Fn := ⟨2, 2, b2714_0⟩
def b2715_0 : Sts := .cons (.ret (.call 22 (.cons (.lst (.cons (.v 1) (.cons (.v 0) (.cons (.call 21 (.cons (.v 1) .nil)) .nil)))) .nil))) .nil
def F2715 : Fn := ⟨2, 2, b2715_0⟩
def b2716_0 : Sts := .cons (.ret (.not (.bi .any (.cons (.call 24 (.cons (.v 0) (.cons (.v 1) .nil))) .nil)))) .nil
def F2716 : Fn := ⟨2, 2, b2716_0⟩
def l2717_0_1 : Sts := .cons (.ifs (.cmp .gt (.bi .len (.cons (.v 1) .nil)) (.gc 1202)) (.cons (.ret .non) .nil) .nil) .nil
def l2717_0_0 : Sts := .cons (.set 1 (.call 2714 (.cons (.v 1) (.cons (.v 2) .nil)))) l2717_0_1
def b2717_2 : Sts := .cons (.ret (.v 1)) .nil
def b2717_1 : Sts := .cons (.for (.name 2) (.val (.slF (.v 0) (.int 1))) l2717_0_0) b2717_2
def b2717_0 : Sts := .cons (.set 1 (.call 20 (.cons (.ix (.v 0) (.int 0)) .nil))) b2717_1
def F2717 : Fn := ⟨1, 3, b2717_0⟩
def b2718_0 : Sts := .cons (.ret (.call 22 (.cons (.lst (.cons (.call 21 (.cons (.v 0) .nil)) (.cons (.call 21 (.cons (.v 1) .nil)) (.cons (.v 0) (.cons (.v 1) .nil))))) .nil))) .nil
def F2718 : Fn := ⟨2, 2, b2718_0⟩
def b2719_1 : Sts := .cons (.ret (.call 22 (.cons (.lst (.cons (.call 21 (.cons (.v 1) .nil)) (.cons (.v 3) (.cons (.v 1) .nil)))) .nil))) .nil
def b2719_0 : Sts := .cons (.set 3 (.call 2718 (.cons (.call 2718 (.cons (.v 0) (.cons (.call 21 (.cons (.v 1) .nil)) .nil))) (.cons (.v 2) .nil)))) b2719_1
def F2719 : Fn := ⟨3, 4, b2719_0⟩
def b2720_1 : Sts := .cons (.ret (.call 2714 (.cons (.v 1) (.cons (.v 2) .nil)))) .nil
def b2720_0 : Sts := .cons (.expr (.call 29 (.cons (.v 0) (.cons (.v 1) (.cons (.v 2) .nil))))) b2720_1
def F2720 : Fn := ⟨3, 3, b2720_0⟩
def b2721_4 : Sts := .cons (.ret (.v 2)) .nil
def b2721_3 : Sts := .cons (.ifs (.cmp .is (.v 2) .non) (.cons .raise .nil) .nil) b2721_4
def b2721_2 : Sts := .cons (.set 2 (.call 2717 (.cons (.v 1) .nil))) b2721_3
def b2721_1 : Sts := .cons (.ifs (.cmp .eq (.v 1) (.tup .nil)) (.cons .raise .nil) .nil) b2721_2
def b2721_0 : Sts := .cons (.expr (.call 30 (.cons (.v 0) (.cons (.v 1) .nil)))) b2721_1
def F2721 : Fn := ⟨2, 3, b2721_0⟩
def b2722_1 : Sts := .cons (.ret (.call 2716 (.cons (.v 0) (.cons (.v 1) .nil)))) .nil
def b2722_0 : Sts := .cons (.expr (.call 28 (.cons (.v 0) (.cons (.v 1) .nil)))) b2722_1
def F2722 : Fn := ⟨2, 2, b2722_0⟩
def b2723_1 : Sts := .cons (.ret (.call 2715 (.cons (.v 1) (.cons (.v 2) .nil)))) .nil
def b2723_0 : Sts := .cons (.expr (.call 29 (.cons (.v 0) (.cons (.v 1) (.cons (.v 2) .nil))))) b2723_1
def F2723 : Fn := ⟨3, 3, b2723_0⟩
def b2724_3 : Sts := .cons (.ret (.call 22 (.cons (.lst (.cons (.call 2719 (.cons (.v 2) (.cons (.v 3) (.cons (.v 4) .nil)))) (.cons (.call 2719 (.cons (.v 3) (.cons (.v 4) (.cons (.v 2) .nil)))) (.cons (.call 2719 (.cons (.v 4) (.cons (.v 2) (.cons (.v 3) .nil)))) .nil)))) .nil))) .nil
def b2724_2 : Sts := .cons (.asg (.many [2, 3, 4]) (.v 1)) b2724_3
def b2724_1 : Sts := .cons (.ifs (.cmp .ne (.bi .len (.cons (.v 1) .nil)) (.gc 1203)) (.cons .raise .nil) .nil) b2724_2
def b2724_0 : Sts := .cons (.expr (.call 30 (.cons (.v 0) (.cons (.v 1) .nil)))) b2724_1
def F2724 : Fn := ⟨2, 5, b2724_0⟩
def b2725_0 : Sts := .cons (.ret (.call 42 (.cons (.lst (.cons (.v 0) (.cons (.v 1) (.cons (.call 41 (.cons (.v 0) .nil)) (.cons (.call 41 (.cons (.v 1) .nil)) .nil))))) .nil))) .nil
def F2725 : Fn := ⟨2, 2, b2725_0⟩
def b2726_0 : Sts := .cons (.ret (.lc (.bin .sub (.bi .len (.cons (.lcIf (.int 1) (.name 3) (.val (.v 1)) (.cmp .eq (.v 3) (.v 2))) .nil)) (.bi .len (.cons (.lcIf (.int 1) (.name 3) (.val (.v 1)) (.cmp .eq (.v 3) (.bin .sub (.int 0) (.v 2)))) .nil))) (.name 2) (.rng2 (.int 1) (.bin .add (.v 0) (.int 1))))) .nil
def F2726 : Fn := ⟨2, 4, b2726_0⟩
def l2727_0_0 : Sts := .cons (.set 1 (.call 2725 (.cons (.v 1) (.cons (.v 2) .nil)))) .nil
def b2727_2 : Sts := .cons (.ret (.v 1)) .nil
def b2727_1 : Sts := .cons (.for (.name 2) (.val (.slF (.v 0) (.int 1))) l2727_0_0) b2727_2
def b2727_0 : Sts := .cons (.set 1 (.call 40 (.cons (.ix (.v 0) (.int 0)) .nil))) b2727_1
def F2727 : Fn := ⟨1, 3, b2727_0⟩
def l2728_0_0 : Sts := .cons (.ifs (.cmp .ne (.bi .repr (.cons (.call 2722 (.cons (.v 1) (.cons (.v 4) .nil))) .nil)) (.bi .repr (.cons (.cmp .eq (.call 2726 (.cons (.v 1) (.cons (.v 4) .nil))) (.bin .mul (.lst (.cons (.int 0) .nil)) (.v 1))) .nil))) (.cons (.ret (.bl false)) .nil) .nil) .nil
def b2728_11 : Sts := .cons (.ret (.and (.cons (.cmp .eq (.call 2724 (.cons (.v 1) (.cons (.tup (.cons (.v 5) (.cons (.v 6) (.cons (.v 7) .nil)))) .nil))) (.tup .nil)) (.cons (.cmp .is (.call 2722 (.cons (.v 1) (.cons (.v 2) .nil))) (.bl true)) .nil)))) .nil
def b2728_10 : Sts := .cons (.ifs (.cmp .ne (.call 2720 (.cons (.v 1) (.cons (.v 5) (.cons (.bin .add (.v 6) (.v 7)) .nil)))) (.call 42 (.cons (.lst (.cons (.v 2) (.cons (.call 2723 (.cons (.v 1) (.cons (.call 2720 (.cons (.v 1) (.cons (.v 5) (.cons (.v 7) .nil)))) (.cons (.v 6) .nil)))) .nil))) .nil))) (.cons (.ret (.bl false)) .nil) .nil) b2728_11
def b2728_9 : Sts := .cons (.for (.name 4) (.val (.tup (.cons (.v 5) (.cons (.v 2) (.cons (.bin .add (.bin .add (.v 5) (.v 6)) (.call 41 (.cons (.v 5) .nil))) (.cons (.bin .add (.v 5) (.call 41 (.cons (.v 5) .nil))) .nil)))))) l2728_0_0) b2728_10
def b2728_8 : Sts := .cons (.ifs (.cmp .ne (.call 2721 (.cons (.v 1) (.cons (.v 3) .nil))) (.call 2727 (.cons (.v 3) .nil))) (.cons (.ret (.bl false)) .nil) .nil) b2728_9
def b2728_7 : Sts := .cons (.set 3 (.bi .tuple (.cons (.lc (.call 43 (.cons (.v 0) (.cons (.v 1) (.cons (.int 3) .nil)))) (.name 8) (.rng1 (.bin .add (.int 1) (.call 1 (.cons (.v 0) (.cons (.int 4) .nil)))))) .nil))) b2728_8
def b2728_6 : Sts := .cons (.ifs (.cmp .ne (.call 2720 (.cons (.v 1) (.cons (.call 2723 (.cons (.v 1) (.cons (.v 5) (.cons (.v 7) .nil)))) (.cons (.call 2723 (.cons (.v 1) (.cons (.v 6) (.cons (.v 7) .nil)))) .nil)))) (.call 2723 (.cons (.v 1) (.cons (.v 2) (.cons (.v 7) .nil))))) (.cons (.ret (.bl false)) .nil) .nil) b2728_7
def b2728_5 : Sts := .cons (.ifs (.cmp .ne (.call 2723 (.cons (.v 1) (.cons (.v 5) (.cons (.v 6) .nil)))) (.call 42 (.cons (.lst (.cons (.v 6) (.cons (.v 5) (.cons (.call 41 (.cons (.v 6) .nil)) .nil)))) .nil))) (.cons (.ret (.bl false)) .nil) .nil) b2728_6
def b2728_4 : Sts := .cons (.ifs (.or (.cons (.cmp .ne (.cmp .eq (.v 2) (.tup .nil)) (.cmp .eq (.call 42 (.cons (.lst (.cons (.v 5) (.cons (.v 6) .nil))) .nil)) (.call 42 (.cons (.lst (.cons (.v 6) (.cons (.v 5) .nil))) .nil)))) (.cons (.cmp .ne (.call 2720 (.cons (.v 1) (.cons (.v 5) (.cons (.bin .add (.v 5) (.v 5)) .nil)))) (.tup .nil)) .nil))) (.cons (.ret (.bl false)) .nil) .nil) b2728_5
def b2728_3 : Sts := .cons (.ifs (.or (.cons (.cmp .ne (.v 2) (.call 2725 (.cons (.v 5) (.cons (.v 6) .nil)))) (.cons (.cmp .ne (.call 2720 (.cons (.v 1) (.cons (.v 6) (.cons (.v 5) .nil)))) (.call 41 (.cons (.v 2) .nil))) .nil))) (.cons (.ret (.bl false)) .nil) .nil) b2728_4
def b2728_2 : Sts := .cons (.set 2 (.call 2720 (.cons (.v 1) (.cons (.v 5) (.cons (.v 6) .nil))))) b2728_3
def b2728_1 : Sts := .cons (.par3 5 6 7 (.call 43 (.cons (.v 0) (.cons (.v 1) (.cons (.int 6) .nil)))) (.call 43 (.cons (.v 0) (.cons (.v 1) (.cons (.int 6) .nil)))) (.call 43 (.cons (.v 0) (.cons (.v 1) (.cons (.int 4) .nil))))) b2728_2
def b2728_0 : Sts := .cons (.set 1 (.bin .add (.int 1) (.call 1 (.cons (.v 0) (.cons (.int 4) .nil))))) b2728_1
def F2728 : Fn := ⟨1, 9, b2728_0⟩
def l2729_1_0 : Sts := .cons (.ifs (.not (.call 2728 (.cons (.v 3) .nil))) (.cons (.ret (.bl false)) .nil) .nil) .nil
def l2729_0_1 : Sts := .cons (.for (.name 4) (.rng1 (.int 4)) l2729_1_0) .nil
def l2729_0_0 : Sts := .cons (.set 3 (.call 0 (.cons (.v 0) (.cons (.v 1) .nil)))) l2729_0_1
def b2729_4 : Sts := .cons (.ret (.cmp .eq (.call 2721 (.cons (.int 2) (.cons (.tup (.cons (.tup (.cons (.int 1) .nil)) (.cons (.tup (.cons (.int 2) .nil)) (.cons (.tup (.cons (.int 1) .nil)) .nil)))) .nil))) (.tup (.cons (.int 1) (.cons (.int 2) (.cons (.neg (.int 1)) (.cons (.neg (.int 2)) (.cons (.int 1) (.cons (.int 2) (.cons (.int 1) (.cons (.neg (.int 2)) (.cons (.neg (.int 1)) (.cons (.neg (.int 1)) .nil))))))))))))) .nil
def b2729_3 : Sts := .cons (.ifs (.cmp .ne (.v 2) (.lst (.cons (.tup (.cons (.int 1) (.cons (.int 2) (.cons (.neg (.int 1)) (.cons (.neg (.int 2)) .nil))))) (.cons (.tup .nil) (.cons (.tup .nil) (.cons (.tup .nil) .nil)))))) (.cons (.ret (.bl false)) .nil) .nil) b2729_4
def b2729_2 : Sts := .cons (.expr (.meth .append (.v 2) (.cons (.call 2721 (.cons (.int 1) (.cons (.tup (.cons (.tup (.cons (.int 1) (.cons (.neg (.int 1)) .nil))) .nil)) .nil))) .nil))) b2729_3
def b2729_1 : Sts := .cons (.set 2 (.lst (.cons (.call 2720 (.cons (.int 2) (.cons (.tup (.cons (.int 1) .nil)) (.cons (.tup (.cons (.int 2) .nil)) .nil)))) (.cons (.call 2720 (.cons (.int 2) (.cons (.tup .nil) (.cons (.tup (.cons (.int 2) .nil)) .nil)))) (.cons (.call 2721 (.cons (.int 2) (.cons (.tup (.cons (.tup (.cons (.int 1) .nil)) (.cons (.tup (.cons (.int 1) .nil)) (.cons (.tup (.cons (.int 2) .nil)) .nil)))) .nil))) .nil))))) b2729_2
def b2729_0 : Sts := .cons (.for (.name 1) (.rng1 (.bi .max (.cons (.int 1) (.cons (.bi .min (.cons (.int 4) (.cons (.bi .len (.cons (.v 0) .nil)) .nil))) .nil)))) l2729_0_0) b2729_1
def F2729 : Fn := ⟨1, 5, b2729_0⟩
def gtab : List (Nat × Fn) := [(0, F0), (1, F1), (2, F2), (12, F12), (13, F13), (14, F14), (15, F15), (16, F16), (17, F17), (18, F18), (19, F19), (20, F20), (21, F21), (22, F22), (23, F23), (24, F24), (25, F25), (26, F26), (27, F27), (28, F28), (29, F29), (30, F30), (31, F31), (32, F32), (33, F33), (34, F34), (35, F35), (36, F36), (37, F37), (38, F38), (39, F39), (40, F40), (41, F41), (42, F42), (43, F43), (44, F44), (45, F45), (46, F46), (47, F47), (48, F48), (49, F49), (2714, F2714), (2715, F2715), (2716, F2716), (2717, F2717), (2718, F2718), (2719, F2719), (2720, F2720), (2721, F2721), (2722, F2722), (2723, F2723), (2724, F2724), (2725, F2725), (2726, F2726), (2727, F2727), (2728, F2728), (2729, F2729)]
def GT (n : Nat) : Option Fn := gtab.lookup n
def gcon : List (Nat × PV) := [(0, .int 400), (1, .int 20), (11, .int 1000000000000000000000000000000000000000000000000000000000000), (12, .int 4), (1202, .int 400), (1203, .int 3)]
def GC (n : Nat) : Option PV := gcon.lookup n
theorem gc_0 : GC 0 = some (.int 400) := rfl
theorem gc_1 : GC 1 = some (.int 20) := rfl
theorem gc_11 : GC 11 = some (.int 1000000000000000000000000000000000000000000000000000000000000) := rfl
theorem gc_12 : GC 12 = some (.int 4) := rfl
theorem gc_1202 : GC 1202 = some (.int 400) := rfl
theorem gc_1203 : GC 1203 = some (.int 3) := rfl
abbrev GF : Nat := 1000000000
end Pi

set_option Elab.async false
set_option linter.all false
set_option maxRecDepth 100000
set_option maxHeartbeats 8000000
/-! words made short: plain mathematics. -/
namespace Wm
/-- the top first -/
def push : List Int → Int → List Int
  | y :: s, x => if y = -x then s else x :: y :: s
  | [], x => [x]
def st (s w : List Int) : List Int := w.foldl push s
def sh (w : List Int) : List Int := (st [] w).reverse
def un (w : List Int) : List Int := w.reverse.map (- ·)
/-- no two neighbours undo one another -/
def Red : List Int → Prop
  | y :: z :: s => y ≠ -z ∧ Red (z :: s)
  | _ => True
theorem st_nil (s : List Int) : st s [] = s := rfl
theorem st_cons (s : List Int) (x : Int) (w : List Int) : st s (x :: w) = st (push s x) w := rfl
theorem st_app (s v w : List Int) : st s (v ++ w) = st (st s v) w := by simp [st]
theorem st_snoc (s w : List Int) (x : Int) : st s (w ++ [x]) = push (st s w) x := by rw [st_app]; rfl
theorem Red.tail {y : Int} {s : List Int} (h : Red (y :: s)) : Red s := by
  cases s with
  | nil => trivial
  | cons z s => exact h.2
theorem Red.push {s : List Int} (h : Red s) (x : Int) : Red (push s x) := by
  cases s with
  | nil => trivial
  | cons y s =>
    show Red (if y = -x then s else x :: y :: s)
    split
    · exact h.tail
    · rename_i hn
      exact ⟨fun e => hn (by omega), h⟩
theorem Red.st {s : List Int} (h : Red s) (w : List Int) : Red (st s w) := by
  induction w generalizing s with
  | nil => exact h
  | cons x w ih => exact ih (h.push x)
theorem push_push {s : List Int} (h : Red s) (x : Int) : push (push s x) (-x) = s := by
  cases s with
  | nil => simp [push]
  | cons y s =>
    by_cases e : y = -x
    · subst e
      have e1 : push (-x :: s) x = s := by simp [push]
      rw [e1]
      cases s with
      | nil => simp [push]
      | cons z s =>
        have hz : z ≠ - -x := fun q => h.1 (by omega)
        simp only [push, if_neg hz]
    · simp only [push, if_neg e, Int.neg_neg, if_true]
theorem push_push' {s : List Int} (h : Red s) (x : Int) : push (push s (-x)) x = s := by
  have := push_push h (-x)
  rwa [Int.neg_neg] at this
theorem st_un {s : List Int} (h : Red s) (w : List Int) : st (st s w) (un w) = s := by
  induction w generalizing s with
  | nil => rfl
  | cons x w ih =>
    have : un (x :: w) = un w ++ [-x] := by simp [un]
    rw [this, st_snoc, st_cons, ih (h.push x), push_push h]
theorem sh_snoc (w : List Int) (x : Int) : sh (w ++ [x]) = (push (st [] w) x).reverse := by unfold sh; rw [st_snoc]
/-- a word may be made short ahead -/
theorem st_sh {s : List Int} (h : Red s) (w : List Int) : st s (sh w) = st s w := by
  have key : ∀ t : List Int, ∀ x : Int, st s (push t x).reverse = push (st s t.reverse) x := by
    intro t x
    cases t with
    | nil => rfl
    | cons y t =>
      by_cases e : y = -x
      · subst e
        have e1 : push (-x :: t) x = t := by simp [push]
        rw [e1, List.reverse_cons, st_snoc, push_push' (h.st _)]
      · have e1 : push (y :: t) x = x :: y :: t := by simp [push, e]
        rw [e1, List.reverse_cons, st_snoc]
  have gen : ∀ w : List Int, st s (st [] w.reverse).reverse = st s w.reverse := by
    intro w
    induction w with
    | nil => rfl
    | cons x w ih => rw [List.reverse_cons, st_snoc, st_snoc, key, ih]
  have := gen w.reverse
  rwa [List.reverse_reverse] at this
theorem red_nil : Red [] := trivial
theorem sh_sh (w : List Int) : sh (sh w) = sh w := by unfold sh; rw [show st [] (st [] w).reverse = st [] w from st_sh red_nil w]
theorem sh_app_l (v w : List Int) : sh (sh v ++ w) = sh (v ++ w) := by
  unfold sh
  rw [st_app, st_app, show st [] (st [] v).reverse = st [] v from st_sh red_nil v]
theorem sh_app_r (v w : List Int) : sh (v ++ sh w) = sh (v ++ w) := by
  show (st [] (v ++ sh w)).reverse = _
  rw [st_app, st_sh (red_nil.st v), ← st_app]; rfl
/-- striking two neighbours out changes nothing -/
theorem sh_strike (u v : List Int) (x : Int) : sh (u ++ [x, -x] ++ v) = sh (u ++ v) := by
  unfold sh
  rw [List.append_assoc, st_app, List.cons_append, List.cons_append, List.nil_append, st_cons, st_cons, push_push (red_nil.st u), st_app]
/-- what is short as it stands -/
theorem st_red : ∀ {w s : List Int}, Red (w.reverse ++ s) → st s w = w.reverse ++ s
  | [], s, _ => rfl
  | x :: w, s, h => by
    have h1 : (x :: w).reverse ++ s = w.reverse ++ (x :: s) := by simp
    rw [h1] at h ⊢
    rw [st_cons]
    have h2 : Red (x :: s) := by
      have : ∀ (a b : List Int), Red (a ++ b) → Red b := by
        intro a b
        induction a with
        | nil => exact id
        | cons y a ih => exact fun h => ih h.tail
      exact this _ _ h
    have h3 : push s x = x :: s := by
      cases s with
      | nil => rfl
      | cons y s => simp only [push]; rw [if_neg fun e => h2.1 (by omega)]
    rw [h3]
    exact st_red h
def RedL (w : List Int) : Prop := Red w.reverse
theorem sh_red {w : List Int} (h : RedL w) : sh w = w := by
  unfold sh
  rw [st_red (by simpa [RedL] using h)]
  simp
theorem red_sh (w : List Int) : RedL (sh w) := by
  unfold RedL sh
  rw [List.reverse_reverse]
  exact red_nil.st w
/-- by neighbours -/
theorem red_of_nb : ∀ {s : List Int}, (∀ i x y, s[i]? = some x → s[i + 1]? = some y → x ≠ -y) → Red s
  | [], _ => trivial
  | [_], _ => trivial
  | x :: y :: s, h => ⟨h 0 x y rfl rfl, red_of_nb fun i a b h1 h2 => h (i + 1) a b (by simpa using h1) (by simpa using h2)⟩
theorem redL_of_nb {w : List Int} (h : ∀ i x y, w[i]? = some x → w[i + 1]? = some y → x ≠ -y) : RedL w := by
  refine red_of_nb fun i x y h1 h2 => ?_
  have l2 : i + 1 < w.length := by have := (List.getElem?_eq_some_iff.mp h2).1; simpa using this
  rw [List.getElem?_reverse (by omega)] at h1
  rw [List.getElem?_reverse (by omega)] at h2
  intro e
  refine h (w.length - 1 - (i + 1)) y x h2 ?_ (by omega)
  rw [show w.length - 1 - (i + 1) + 1 = w.length - 1 - i by omega]
  exact h1
theorem un_un (w : List Int) : un (un w) = w := by simp [un, List.map_reverse, Function.comp_def]
theorem un_len (w : List Int) : (un w).length = w.length := by simp [un]
/-- the undoing of what is short -/
theorem st_un_sh {s : List Int} (h : Red s) (w : List Int) : st s (un (sh w)) = st s (un w) := by
  have key : ∀ (t : List Int) (x : Int) (s : List Int), Red s → st s (un (push t x).reverse) = st (push s (-x)) (un t.reverse) := by
    intro t x s h
    cases t with
    | nil => simp [push, un, st]
    | cons y t =>
      by_cases e : y = -x
      · subst e
        have e1 : push (-x :: t) x = t := by simp [push]
        have e2 : un (-x :: t).reverse = x :: un t.reverse := by simp [un]
        rw [e1, e2, st_cons, push_push' h]
      · have e1 : push (y :: t) x = x :: y :: t := by simp [push, e]
        have e2 : un (x :: y :: t).reverse = -x :: un (y :: t).reverse := by simp [un]
        rw [e1, e2, st_cons]
  have gen : ∀ (w s : List Int), Red s → st s (un (st [] w.reverse).reverse) = st s (un w.reverse) := by
    intro w
    induction w with
    | nil => intro s _; rfl
    | cons x w ih =>
      intro s h
      have e2 : un (x :: w).reverse = -x :: un w.reverse := by simp [un]
      rw [List.reverse_cons, st_snoc, key _ _ _ h, ih _ (h.push _), ← List.reverse_cons, e2, st_cons]
  have := gen w.reverse s h
  rwa [List.reverse_reverse] at this
theorem red_un {w : List Int} (h : RedL w) : RedL (un w) := by
  have : ∀ s : List Int, Red s → Red (s.map (- ·)) := by
    intro s
    induction s with
    | nil => exact fun _ => trivial
    | cons x s ih =>
      cases s with
      | nil => exact fun _ => trivial
      | cons y s => exact fun h => ⟨fun e => h.1 (by simp only at e; omega), ih h.2⟩
  have rv : ∀ s : List Int, Red s → Red s.reverse := by
    intro s h
    refine red_of_nb fun i x y h1 h2 => ?_
    have nb : ∀ (s : List Int) (i : Nat) (x y : Int), Red s → s[i]? = some x → s[i + 1]? = some y → x ≠ -y := by
      intro s
      induction s with
      | nil => intro i x y _ h1; simp at h1
      | cons a s ih =>
        intro i x y h h1 h2
        cases s with
        | nil => simp at h2
        | cons b s =>
          cases i with
          | zero => simp at h1 h2; rw [← h1, ← h2]; exact h.1
          | succ i => exact ih i x y h.2 (by simpa using h1) (by simpa using h2)
    have l2 : i + 1 < s.length := by have := (List.getElem?_eq_some_iff.mp h2).1; simpa using this
    rw [List.getElem?_reverse (by omega)] at h1
    rw [List.getElem?_reverse (by omega)] at h2
    intro e
    refine nb s (s.length - 1 - (i + 1)) y x h h2 ?_ (by omega)
    rw [show s.length - 1 - (i + 1) + 1 = s.length - 1 - i by omega]
    exact h1
  unfold RedL un
  rw [List.map_reverse, List.reverse_reverse]
  refine this _ ?_
  have := rv _ h
  rwa [List.reverse_reverse] at this
theorem sh_un (w : List Int) : sh (un w) = un (sh w) := by
  have h1 : sh (un (sh w)) = sh (un w) := by
    unfold sh
    rw [show st [] (un (st [] w).reverse) = st [] (un w) from st_un_sh red_nil w]
  rw [← h1]
  exact sh_red (red_un (red_sh w))
/-- how many go at a seam -/
def lost : List Int → List Int → Nat
  | y :: s, x :: w => if y = -x then lost s w + 1 else 0
  | _, _ => 0
theorem st_lost : ∀ {s w : List Int}, Red s → RedL w → (st s w).length + 2 * lost s w = s.length + w.length
  | [], w, _, h => by
    rw [st_red (by simpa [RedL] using h)]
    simp [lost]
  | y :: s, [], h, _ => by simp [st, lost]
  | y :: s, x :: w, h, h' => by
    by_cases e : y = -x
    · have e1 : push (y :: s) x = s := by simp [push, e]
      have hw : RedL w := by
        have e3 : (x :: w).reverse = w.reverse ++ [x] := by simp
        have : ∀ (a : List Int) (b : List Int), Red (a ++ b) → Red a := by
          intro a
          induction a with
          | nil => exact fun _ _ => trivial
          | cons y a ih =>
            intro b h
            cases a with
            | nil => trivial
            | cons z a => exact ⟨h.1, ih b h.2⟩
        unfold RedL at h' ⊢
        rw [e3] at h'
        exact this _ _ h'
      have := st_lost h.tail hw
      rw [st_cons, e1, lost, if_pos e]
      simp only [List.length_cons]
      omega
    · rw [lost, if_neg e]
      have hr : Red ((x :: w).reverse ++ (y :: s)) := by
        have : ∀ (a b : List Int) (x : Int), Red (a ++ [x]) → Red (x :: b) → Red (a ++ (x :: b)) := by
          intro a
          induction a with
          | nil => exact fun b x _ h => h
          | cons z a ih =>
            intro b x h1 h2
            cases a with
            | nil => exact ⟨h1.1, h2⟩
            | cons u a => exact ⟨h1.1, ih b x h1.2 h2⟩
        have q := this w.reverse (y :: s) x (by simpa [RedL] using h') ⟨fun q => e (by omega), h⟩
        simpa using q
      rw [st_red hr]
      simp
      omega
theorem lost_sh (v w : List Int) : (sh (v ++ w)).length + 2 * lost (sh v).reverse (sh w) = (sh v).length + (sh w).length := by
  have h1 : Red (sh v).reverse := by have := red_sh v; exact this
  have := st_lost h1 (red_sh w)
  rw [st_sh h1] at this
  have e : sh (v ++ w) = (st (sh v).reverse w).reverse := by
    unfold sh
    rw [st_app, List.reverse_reverse]
  rw [e]
  simpa using this
/-- counts of a letter less those of its undoing -/
def cnt (a : Int) (w : List Int) : Int := (w.count a : Int) - (w.count (-a) : Int)
theorem cnt_push {a : Int} (ha : a ≠ 0) (s : List Int) (x : Int) : cnt a (push s x) = cnt a (x :: s) := by
  cases s with
  | nil => rfl
  | cons y s =>
    by_cases e : y = -x
    · subst e
      have e1 : push (-x :: s) x = s := by simp [push]
      rw [e1]
      unfold cnt
      simp only [List.count_cons, beq_iff_eq]
      by_cases h1 : x = a
      · subst h1
        have h2 : ¬ (-x = x) := by omega
        have h3 : ¬ (x = -x) := by omega
        simp [h2, h3]
        omega
      · by_cases h2 : x = -a
        · subst h2
          have h3 : ¬ (-a = a) := by omega
          have h4 : ¬ (a = -a) := by omega
          simp [h3, h4]
          omega
        · have h3 : ¬ (-x = a) := by omega
          have h4 : ¬ (-x = -a) := by omega
          simp [h1, h2, h3, h4]
    · simp [push, e]
theorem cnt_cons (a x : Int) (w : List Int) : cnt a (x :: w) = cnt a [x] + cnt a w := by
  unfold cnt
  simp only [List.count_cons, List.count_nil]
  omega
theorem cnt_rev (a : Int) (w : List Int) : cnt a w.reverse = cnt a w := by simp [cnt]
theorem cnt_st {a : Int} (ha : a ≠ 0) : ∀ (w s : List Int), cnt a (st s w) = cnt a w + cnt a s
  | [], s => by simp [st, cnt]
  | x :: w, s => by
    rw [st_cons, cnt_st ha w, cnt_push ha, cnt_cons a x s, cnt_cons a x w]
    omega
theorem cnt_sh {a : Int} (ha : a ≠ 0) (w : List Int) : cnt a (sh w) = cnt a w := by
  unfold sh
  rw [cnt_rev, cnt_st ha]
  simp [cnt]
theorem mem_st : ∀ {w s : List Int} {x : Int}, x ∈ st s w → x ∈ s ∨ x ∈ w
  | [], s, x, h => .inl h
  | y :: w, s, x, h => by
    rw [st_cons] at h
    rcases mem_st h with h | h
    · cases s with
      | nil => simp [push] at h; exact .inr (by simp [h])
      | cons z s =>
        simp only [push] at h
        split at h
        · exact .inl (List.mem_cons_of_mem _ h)
        · rcases List.mem_cons.mp h with h | h
          · exact .inr (by simp [h])
          · exact .inl h
    · exact .inr (List.mem_cons_of_mem _ h)
theorem mem_sh {w : List Int} {x : Int} (h : x ∈ sh w) : x ∈ w := by
  unfold sh at h
  rcases mem_st (List.mem_reverse.mp h) with h | h
  · cases h
  · exact h
theorem st_len : ∀ (w s : List Int), (st s w).length ≤ s.length + w.length
  | [], s => by simp [st]
  | x :: w, s => by
    have := st_len w (push s x)
    rw [st_cons]
    have h2 : (push s x).length ≤ s.length + 1 := by
      cases s with
      | nil => simp [push]
      | cons y s => simp only [push]; split <;> simp <;> omega
    simp only [List.length_cons]
    omega
theorem sh_len (w : List Int) : (sh w).length ≤ w.length := by
  have := st_len w []
  unfold sh
  simpa using this
end Wm

-- w_cons, w_nil, w_set, w_asg, w_par2, w_par3, w_setix, w_aug, w_expr, w_ret, w_retN, w_ifs, w_brk, w_cnt, w_pass, w_raise, w_for, w_whl, e_v, e_gc, e_int, e_str, e_bl, e_non, e_neg, e_not, e_bin, e_cmp, e_chain, e_and1, e_and2, e_or1, e_or2, e_and, e_or, e_ite, e_T, e_call, e_callv, e_bi, e_isi, e_meth, e_ix, e_slF, e_slT, e_slB, e_slN, e_rev, e_tup, e_lst, e_lc, e_lcIf, es_nil, es_cons, i_val, i_rng1, i_rng2, i_zip, getP_some, getP_map, getP_bind, getP_ite, asI_int, asF_fn, asT_tup, wpE_ok, step_name, step_many, c_eq, c_ne, c_lt, c_le, c_gt, c_ge, c_is, c_isNot, eq_int, eq_bl, eq_str, is_bl, is_nn, is_in, is_bn, is_sn, is_tn, is_ln, is_rn, t_non, t_bl, t_int, t_tup, t_rol, b_add, b_sub, b_mul, b_mod, b_fdiv, b_pow, b_addT, b_addS, b_mulT, b_mulSame, f_lenT, f_lenL, f_abs, f_max, f_min, f_int, f_intB, f_tupT, f_lstT, f_lstR, f_lenR, f_tupR, f_sum, f_all, f_any, f_anyT, f_allT, f_repr, x_tup, x_rol, x_ref, l_tup, l_ref, r_tup, m_app, m_ext, m_pop, m_cnt, p_app, p_ext, p_pop, p_cnt, s_tup, s_rol, s_ref, y_ii, y_ib, y_it, y_il, y_bi, y_bb, y_bt, y_tt, y_ti, y_tb, y_tl, y_ni, y_nt, x_set, a_add, a_sub, g_name, g_many, g_nil, g_cons, startP, wipeP, Tg.slots, List.map_cons, List.map_nil, List.length_cons, List.length_nil, List.replicate_succ, List.replicate_zero, List.cons_append, List.nil_append, List.getElem?_cons_zero, List.getElem?_cons_succ, Option.join_some, List.set_cons_zero, List.set_cons_succ, Bool.true_eq_false, reduceCtorEq, Option.map_some, Option.bind_some, Nat.reduceAdd, Nat.reduceSub, Nat.zero_add, Bool.not_true, Bool.not_false, Bool.false_eq_true, true_implies, false_implies, implies_true, and_true, true_and, not_true_eq_false, not_false_eq_true, decide_eq_true_eq, Bool.not_eq_true', Bool.not_eq_false', decide_eq_false_iff_not, iL_empty, eq_iT, gc_11, gc_0, gc_1, gc_12, getP_none+: gc_11 gc_0 gc_1 gc_12
set_option Elab.async false
set_option linter.all false
set_option maxRecDepth 100000
set_option maxHeartbeats 8000000
/-! runs: checks, words. -/
namespace Pi
open PySem Wm
theorem brN {c X Y : Prop} (a : ¬ c) (y : Y) : (c → X) ∧ (¬ c → Y) := ⟨fun z => absurd z a, fun _ => y⟩
theorem brY {c X Y : Prop} (a : c) (x : X) : (c → X) ∧ (¬ c → Y) := ⟨fun _ => x, fun z => absurd a z⟩
theorem gf {n : Nat} (h : n < 1000000000) : n < GF := h
theorem sz {n : Nat} (h : n ≤ 16777216) : n ≤ sizeLine := Nat.le_trans h (by decide)
theorem szl {n : Nat} (h : n < 16777216) : n < sizeLine := Nat.lt_of_lt_of_le h (by decide)
section
variable {d : Nat} {h : IH} {P : PV → IH → Prop}
/-! ### checks -/
theorem sp_is_whole (i : Int) (hP : P (.bl true) h) : wpE (run GT GC GF (d + 1) 12 [.int i] h) P := by
  rw [run_in (F := F12) rfl rfl]
  simp -implicitDefEqProofs only [F12, b12_0, w_cons, w_nil, w_set, w_asg, w_par2, w_par3, w_setix, w_aug, w_expr, w_ret, w_retN, w_ifs, w_brk, w_cnt, w_pass, w_raise, w_for, w_whl, e_v, e_gc, e_int, e_str, e_bl, e_non, e_neg, e_not, e_bin, e_cmp, e_chain, e_and1, e_and2, e_or1, e_or2, e_and, e_or, e_ite, e_T, e_call, e_callv, e_bi, e_isi, e_meth, e_ix, e_slF, e_slT, e_slB, e_slN, e_rev, e_tup, e_lst, e_lc, e_lcIf, es_nil, es_cons, i_val, i_rng1, i_rng2, i_zip, getP_some, getP_map, getP_bind, getP_ite, asI_int, asF_fn, asT_tup, wpE_ok, step_name, step_many, c_eq, c_ne, c_lt, c_le, c_gt, c_ge, c_is, c_isNot, eq_int, eq_bl, eq_str, is_bl, is_nn, is_in, is_bn, is_sn, is_tn, is_ln, is_rn, t_non, t_bl, t_int, t_tup, t_rol, b_add, b_sub, b_mul, b_mod, b_fdiv, b_pow, b_addT, b_addS, b_mulT, b_mulSame, f_lenT, f_lenL, f_abs, f_max, f_min, f_int, f_intB, f_tupT, f_lstT, f_lstR, f_lenR, f_tupR, f_sum, f_all, f_any, f_anyT, f_allT, f_repr, x_tup, x_rol, x_ref, l_tup, l_ref, r_tup, m_app, m_ext, m_pop, m_cnt, p_app, p_ext, p_pop, p_cnt, s_tup, s_rol, s_ref, y_ii, y_ib, y_it, y_il, y_bi, y_bb, y_bt, y_tt, y_ti, y_tb, y_tl, y_ni, y_nt, x_set, a_add, a_sub, g_name, g_many, g_nil, g_cons, startP, wipeP, Tg.slots, List.map_cons, List.map_nil, List.length_cons, List.length_nil, List.replicate_succ, List.replicate_zero, List.cons_append, List.nil_append, List.getElem?_cons_zero, List.getElem?_cons_succ, Option.join_some, List.set_cons_zero, List.set_cons_succ, Bool.true_eq_false, reduceCtorEq, Option.map_some, Option.bind_some, Nat.reduceAdd, Nat.reduceSub, Nat.zero_add, Bool.not_true, Bool.not_false, Bool.false_eq_true, true_implies, false_implies, implies_true, and_true, true_and, not_true_eq_false, not_false_eq_true, decide_eq_true_eq, Bool.not_eq_true', Bool.not_eq_false', decide_eq_false_iff_not, iL_empty, eq_iT, gc_11, gc_0, gc_1, gc_12, getP_none]
  exact hP
theorem sp_is_near (i : Int) (h1 : -1000000 < i) (h2 : i < 1000000) (hP : P (.bl true) h) : wpE (run GT GC GF (d + 2) 13 [.int i] h) P := by
  rw [run_in (F := F13) rfl rfl]
  simp -implicitDefEqProofs only [F13, b13_0, w_cons, w_nil, w_set, w_asg, w_par2, w_par3, w_setix, w_aug, w_expr, w_ret, w_retN, w_ifs, w_brk, w_cnt, w_pass, w_raise, w_for, w_whl, e_v, e_gc, e_int, e_str, e_bl, e_non, e_neg, e_not, e_bin, e_cmp, e_chain, e_and1, e_and2, e_or1, e_or2, e_and, e_or, e_ite, e_T, e_call, e_callv, e_bi, e_isi, e_meth, e_ix, e_slF, e_slT, e_slB, e_slN, e_rev, e_tup, e_lst, e_lc, e_lcIf, es_nil, es_cons, i_val, i_rng1, i_rng2, i_zip, getP_some, getP_map, getP_bind, getP_ite, asI_int, asF_fn, asT_tup, wpE_ok, step_name, step_many, c_eq, c_ne, c_lt, c_le, c_gt, c_ge, c_is, c_isNot, eq_int, eq_bl, eq_str, is_bl, is_nn, is_in, is_bn, is_sn, is_tn, is_ln, is_rn, t_non, t_bl, t_int, t_tup, t_rol, b_add, b_sub, b_mul, b_mod, b_fdiv, b_pow, b_addT, b_addS, b_mulT, b_mulSame, f_lenT, f_lenL, f_abs, f_max, f_min, f_int, f_intB, f_tupT, f_lstT, f_lstR, f_lenR, f_tupR, f_sum, f_all, f_any, f_anyT, f_allT, f_repr, x_tup, x_rol, x_ref, l_tup, l_ref, r_tup, m_app, m_ext, m_pop, m_cnt, p_app, p_ext, p_pop, p_cnt, s_tup, s_rol, s_ref, y_ii, y_ib, y_it, y_il, y_bi, y_bb, y_bt, y_tt, y_ti, y_tb, y_tl, y_ni, y_nt, x_set, a_add, a_sub, g_name, g_many, g_nil, g_cons, startP, wipeP, Tg.slots, List.map_cons, List.map_nil, List.length_cons, List.length_nil, List.replicate_succ, List.replicate_zero, List.cons_append, List.nil_append, List.getElem?_cons_zero, List.getElem?_cons_succ, Option.join_some, List.set_cons_zero, List.set_cons_succ, Bool.true_eq_false, reduceCtorEq, Option.map_some, Option.bind_some, Nat.reduceAdd, Nat.reduceSub, Nat.zero_add, Bool.not_true, Bool.not_false, Bool.false_eq_true, true_implies, false_implies, implies_true, and_true, true_and, not_true_eq_false, not_false_eq_true, decide_eq_true_eq, Bool.not_eq_true', Bool.not_eq_false', decide_eq_false_iff_not, iL_empty, eq_iT, gc_11, gc_0, gc_1, gc_12, getP_none]
  refine sp_is_whole _ ?_
  simp -implicitDefEqProofs only [w_cons, w_nil, w_set, w_asg, w_par2, w_par3, w_setix, w_aug, w_expr, w_ret, w_retN, w_ifs, w_brk, w_cnt, w_pass, w_raise, w_for, w_whl, e_v, e_gc, e_int, e_str, e_bl, e_non, e_neg, e_not, e_bin, e_cmp, e_chain, e_and1, e_and2, e_or1, e_or2, e_and, e_or, e_ite, e_T, e_call, e_callv, e_bi, e_isi, e_meth, e_ix, e_slF, e_slT, e_slB, e_slN, e_rev, e_tup, e_lst, e_lc, e_lcIf, es_nil, es_cons, i_val, i_rng1, i_rng2, i_zip, getP_some, getP_map, getP_bind, getP_ite, asI_int, asF_fn, asT_tup, wpE_ok, step_name, step_many, c_eq, c_ne, c_lt, c_le, c_gt, c_ge, c_is, c_isNot, eq_int, eq_bl, eq_str, is_bl, is_nn, is_in, is_bn, is_sn, is_tn, is_ln, is_rn, t_non, t_bl, t_int, t_tup, t_rol, b_add, b_sub, b_mul, b_mod, b_fdiv, b_pow, b_addT, b_addS, b_mulT, b_mulSame, f_lenT, f_lenL, f_abs, f_max, f_min, f_int, f_intB, f_tupT, f_lstT, f_lstR, f_lenR, f_tupR, f_sum, f_all, f_any, f_anyT, f_allT, f_repr, x_tup, x_rol, x_ref, l_tup, l_ref, r_tup, m_app, m_ext, m_pop, m_cnt, p_app, p_ext, p_pop, p_cnt, s_tup, s_rol, s_ref, y_ii, y_ib, y_it, y_il, y_bi, y_bb, y_bt, y_tt, y_ti, y_tb, y_tl, y_ni, y_nt, x_set, a_add, a_sub, g_name, g_many, g_nil, g_cons, startP, wipeP, Tg.slots, List.map_cons, List.map_nil, List.length_cons, List.length_nil, List.replicate_succ, List.replicate_zero, List.cons_append, List.nil_append, List.getElem?_cons_zero, List.getElem?_cons_succ, Option.join_some, List.set_cons_zero, List.set_cons_succ, Bool.true_eq_false, reduceCtorEq, Option.map_some, Option.bind_some, Nat.reduceAdd, Nat.reduceSub, Nat.zero_add, Bool.not_true, Bool.not_false, Bool.false_eq_true, true_implies, false_implies, implies_true, and_true, true_and, not_true_eq_false, not_false_eq_true, decide_eq_true_eq, Bool.not_eq_true', Bool.not_eq_false', decide_eq_false_iff_not, iL_empty, eq_iT, gc_11, gc_0, gc_1, gc_12, getP_none]
  refine ⟨fun _ => ?_, fun a => absurd a (by omega)⟩
  rw [decide_eq_true (by omega)]
  exact hP
theorem sp_is_within (i l m : Int) (hP : P (.bl (decide (l ≤ i ∧ i ≤ m))) h) : wpE (run GT GC GF (d + 2) 14 [.int i, .int l, .int m] h) P := by
  rw [run_in (F := F14) rfl rfl]
  simp -implicitDefEqProofs only [F14, b14_0, w_cons, w_nil, w_set, w_asg, w_par2, w_par3, w_setix, w_aug, w_expr, w_ret, w_retN, w_ifs, w_brk, w_cnt, w_pass, w_raise, w_for, w_whl, e_v, e_gc, e_int, e_str, e_bl, e_non, e_neg, e_not, e_bin, e_cmp, e_chain, e_and1, e_and2, e_or1, e_or2, e_and, e_or, e_ite, e_T, e_call, e_callv, e_bi, e_isi, e_meth, e_ix, e_slF, e_slT, e_slB, e_slN, e_rev, e_tup, e_lst, e_lc, e_lcIf, es_nil, es_cons, i_val, i_rng1, i_rng2, i_zip, getP_some, getP_map, getP_bind, getP_ite, asI_int, asF_fn, asT_tup, wpE_ok, step_name, step_many, c_eq, c_ne, c_lt, c_le, c_gt, c_ge, c_is, c_isNot, eq_int, eq_bl, eq_str, is_bl, is_nn, is_in, is_bn, is_sn, is_tn, is_ln, is_rn, t_non, t_bl, t_int, t_tup, t_rol, b_add, b_sub, b_mul, b_mod, b_fdiv, b_pow, b_addT, b_addS, b_mulT, b_mulSame, f_lenT, f_lenL, f_abs, f_max, f_min, f_int, f_intB, f_tupT, f_lstT, f_lstR, f_lenR, f_tupR, f_sum, f_all, f_any, f_anyT, f_allT, f_repr, x_tup, x_rol, x_ref, l_tup, l_ref, r_tup, m_app, m_ext, m_pop, m_cnt, p_app, p_ext, p_pop, p_cnt, s_tup, s_rol, s_ref, y_ii, y_ib, y_it, y_il, y_bi, y_bb, y_bt, y_tt, y_ti, y_tb, y_tl, y_ni, y_nt, x_set, a_add, a_sub, g_name, g_many, g_nil, g_cons, startP, wipeP, Tg.slots, List.map_cons, List.map_nil, List.length_cons, List.length_nil, List.replicate_succ, List.replicate_zero, List.cons_append, List.nil_append, List.getElem?_cons_zero, List.getElem?_cons_succ, Option.join_some, List.set_cons_zero, List.set_cons_succ, Bool.true_eq_false, reduceCtorEq, Option.map_some, Option.bind_some, Nat.reduceAdd, Nat.reduceSub, Nat.zero_add, Bool.not_true, Bool.not_false, Bool.false_eq_true, true_implies, false_implies, implies_true, and_true, true_and, not_true_eq_false, not_false_eq_true, decide_eq_true_eq, Bool.not_eq_true', Bool.not_eq_false', decide_eq_false_iff_not, iL_empty, eq_iT, gc_11, gc_0, gc_1, gc_12, getP_none]
  refine sp_is_whole _ ?_
  simp -implicitDefEqProofs only [w_cons, w_nil, w_set, w_asg, w_par2, w_par3, w_setix, w_aug, w_expr, w_ret, w_retN, w_ifs, w_brk, w_cnt, w_pass, w_raise, w_for, w_whl, e_v, e_gc, e_int, e_str, e_bl, e_non, e_neg, e_not, e_bin, e_cmp, e_chain, e_and1, e_and2, e_or1, e_or2, e_and, e_or, e_ite, e_T, e_call, e_callv, e_bi, e_isi, e_meth, e_ix, e_slF, e_slT, e_slB, e_slN, e_rev, e_tup, e_lst, e_lc, e_lcIf, es_nil, es_cons, i_val, i_rng1, i_rng2, i_zip, getP_some, getP_map, getP_bind, getP_ite, asI_int, asF_fn, asT_tup, wpE_ok, step_name, step_many, c_eq, c_ne, c_lt, c_le, c_gt, c_ge, c_is, c_isNot, eq_int, eq_bl, eq_str, is_bl, is_nn, is_in, is_bn, is_sn, is_tn, is_ln, is_rn, t_non, t_bl, t_int, t_tup, t_rol, b_add, b_sub, b_mul, b_mod, b_fdiv, b_pow, b_addT, b_addS, b_mulT, b_mulSame, f_lenT, f_lenL, f_abs, f_max, f_min, f_int, f_intB, f_tupT, f_lstT, f_lstR, f_lenR, f_tupR, f_sum, f_all, f_any, f_anyT, f_allT, f_repr, x_tup, x_rol, x_ref, l_tup, l_ref, r_tup, m_app, m_ext, m_pop, m_cnt, p_app, p_ext, p_pop, p_cnt, s_tup, s_rol, s_ref, y_ii, y_ib, y_it, y_il, y_bi, y_bb, y_bt, y_tt, y_ti, y_tb, y_tl, y_ni, y_nt, x_set, a_add, a_sub, g_name, g_many, g_nil, g_cons, startP, wipeP, Tg.slots, List.map_cons, List.map_nil, List.length_cons, List.length_nil, List.replicate_succ, List.replicate_zero, List.cons_append, List.nil_append, List.getElem?_cons_zero, List.getElem?_cons_succ, Option.join_some, List.set_cons_zero, List.set_cons_succ, Bool.true_eq_false, reduceCtorEq, Option.map_some, Option.bind_some, Nat.reduceAdd, Nat.reduceSub, Nat.zero_add, Bool.not_true, Bool.not_false, Bool.false_eq_true, true_implies, false_implies, implies_true, and_true, true_and, not_true_eq_false, not_false_eq_true, decide_eq_true_eq, Bool.not_eq_true', Bool.not_eq_false', decide_eq_false_iff_not, iL_empty, eq_iT, gc_11, gc_0, gc_1, gc_12, getP_none]
  refine ⟨fun a => ?_, fun a => ?_⟩
  · simpa [a] using hP
  · simpa [a] using hP
theorem sp_require_number (i l m : Int) (h1 : l ≤ i) (h2 : i ≤ m) (h3 : -1000000 < i) (h4 : i < 1000000) (hP : P .non h) : wpE (run GT GC GF (d + 3) 15 [.int i, .int l, .int m] h) P := by
  rw [run_in (F := F15) rfl rfl]
  simp -implicitDefEqProofs only [F15, b15_0, w_cons, w_nil, w_set, w_asg, w_par2, w_par3, w_setix, w_aug, w_expr, w_ret, w_retN, w_ifs, w_brk, w_cnt, w_pass, w_raise, w_for, w_whl, e_v, e_gc, e_int, e_str, e_bl, e_non, e_neg, e_not, e_bin, e_cmp, e_chain, e_and1, e_and2, e_or1, e_or2, e_and, e_or, e_ite, e_T, e_call, e_callv, e_bi, e_isi, e_meth, e_ix, e_slF, e_slT, e_slB, e_slN, e_rev, e_tup, e_lst, e_lc, e_lcIf, es_nil, es_cons, i_val, i_rng1, i_rng2, i_zip, getP_some, getP_map, getP_bind, getP_ite, asI_int, asF_fn, asT_tup, wpE_ok, step_name, step_many, c_eq, c_ne, c_lt, c_le, c_gt, c_ge, c_is, c_isNot, eq_int, eq_bl, eq_str, is_bl, is_nn, is_in, is_bn, is_sn, is_tn, is_ln, is_rn, t_non, t_bl, t_int, t_tup, t_rol, b_add, b_sub, b_mul, b_mod, b_fdiv, b_pow, b_addT, b_addS, b_mulT, b_mulSame, f_lenT, f_lenL, f_abs, f_max, f_min, f_int, f_intB, f_tupT, f_lstT, f_lstR, f_lenR, f_tupR, f_sum, f_all, f_any, f_anyT, f_allT, f_repr, x_tup, x_rol, x_ref, l_tup, l_ref, r_tup, m_app, m_ext, m_pop, m_cnt, p_app, p_ext, p_pop, p_cnt, s_tup, s_rol, s_ref, y_ii, y_ib, y_it, y_il, y_bi, y_bb, y_bt, y_tt, y_ti, y_tb, y_tl, y_ni, y_nt, x_set, a_add, a_sub, g_name, g_many, g_nil, g_cons, startP, wipeP, Tg.slots, List.map_cons, List.map_nil, List.length_cons, List.length_nil, List.replicate_succ, List.replicate_zero, List.cons_append, List.nil_append, List.getElem?_cons_zero, List.getElem?_cons_succ, Option.join_some, List.set_cons_zero, List.set_cons_succ, Bool.true_eq_false, reduceCtorEq, Option.map_some, Option.bind_some, Nat.reduceAdd, Nat.reduceSub, Nat.zero_add, Bool.not_true, Bool.not_false, Bool.false_eq_true, true_implies, false_implies, implies_true, and_true, true_and, not_true_eq_false, not_false_eq_true, decide_eq_true_eq, Bool.not_eq_true', Bool.not_eq_false', decide_eq_false_iff_not, iL_empty, eq_iT, gc_11, gc_0, gc_1, gc_12, getP_none]
  refine sp_is_near _ h3 h4 ?_
  simp -implicitDefEqProofs only [w_cons, w_nil, w_set, w_asg, w_par2, w_par3, w_setix, w_aug, w_expr, w_ret, w_retN, w_ifs, w_brk, w_cnt, w_pass, w_raise, w_for, w_whl, e_v, e_gc, e_int, e_str, e_bl, e_non, e_neg, e_not, e_bin, e_cmp, e_chain, e_and1, e_and2, e_or1, e_or2, e_and, e_or, e_ite, e_T, e_call, e_callv, e_bi, e_isi, e_meth, e_ix, e_slF, e_slT, e_slB, e_slN, e_rev, e_tup, e_lst, e_lc, e_lcIf, es_nil, es_cons, i_val, i_rng1, i_rng2, i_zip, getP_some, getP_map, getP_bind, getP_ite, asI_int, asF_fn, asT_tup, wpE_ok, step_name, step_many, c_eq, c_ne, c_lt, c_le, c_gt, c_ge, c_is, c_isNot, eq_int, eq_bl, eq_str, is_bl, is_nn, is_in, is_bn, is_sn, is_tn, is_ln, is_rn, t_non, t_bl, t_int, t_tup, t_rol, b_add, b_sub, b_mul, b_mod, b_fdiv, b_pow, b_addT, b_addS, b_mulT, b_mulSame, f_lenT, f_lenL, f_abs, f_max, f_min, f_int, f_intB, f_tupT, f_lstT, f_lstR, f_lenR, f_tupR, f_sum, f_all, f_any, f_anyT, f_allT, f_repr, x_tup, x_rol, x_ref, l_tup, l_ref, r_tup, m_app, m_ext, m_pop, m_cnt, p_app, p_ext, p_pop, p_cnt, s_tup, s_rol, s_ref, y_ii, y_ib, y_it, y_il, y_bi, y_bb, y_bt, y_tt, y_ti, y_tb, y_tl, y_ni, y_nt, x_set, a_add, a_sub, g_name, g_many, g_nil, g_cons, startP, wipeP, Tg.slots, List.map_cons, List.map_nil, List.length_cons, List.length_nil, List.replicate_succ, List.replicate_zero, List.cons_append, List.nil_append, List.getElem?_cons_zero, List.getElem?_cons_succ, Option.join_some, List.set_cons_zero, List.set_cons_succ, Bool.true_eq_false, reduceCtorEq, Option.map_some, Option.bind_some, Nat.reduceAdd, Nat.reduceSub, Nat.zero_add, Bool.not_true, Bool.not_false, Bool.false_eq_true, true_implies, false_implies, implies_true, and_true, true_and, not_true_eq_false, not_false_eq_true, decide_eq_true_eq, Bool.not_eq_true', Bool.not_eq_false', decide_eq_false_iff_not, iL_empty, eq_iT, gc_11, gc_0, gc_1, gc_12, getP_none]
  exact brN (by omega) (brN (by omega) hP)
theorem sp_is_letter_in (r x : Int) (h1 : -r ≤ x) (h2 : x ≤ r) (h3 : x ≠ 0) (hP : P (.bl true) h) : wpE (run GT GC GF (d + 3) 16 [.int r, .int x] h) P := by
  rw [run_in (F := F16) rfl rfl]
  simp -implicitDefEqProofs only [F16, b16_0, w_cons, w_nil, w_set, w_asg, w_par2, w_par3, w_setix, w_aug, w_expr, w_ret, w_retN, w_ifs, w_brk, w_cnt, w_pass, w_raise, w_for, w_whl, e_v, e_gc, e_int, e_str, e_bl, e_non, e_neg, e_not, e_bin, e_cmp, e_chain, e_and1, e_and2, e_or1, e_or2, e_and, e_or, e_ite, e_T, e_call, e_callv, e_bi, e_isi, e_meth, e_ix, e_slF, e_slT, e_slB, e_slN, e_rev, e_tup, e_lst, e_lc, e_lcIf, es_nil, es_cons, i_val, i_rng1, i_rng2, i_zip, getP_some, getP_map, getP_bind, getP_ite, asI_int, asF_fn, asT_tup, wpE_ok, step_name, step_many, c_eq, c_ne, c_lt, c_le, c_gt, c_ge, c_is, c_isNot, eq_int, eq_bl, eq_str, is_bl, is_nn, is_in, is_bn, is_sn, is_tn, is_ln, is_rn, t_non, t_bl, t_int, t_tup, t_rol, b_add, b_sub, b_mul, b_mod, b_fdiv, b_pow, b_addT, b_addS, b_mulT, b_mulSame, f_lenT, f_lenL, f_abs, f_max, f_min, f_int, f_intB, f_tupT, f_lstT, f_lstR, f_lenR, f_tupR, f_sum, f_all, f_any, f_anyT, f_allT, f_repr, x_tup, x_rol, x_ref, l_tup, l_ref, r_tup, m_app, m_ext, m_pop, m_cnt, p_app, p_ext, p_pop, p_cnt, s_tup, s_rol, s_ref, y_ii, y_ib, y_it, y_il, y_bi, y_bb, y_bt, y_tt, y_ti, y_tb, y_tl, y_ni, y_nt, x_set, a_add, a_sub, g_name, g_many, g_nil, g_cons, startP, wipeP, Tg.slots, List.map_cons, List.map_nil, List.length_cons, List.length_nil, List.replicate_succ, List.replicate_zero, List.cons_append, List.nil_append, List.getElem?_cons_zero, List.getElem?_cons_succ, Option.join_some, List.set_cons_zero, List.set_cons_succ, Bool.true_eq_false, reduceCtorEq, Option.map_some, Option.bind_some, Nat.reduceAdd, Nat.reduceSub, Nat.zero_add, Bool.not_true, Bool.not_false, Bool.false_eq_true, true_implies, false_implies, implies_true, and_true, true_and, not_true_eq_false, not_false_eq_true, decide_eq_true_eq, Bool.not_eq_true', Bool.not_eq_false', decide_eq_false_iff_not, iL_empty, eq_iT, gc_11, gc_0, gc_1, gc_12, getP_none]
  refine sp_is_within _ _ _ ?_
  rw [decide_eq_true ⟨h1, h2⟩]
  simp -implicitDefEqProofs only [w_cons, w_nil, w_set, w_asg, w_par2, w_par3, w_setix, w_aug, w_expr, w_ret, w_retN, w_ifs, w_brk, w_cnt, w_pass, w_raise, w_for, w_whl, e_v, e_gc, e_int, e_str, e_bl, e_non, e_neg, e_not, e_bin, e_cmp, e_chain, e_and1, e_and2, e_or1, e_or2, e_and, e_or, e_ite, e_T, e_call, e_callv, e_bi, e_isi, e_meth, e_ix, e_slF, e_slT, e_slB, e_slN, e_rev, e_tup, e_lst, e_lc, e_lcIf, es_nil, es_cons, i_val, i_rng1, i_rng2, i_zip, getP_some, getP_map, getP_bind, getP_ite, asI_int, asF_fn, asT_tup, wpE_ok, step_name, step_many, c_eq, c_ne, c_lt, c_le, c_gt, c_ge, c_is, c_isNot, eq_int, eq_bl, eq_str, is_bl, is_nn, is_in, is_bn, is_sn, is_tn, is_ln, is_rn, t_non, t_bl, t_int, t_tup, t_rol, b_add, b_sub, b_mul, b_mod, b_fdiv, b_pow, b_addT, b_addS, b_mulT, b_mulSame, f_lenT, f_lenL, f_abs, f_max, f_min, f_int, f_intB, f_tupT, f_lstT, f_lstR, f_lenR, f_tupR, f_sum, f_all, f_any, f_anyT, f_allT, f_repr, x_tup, x_rol, x_ref, l_tup, l_ref, r_tup, m_app, m_ext, m_pop, m_cnt, p_app, p_ext, p_pop, p_cnt, s_tup, s_rol, s_ref, y_ii, y_ib, y_it, y_il, y_bi, y_bb, y_bt, y_tt, y_ti, y_tb, y_tl, y_ni, y_nt, x_set, a_add, a_sub, g_name, g_many, g_nil, g_cons, startP, wipeP, Tg.slots, List.map_cons, List.map_nil, List.length_cons, List.length_nil, List.replicate_succ, List.replicate_zero, List.cons_append, List.nil_append, List.getElem?_cons_zero, List.getElem?_cons_succ, Option.join_some, List.set_cons_zero, List.set_cons_succ, Bool.true_eq_false, reduceCtorEq, Option.map_some, Option.bind_some, Nat.reduceAdd, Nat.reduceSub, Nat.zero_add, Bool.not_true, Bool.not_false, Bool.false_eq_true, true_implies, false_implies, implies_true, and_true, true_and, not_true_eq_false, not_false_eq_true, decide_eq_true_eq, Bool.not_eq_true', Bool.not_eq_false', decide_eq_false_iff_not, iL_empty, eq_iT, gc_11, gc_0, gc_1, gc_12, getP_none]
  rw [decide_eq_false h3]
  exact hP
/-- a word in r letters -/
def Wd (r : Int) (w : List Int) : Prop := ∀ x ∈ w, x ≠ 0 ∧ -r ≤ x ∧ x ≤ r
theorem bools_true : ∀ n : Nat, bools (List.replicate n (.bl true)) = some (List.replicate n true)
  | 0 => rfl
  | n + 1 => by rw [List.replicate_succ, bools, bools_true n]; rfl
theorem all_true (n : Nat) : (List.replicate n true).all id = true := by simp
theorem rep_get {n i : Nat} {y z : PV} (h : (List.replicate n z)[i]? = some y) : y = z := by
  rw [List.getElem?_replicate] at h
  split at h <;> cases h
  rfl
theorem sp_is_word_in (r : Int) (w : List Int) (hw : Wd r w) (hl : w.length ≤ 400) (hP : ∀ h', Gr [] h h' → P (.bl true) h') : wpE (run GT GC GF (d + 4) 17 [.int r, iT w] h) P := by
  rw [run_in (F := F17) rfl rfl]
  simp -implicitDefEqProofs only [F17, b17_0, w_cons, w_nil, w_set, w_asg, w_par2, w_par3, w_setix, w_aug, w_expr, w_ret, w_retN, w_ifs, w_brk, w_cnt, w_pass, w_raise, w_for, w_whl, e_v, e_gc, e_int, e_str, e_bl, e_non, e_neg, e_not, e_bin, e_cmp, e_chain, e_and1, e_and2, e_or1, e_or2, e_and, e_or, e_ite, e_T, e_call, e_callv, e_bi, e_isi, e_meth, e_ix, e_slF, e_slT, e_slB, e_slN, e_rev, e_tup, e_lst, e_lc, e_lcIf, es_nil, es_cons, i_val, i_rng1, i_rng2, i_zip, getP_some, getP_map, getP_bind, getP_ite, asI_int, asF_fn, asT_tup, wpE_ok, step_name, step_many, c_eq, c_ne, c_lt, c_le, c_gt, c_ge, c_is, c_isNot, eq_int, eq_bl, eq_str, is_bl, is_nn, is_in, is_bn, is_sn, is_tn, is_ln, is_rn, t_non, t_bl, t_int, t_tup, t_rol, b_add, b_sub, b_mul, b_mod, b_fdiv, b_pow, b_addT, b_addS, b_mulT, b_mulSame, f_lenT, f_lenL, f_abs, f_max, f_min, f_int, f_intB, f_tupT, f_lstT, f_lstR, f_lenR, f_tupR, f_sum, f_all, f_any, f_anyT, f_allT, f_repr, x_tup, x_rol, x_ref, l_tup, l_ref, r_tup, m_app, m_ext, m_pop, m_cnt, p_app, p_ext, p_pop, p_cnt, s_tup, s_rol, s_ref, y_ii, y_ib, y_it, y_il, y_bi, y_bb, y_bt, y_tt, y_ti, y_tb, y_tl, y_ni, y_nt, x_set, a_add, a_sub, g_name, g_many, g_nil, g_cons, startP, wipeP, Tg.slots, List.map_cons, List.map_nil, List.length_cons, List.length_nil, List.replicate_succ, List.replicate_zero, List.cons_append, List.nil_append, List.getElem?_cons_zero, List.getElem?_cons_succ, Option.join_some, List.set_cons_zero, List.set_cons_succ, Bool.true_eq_false, reduceCtorEq, Option.map_some, Option.bind_some, Nat.reduceAdd, Nat.reduceSub, Nat.zero_add, Bool.not_true, Bool.not_false, Bool.false_eq_true, true_implies, false_implies, implies_true, and_true, true_and, not_true_eq_false, not_false_eq_true, decide_eq_true_eq, Bool.not_eq_true', Bool.not_eq_false', decide_eq_false_iff_not, iL_empty, eq_iT, gc_11, gc_0, gc_1, gc_12, getP_none]
  refine brN (by rw [iL_len]; omega) ?_
  simp -implicitDefEqProofs only [w_cons, w_nil, w_set, w_asg, w_par2, w_par3, w_setix, w_aug, w_expr, w_ret, w_retN, w_ifs, w_brk, w_cnt, w_pass, w_raise, w_for, w_whl, e_v, e_gc, e_int, e_str, e_bl, e_non, e_neg, e_not, e_bin, e_cmp, e_chain, e_and1, e_and2, e_or1, e_or2, e_and, e_or, e_ite, e_T, e_call, e_callv, e_bi, e_isi, e_meth, e_ix, e_slF, e_slT, e_slB, e_slN, e_rev, e_tup, e_lst, e_lc, e_lcIf, es_nil, es_cons, i_val, i_rng1, i_rng2, i_zip, getP_some, getP_map, getP_bind, getP_ite, asI_int, asF_fn, asT_tup, wpE_ok, step_name, step_many, c_eq, c_ne, c_lt, c_le, c_gt, c_ge, c_is, c_isNot, eq_int, eq_bl, eq_str, is_bl, is_nn, is_in, is_bn, is_sn, is_tn, is_ln, is_rn, t_non, t_bl, t_int, t_tup, t_rol, b_add, b_sub, b_mul, b_mod, b_fdiv, b_pow, b_addT, b_addS, b_mulT, b_mulSame, f_lenT, f_lenL, f_abs, f_max, f_min, f_int, f_intB, f_tupT, f_lstT, f_lstR, f_lenR, f_tupR, f_sum, f_all, f_any, f_anyT, f_allT, f_repr, x_tup, x_rol, x_ref, l_tup, l_ref, r_tup, m_app, m_ext, m_pop, m_cnt, p_app, p_ext, p_pop, p_cnt, s_tup, s_rol, s_ref, y_ii, y_ib, y_it, y_il, y_bi, y_bb, y_bt, y_tt, y_ti, y_tb, y_tl, y_ni, y_nt, x_set, a_add, a_sub, g_name, g_many, g_nil, g_cons, startP, wipeP, Tg.slots, List.map_cons, List.map_nil, List.length_cons, List.length_nil, List.replicate_succ, List.replicate_zero, List.cons_append, List.nil_append, List.getElem?_cons_zero, List.getElem?_cons_succ, Option.join_some, List.set_cons_zero, List.set_cons_succ, Bool.true_eq_false, reduceCtorEq, Option.map_some, Option.bind_some, Nat.reduceAdd, Nat.reduceSub, Nat.zero_add, Bool.not_true, Bool.not_false, Bool.false_eq_true, true_implies, false_implies, implies_true, and_true, true_and, not_true_eq_false, not_false_eq_true, decide_eq_true_eq, Bool.not_eq_true', Bool.not_eq_false', decide_eq_false_iff_not, iL_empty, eq_iT, gc_11, gc_0, gc_1, gc_12, getP_none, b17_1]
  refine lc_map (ys := List.replicate w.length (.bl true)) [] (by simp [iL_len]) (fun i x y h' hx hy hg => ?_) (fun h' hg => ?_) (by rw [iL_len]; exact sz (by omega)) (gf (by rw [iL_len]; omega))
  · obtain ⟨z, hz, rfl⟩ := iL_get hx
    rw [rep_get hy]
    obtain ⟨q1, q2, q3⟩ := hw z (List.mem_of_getElem? hz)
    simp -implicitDefEqProofs only [w_cons, w_nil, w_set, w_asg, w_par2, w_par3, w_setix, w_aug, w_expr, w_ret, w_retN, w_ifs, w_brk, w_cnt, w_pass, w_raise, w_for, w_whl, e_v, e_gc, e_int, e_str, e_bl, e_non, e_neg, e_not, e_bin, e_cmp, e_chain, e_and1, e_and2, e_or1, e_or2, e_and, e_or, e_ite, e_T, e_call, e_callv, e_bi, e_isi, e_meth, e_ix, e_slF, e_slT, e_slB, e_slN, e_rev, e_tup, e_lst, e_lc, e_lcIf, es_nil, es_cons, i_val, i_rng1, i_rng2, i_zip, getP_some, getP_map, getP_bind, getP_ite, asI_int, asF_fn, asT_tup, wpE_ok, step_name, step_many, c_eq, c_ne, c_lt, c_le, c_gt, c_ge, c_is, c_isNot, eq_int, eq_bl, eq_str, is_bl, is_nn, is_in, is_bn, is_sn, is_tn, is_ln, is_rn, t_non, t_bl, t_int, t_tup, t_rol, b_add, b_sub, b_mul, b_mod, b_fdiv, b_pow, b_addT, b_addS, b_mulT, b_mulSame, f_lenT, f_lenL, f_abs, f_max, f_min, f_int, f_intB, f_tupT, f_lstT, f_lstR, f_lenR, f_tupR, f_sum, f_all, f_any, f_anyT, f_allT, f_repr, x_tup, x_rol, x_ref, l_tup, l_ref, r_tup, m_app, m_ext, m_pop, m_cnt, p_app, p_ext, p_pop, p_cnt, s_tup, s_rol, s_ref, y_ii, y_ib, y_it, y_il, y_bi, y_bb, y_bt, y_tt, y_ti, y_tb, y_tl, y_ni, y_nt, x_set, a_add, a_sub, g_name, g_many, g_nil, g_cons, startP, wipeP, Tg.slots, List.map_cons, List.map_nil, List.length_cons, List.length_nil, List.replicate_succ, List.replicate_zero, List.cons_append, List.nil_append, List.getElem?_cons_zero, List.getElem?_cons_succ, Option.join_some, List.set_cons_zero, List.set_cons_succ, Bool.true_eq_false, reduceCtorEq, Option.map_some, Option.bind_some, Nat.reduceAdd, Nat.reduceSub, Nat.zero_add, Bool.not_true, Bool.not_false, Bool.false_eq_true, true_implies, false_implies, implies_true, and_true, true_and, not_true_eq_false, not_false_eq_true, decide_eq_true_eq, Bool.not_eq_true', Bool.not_eq_false', decide_eq_false_iff_not, iL_empty, eq_iT, gc_11, gc_0, gc_1, gc_12, getP_none]
    exact sp_is_letter_in r z q2 q3 q1 ⟨rfl, hg⟩
  · simp -implicitDefEqProofs only [w_cons, w_nil, w_set, w_asg, w_par2, w_par3, w_setix, w_aug, w_expr, w_ret, w_retN, w_ifs, w_brk, w_cnt, w_pass, w_raise, w_for, w_whl, e_v, e_gc, e_int, e_str, e_bl, e_non, e_neg, e_not, e_bin, e_cmp, e_chain, e_and1, e_and2, e_or1, e_or2, e_and, e_or, e_ite, e_T, e_call, e_callv, e_bi, e_isi, e_meth, e_ix, e_slF, e_slT, e_slB, e_slN, e_rev, e_tup, e_lst, e_lc, e_lcIf, es_nil, es_cons, i_val, i_rng1, i_rng2, i_zip, getP_some, getP_map, getP_bind, getP_ite, asI_int, asF_fn, asT_tup, wpE_ok, step_name, step_many, c_eq, c_ne, c_lt, c_le, c_gt, c_ge, c_is, c_isNot, eq_int, eq_bl, eq_str, is_bl, is_nn, is_in, is_bn, is_sn, is_tn, is_ln, is_rn, t_non, t_bl, t_int, t_tup, t_rol, b_add, b_sub, b_mul, b_mod, b_fdiv, b_pow, b_addT, b_addS, b_mulT, b_mulSame, f_lenT, f_lenL, f_abs, f_max, f_min, f_int, f_intB, f_tupT, f_lstT, f_lstR, f_lenR, f_tupR, f_sum, f_all, f_any, f_anyT, f_allT, f_repr, x_tup, x_rol, x_ref, l_tup, l_ref, r_tup, m_app, m_ext, m_pop, m_cnt, p_app, p_ext, p_pop, p_cnt, s_tup, s_rol, s_ref, y_ii, y_ib, y_it, y_il, y_bi, y_bb, y_bt, y_tt, y_ti, y_tb, y_tl, y_ni, y_nt, x_set, a_add, a_sub, g_name, g_many, g_nil, g_cons, startP, wipeP, Tg.slots, List.map_cons, List.map_nil, List.length_cons, List.length_nil, List.replicate_succ, List.replicate_zero, List.cons_append, List.nil_append, List.getElem?_cons_zero, List.getElem?_cons_succ, Option.join_some, List.set_cons_zero, List.set_cons_succ, Bool.true_eq_false, reduceCtorEq, Option.map_some, Option.bind_some, Nat.reduceAdd, Nat.reduceSub, Nat.zero_add, Bool.not_true, Bool.not_false, Bool.false_eq_true, true_implies, false_implies, implies_true, and_true, true_and, not_true_eq_false, not_false_eq_true, decide_eq_true_eq, Bool.not_eq_true', Bool.not_eq_false', decide_eq_false_iff_not, iL_empty, eq_iT, gc_11, gc_0, gc_1, gc_12, getP_none, lst_new, bools_true, all_true]
    exact hP _ hg.new
/-- words, as a tuple -/
def wL (ws : List (List Int)) : List PV := ws.map fun w => iT w
abbrev wT (ws : List (List Int)) : PV := .tup (wL ws)
theorem wL_len (ws : List (List Int)) : (wL ws).length = ws.length := by simp [wL]
theorem wL_get {ws : List (List Int)} {i : Nat} {p : PV} (h : (wL ws)[i]? = some p) : ∃ w, ws[i]? = some w ∧ p = iT w := by
  unfold wL at h
  rw [List.getElem?_map] at h
  cases q : ws[i]? with
  | none => rw [q] at h; cases h
  | some x => rw [q] at h; cases h; exact ⟨x, rfl, rfl⟩
theorem sp_are_words_in (r : Int) (ws : List (List Int)) (hw : ∀ w ∈ ws, Wd r w ∧ w.length ≤ 400) (hl : ws.length ≤ 20) (hs : (ws.map (fun w => (w.length : Int))).sum ≤ 400) (hP : ∀ h', Gr [] h h' → P (.bl true) h') : wpE (run GT GC GF (d + 5) 18 [.int r, wT ws] h) P := by
  rw [run_in (F := F18) rfl rfl]
  simp -implicitDefEqProofs only [F18, b18_0, w_cons, w_nil, w_set, w_asg, w_par2, w_par3, w_setix, w_aug, w_expr, w_ret, w_retN, w_ifs, w_brk, w_cnt, w_pass, w_raise, w_for, w_whl, e_v, e_gc, e_int, e_str, e_bl, e_non, e_neg, e_not, e_bin, e_cmp, e_chain, e_and1, e_and2, e_or1, e_or2, e_and, e_or, e_ite, e_T, e_call, e_callv, e_bi, e_isi, e_meth, e_ix, e_slF, e_slT, e_slB, e_slN, e_rev, e_tup, e_lst, e_lc, e_lcIf, es_nil, es_cons, i_val, i_rng1, i_rng2, i_zip, getP_some, getP_map, getP_bind, getP_ite, asI_int, asF_fn, asT_tup, wpE_ok, step_name, step_many, c_eq, c_ne, c_lt, c_le, c_gt, c_ge, c_is, c_isNot, eq_int, eq_bl, eq_str, is_bl, is_nn, is_in, is_bn, is_sn, is_tn, is_ln, is_rn, t_non, t_bl, t_int, t_tup, t_rol, b_add, b_sub, b_mul, b_mod, b_fdiv, b_pow, b_addT, b_addS, b_mulT, b_mulSame, f_lenT, f_lenL, f_abs, f_max, f_min, f_int, f_intB, f_tupT, f_lstT, f_lstR, f_lenR, f_tupR, f_sum, f_all, f_any, f_anyT, f_allT, f_repr, x_tup, x_rol, x_ref, l_tup, l_ref, r_tup, m_app, m_ext, m_pop, m_cnt, p_app, p_ext, p_pop, p_cnt, s_tup, s_rol, s_ref, y_ii, y_ib, y_it, y_il, y_bi, y_bb, y_bt, y_tt, y_ti, y_tb, y_tl, y_ni, y_nt, x_set, a_add, a_sub, g_name, g_many, g_nil, g_cons, startP, wipeP, Tg.slots, List.map_cons, List.map_nil, List.length_cons, List.length_nil, List.replicate_succ, List.replicate_zero, List.cons_append, List.nil_append, List.getElem?_cons_zero, List.getElem?_cons_succ, Option.join_some, List.set_cons_zero, List.set_cons_succ, Bool.true_eq_false, reduceCtorEq, Option.map_some, Option.bind_some, Nat.reduceAdd, Nat.reduceSub, Nat.zero_add, Bool.not_true, Bool.not_false, Bool.false_eq_true, true_implies, false_implies, implies_true, and_true, true_and, not_true_eq_false, not_false_eq_true, decide_eq_true_eq, Bool.not_eq_true', Bool.not_eq_false', decide_eq_false_iff_not, iL_empty, eq_iT, gc_11, gc_0, gc_1, gc_12, getP_none]
  refine brN (by rw [wL_len]; omega) ?_
  refine lc_map (ys := List.replicate ws.length (.bl true)) [] (by simp [wL_len]) (fun i x y h' hx hy hg => ?_) (fun h' hg => ?_) (by rw [wL_len]; exact sz (by omega)) (gf (by rw [wL_len]; omega))
  · obtain ⟨z, hz, rfl⟩ := wL_get hx
    rw [rep_get hy]
    obtain ⟨q1, q2⟩ := hw z (List.mem_of_getElem? hz)
    simp -implicitDefEqProofs only [w_cons, w_nil, w_set, w_asg, w_par2, w_par3, w_setix, w_aug, w_expr, w_ret, w_retN, w_ifs, w_brk, w_cnt, w_pass, w_raise, w_for, w_whl, e_v, e_gc, e_int, e_str, e_bl, e_non, e_neg, e_not, e_bin, e_cmp, e_chain, e_and1, e_and2, e_or1, e_or2, e_and, e_or, e_ite, e_T, e_call, e_callv, e_bi, e_isi, e_meth, e_ix, e_slF, e_slT, e_slB, e_slN, e_rev, e_tup, e_lst, e_lc, e_lcIf, es_nil, es_cons, i_val, i_rng1, i_rng2, i_zip, getP_some, getP_map, getP_bind, getP_ite, asI_int, asF_fn, asT_tup, wpE_ok, step_name, step_many, c_eq, c_ne, c_lt, c_le, c_gt, c_ge, c_is, c_isNot, eq_int, eq_bl, eq_str, is_bl, is_nn, is_in, is_bn, is_sn, is_tn, is_ln, is_rn, t_non, t_bl, t_int, t_tup, t_rol, b_add, b_sub, b_mul, b_mod, b_fdiv, b_pow, b_addT, b_addS, b_mulT, b_mulSame, f_lenT, f_lenL, f_abs, f_max, f_min, f_int, f_intB, f_tupT, f_lstT, f_lstR, f_lenR, f_tupR, f_sum, f_all, f_any, f_anyT, f_allT, f_repr, x_tup, x_rol, x_ref, l_tup, l_ref, r_tup, m_app, m_ext, m_pop, m_cnt, p_app, p_ext, p_pop, p_cnt, s_tup, s_rol, s_ref, y_ii, y_ib, y_it, y_il, y_bi, y_bb, y_bt, y_tt, y_ti, y_tb, y_tl, y_ni, y_nt, x_set, a_add, a_sub, g_name, g_many, g_nil, g_cons, startP, wipeP, Tg.slots, List.map_cons, List.map_nil, List.length_cons, List.length_nil, List.replicate_succ, List.replicate_zero, List.cons_append, List.nil_append, List.getElem?_cons_zero, List.getElem?_cons_succ, Option.join_some, List.set_cons_zero, List.set_cons_succ, Bool.true_eq_false, reduceCtorEq, Option.map_some, Option.bind_some, Nat.reduceAdd, Nat.reduceSub, Nat.zero_add, Bool.not_true, Bool.not_false, Bool.false_eq_true, true_implies, false_implies, implies_true, and_true, true_and, not_true_eq_false, not_false_eq_true, decide_eq_true_eq, Bool.not_eq_true', Bool.not_eq_false', decide_eq_false_iff_not, iL_empty, eq_iT, gc_11, gc_0, gc_1, gc_12, getP_none]
    exact sp_is_word_in r z q1 q2 fun h'' hg' => ⟨rfl, hg.trans hg'⟩
  · simp -implicitDefEqProofs only [w_cons, w_nil, w_set, w_asg, w_par2, w_par3, w_setix, w_aug, w_expr, w_ret, w_retN, w_ifs, w_brk, w_cnt, w_pass, w_raise, w_for, w_whl, e_v, e_gc, e_int, e_str, e_bl, e_non, e_neg, e_not, e_bin, e_cmp, e_chain, e_and1, e_and2, e_or1, e_or2, e_and, e_or, e_ite, e_T, e_call, e_callv, e_bi, e_isi, e_meth, e_ix, e_slF, e_slT, e_slB, e_slN, e_rev, e_tup, e_lst, e_lc, e_lcIf, es_nil, es_cons, i_val, i_rng1, i_rng2, i_zip, getP_some, getP_map, getP_bind, getP_ite, asI_int, asF_fn, asT_tup, wpE_ok, step_name, step_many, c_eq, c_ne, c_lt, c_le, c_gt, c_ge, c_is, c_isNot, eq_int, eq_bl, eq_str, is_bl, is_nn, is_in, is_bn, is_sn, is_tn, is_ln, is_rn, t_non, t_bl, t_int, t_tup, t_rol, b_add, b_sub, b_mul, b_mod, b_fdiv, b_pow, b_addT, b_addS, b_mulT, b_mulSame, f_lenT, f_lenL, f_abs, f_max, f_min, f_int, f_intB, f_tupT, f_lstT, f_lstR, f_lenR, f_tupR, f_sum, f_all, f_any, f_anyT, f_allT, f_repr, x_tup, x_rol, x_ref, l_tup, l_ref, r_tup, m_app, m_ext, m_pop, m_cnt, p_app, p_ext, p_pop, p_cnt, s_tup, s_rol, s_ref, y_ii, y_ib, y_it, y_il, y_bi, y_bb, y_bt, y_tt, y_ti, y_tb, y_tl, y_ni, y_nt, x_set, a_add, a_sub, g_name, g_many, g_nil, g_cons, startP, wipeP, Tg.slots, List.map_cons, List.map_nil, List.length_cons, List.length_nil, List.replicate_succ, List.replicate_zero, List.cons_append, List.nil_append, List.getElem?_cons_zero, List.getElem?_cons_succ, Option.join_some, List.set_cons_zero, List.set_cons_succ, Bool.true_eq_false, reduceCtorEq, Option.map_some, Option.bind_some, Nat.reduceAdd, Nat.reduceSub, Nat.zero_add, Bool.not_true, Bool.not_false, Bool.false_eq_true, true_implies, false_implies, implies_true, and_true, true_and, not_true_eq_false, not_false_eq_true, decide_eq_true_eq, Bool.not_eq_true', Bool.not_eq_false', decide_eq_false_iff_not, iL_empty, eq_iT, gc_11, gc_0, gc_1, gc_12, getP_none, lst_new, bools_true, all_true, b18_1]
    refine lc_map (ys := iL (ws.map fun w => (w.length : Int))) [] (by simp [wL_len, iL_len]) (fun i x y h'' hx hy hg' => ?_) (fun h'' hg' => ?_) (by rw [wL_len]; exact sz (by omega)) (gf (by rw [wL_len]; omega))
    · obtain ⟨z, hz, rfl⟩ := wL_get hx
      obtain ⟨u, hu, rfl⟩ := iL_get hy
      rw [List.getElem?_map, hz] at hu
      cases hu
      simp -implicitDefEqProofs only [w_cons, w_nil, w_set, w_asg, w_par2, w_par3, w_setix, w_aug, w_expr, w_ret, w_retN, w_ifs, w_brk, w_cnt, w_pass, w_raise, w_for, w_whl, e_v, e_gc, e_int, e_str, e_bl, e_non, e_neg, e_not, e_bin, e_cmp, e_chain, e_and1, e_and2, e_or1, e_or2, e_and, e_or, e_ite, e_T, e_call, e_callv, e_bi, e_isi, e_meth, e_ix, e_slF, e_slT, e_slB, e_slN, e_rev, e_tup, e_lst, e_lc, e_lcIf, es_nil, es_cons, i_val, i_rng1, i_rng2, i_zip, getP_some, getP_map, getP_bind, getP_ite, asI_int, asF_fn, asT_tup, wpE_ok, step_name, step_many, c_eq, c_ne, c_lt, c_le, c_gt, c_ge, c_is, c_isNot, eq_int, eq_bl, eq_str, is_bl, is_nn, is_in, is_bn, is_sn, is_tn, is_ln, is_rn, t_non, t_bl, t_int, t_tup, t_rol, b_add, b_sub, b_mul, b_mod, b_fdiv, b_pow, b_addT, b_addS, b_mulT, b_mulSame, f_lenT, f_lenL, f_abs, f_max, f_min, f_int, f_intB, f_tupT, f_lstT, f_lstR, f_lenR, f_tupR, f_sum, f_all, f_any, f_anyT, f_allT, f_repr, x_tup, x_rol, x_ref, l_tup, l_ref, r_tup, m_app, m_ext, m_pop, m_cnt, p_app, p_ext, p_pop, p_cnt, s_tup, s_rol, s_ref, y_ii, y_ib, y_it, y_il, y_bi, y_bb, y_bt, y_tt, y_ti, y_tb, y_tl, y_ni, y_nt, x_set, a_add, a_sub, g_name, g_many, g_nil, g_cons, startP, wipeP, Tg.slots, List.map_cons, List.map_nil, List.length_cons, List.length_nil, List.replicate_succ, List.replicate_zero, List.cons_append, List.nil_append, List.getElem?_cons_zero, List.getElem?_cons_succ, Option.join_some, List.set_cons_zero, List.set_cons_succ, Bool.true_eq_false, reduceCtorEq, Option.map_some, Option.bind_some, Nat.reduceAdd, Nat.reduceSub, Nat.zero_add, Bool.not_true, Bool.not_false, Bool.false_eq_true, true_implies, false_implies, implies_true, and_true, true_and, not_true_eq_false, not_false_eq_true, decide_eq_true_eq, Bool.not_eq_true', Bool.not_eq_false', decide_eq_false_iff_not, iL_empty, eq_iT, gc_11, gc_0, gc_1, gc_12, getP_none, iL_len]
      exact hg'
    · simp -implicitDefEqProofs only [w_cons, w_nil, w_set, w_asg, w_par2, w_par3, w_setix, w_aug, w_expr, w_ret, w_retN, w_ifs, w_brk, w_cnt, w_pass, w_raise, w_for, w_whl, e_v, e_gc, e_int, e_str, e_bl, e_non, e_neg, e_not, e_bin, e_cmp, e_chain, e_and1, e_and2, e_or1, e_or2, e_and, e_or, e_ite, e_T, e_call, e_callv, e_bi, e_isi, e_meth, e_ix, e_slF, e_slT, e_slB, e_slN, e_rev, e_tup, e_lst, e_lc, e_lcIf, es_nil, es_cons, i_val, i_rng1, i_rng2, i_zip, getP_some, getP_map, getP_bind, getP_ite, asI_int, asF_fn, asT_tup, wpE_ok, step_name, step_many, c_eq, c_ne, c_lt, c_le, c_gt, c_ge, c_is, c_isNot, eq_int, eq_bl, eq_str, is_bl, is_nn, is_in, is_bn, is_sn, is_tn, is_ln, is_rn, t_non, t_bl, t_int, t_tup, t_rol, b_add, b_sub, b_mul, b_mod, b_fdiv, b_pow, b_addT, b_addS, b_mulT, b_mulSame, f_lenT, f_lenL, f_abs, f_max, f_min, f_int, f_intB, f_tupT, f_lstT, f_lstR, f_lenR, f_tupR, f_sum, f_all, f_any, f_anyT, f_allT, f_repr, x_tup, x_rol, x_ref, l_tup, l_ref, r_tup, m_app, m_ext, m_pop, m_cnt, p_app, p_ext, p_pop, p_cnt, s_tup, s_rol, s_ref, y_ii, y_ib, y_it, y_il, y_bi, y_bb, y_bt, y_tt, y_ti, y_tb, y_tl, y_ni, y_nt, x_set, a_add, a_sub, g_name, g_many, g_nil, g_cons, startP, wipeP, Tg.slots, List.map_cons, List.map_nil, List.length_cons, List.length_nil, List.replicate_succ, List.replicate_zero, List.cons_append, List.nil_append, List.getElem?_cons_zero, List.getElem?_cons_succ, Option.join_some, List.set_cons_zero, List.set_cons_succ, Bool.true_eq_false, reduceCtorEq, Option.map_some, Option.bind_some, Nat.reduceAdd, Nat.reduceSub, Nat.zero_add, Bool.not_true, Bool.not_false, Bool.false_eq_true, true_implies, false_implies, implies_true, and_true, true_and, not_true_eq_false, not_false_eq_true, decide_eq_true_eq, Bool.not_eq_true', Bool.not_eq_false', decide_eq_false_iff_not, iL_empty, eq_iT, gc_11, gc_0, gc_1, gc_12, getP_none, lst_new, iL_ints]
      rw [decide_eq_true hs]
      exact hP _ (hg.new.trans hg'.new)
/-! ### words -/
/-- one letter goes on the list at n: popped or appended -/
theorem push_neg {C : Ctx} {N : PEnv → IH → Prop} {Rt : PV → IH → Prop} {B Ct : PEnv → IH → Prop} {ρ : PEnv} {h : IH} {i j n : Nat} {s : List Int} {x : Int} (hi : ρ[i]?.join = some (.ref n)) (hj : ρ[j]?.join = some (.int x)) (hs : lstAt h n = some (iL s.reverse)) (hl : s.length < 1000000)
    (hN : ∀ h', Gr [n] h h' → lstAt h' n = some (iL (push s x).reverse) → N ρ h') :
    wpS (exS C (.ifs (.and (.cons (.cmp .ne (.v i) (.lst .nil)) (.cons (.cmp .eq (.ix (.v i) (.neg (.int 1))) (.neg (.v j))) .nil))) (.cons (.expr (.meth .pop (.v i) .nil)) .nil) (.cons (.expr (.meth .append (.v i) (.cons (.v j) .nil))) .nil)) ρ h) N Rt B Ct := by
  have hn : n < h.length := lstAt_lt hs
  have e0 : lstAt (h ++ [Cell.lst []]) n = some (iL s.reverse) := by rw [lst_old hn]; exact hs
  simp -implicitDefEqProofs only [w_cons, w_nil, w_set, w_asg, w_par2, w_par3, w_setix, w_aug, w_expr, w_ret, w_retN, w_ifs, w_brk, w_cnt, w_pass, w_raise, w_for, w_whl, e_v, e_gc, e_int, e_str, e_bl, e_non, e_neg, e_not, e_bin, e_cmp, e_chain, e_and1, e_and2, e_or1, e_or2, e_and, e_or, e_ite, e_T, e_call, e_callv, e_bi, e_isi, e_meth, e_ix, e_slF, e_slT, e_slB, e_slN, e_rev, e_tup, e_lst, e_lc, e_lcIf, es_nil, es_cons, i_val, i_rng1, i_rng2, i_zip, getP_some, getP_map, getP_bind, getP_ite, asI_int, asF_fn, asT_tup, wpE_ok, step_name, step_many, c_eq, c_ne, c_lt, c_le, c_gt, c_ge, c_is, c_isNot, eq_int, eq_bl, eq_str, is_bl, is_nn, is_in, is_bn, is_sn, is_tn, is_ln, is_rn, t_non, t_bl, t_int, t_tup, t_rol, b_add, b_sub, b_mul, b_mod, b_fdiv, b_pow, b_addT, b_addS, b_mulT, b_mulSame, f_lenT, f_lenL, f_abs, f_max, f_min, f_int, f_intB, f_tupT, f_lstT, f_lstR, f_lenR, f_tupR, f_sum, f_all, f_any, f_anyT, f_allT, f_repr, x_tup, x_rol, x_ref, l_tup, l_ref, r_tup, m_app, m_ext, m_pop, m_cnt, p_app, p_ext, p_pop, p_cnt, s_tup, s_rol, s_ref, y_ii, y_ib, y_it, y_il, y_bi, y_bb, y_bt, y_tt, y_ti, y_tb, y_tl, y_ni, y_nt, x_set, a_add, a_sub, g_name, g_many, g_nil, g_cons, startP, wipeP, Tg.slots, List.map_cons, List.map_nil, List.length_cons, List.length_nil, List.replicate_succ, List.replicate_zero, List.cons_append, List.nil_append, List.getElem?_cons_zero, List.getElem?_cons_succ, Option.join_some, List.set_cons_zero, List.set_cons_succ, Bool.true_eq_false, reduceCtorEq, Option.map_some, Option.bind_some, Nat.reduceAdd, Nat.reduceSub, Nat.zero_add, Bool.not_true, Bool.not_false, Bool.false_eq_true, true_implies, false_implies, implies_true, and_true, true_and, not_true_eq_false, not_false_eq_true, decide_eq_true_eq, Bool.not_eq_true', Bool.not_eq_false', decide_eq_false_iff_not, iL_empty, eq_iT, gc_11, gc_0, gc_1, gc_12, getP_none, hi, hj, e0, eq_lsts (w := []) e0 lst_new]
  refine ⟨Nat.zero_le _, ?_⟩
  cases s with
  | nil =>
    simp -implicitDefEqProofs only [List.reverse_nil, decide_true, w_cons, w_nil, w_set, w_asg, w_par2, w_par3, w_setix, w_aug, w_expr, w_ret, w_retN, w_ifs, w_brk, w_cnt, w_pass, w_raise, w_for, w_whl, e_v, e_gc, e_int, e_str, e_bl, e_non, e_neg, e_not, e_bin, e_cmp, e_chain, e_and1, e_and2, e_or1, e_or2, e_and, e_or, e_ite, e_T, e_call, e_callv, e_bi, e_isi, e_meth, e_ix, e_slF, e_slT, e_slB, e_slN, e_rev, e_tup, e_lst, e_lc, e_lcIf, es_nil, es_cons, i_val, i_rng1, i_rng2, i_zip, getP_some, getP_map, getP_bind, getP_ite, asI_int, asF_fn, asT_tup, wpE_ok, step_name, step_many, c_eq, c_ne, c_lt, c_le, c_gt, c_ge, c_is, c_isNot, eq_int, eq_bl, eq_str, is_bl, is_nn, is_in, is_bn, is_sn, is_tn, is_ln, is_rn, t_non, t_bl, t_int, t_tup, t_rol, b_add, b_sub, b_mul, b_mod, b_fdiv, b_pow, b_addT, b_addS, b_mulT, b_mulSame, f_lenT, f_lenL, f_abs, f_max, f_min, f_int, f_intB, f_tupT, f_lstT, f_lstR, f_lenR, f_tupR, f_sum, f_all, f_any, f_anyT, f_allT, f_repr, x_tup, x_rol, x_ref, l_tup, l_ref, r_tup, m_app, m_ext, m_pop, m_cnt, p_app, p_ext, p_pop, p_cnt, s_tup, s_rol, s_ref, y_ii, y_ib, y_it, y_il, y_bi, y_bb, y_bt, y_tt, y_ti, y_tb, y_tl, y_ni, y_nt, x_set, a_add, a_sub, g_name, g_many, g_nil, g_cons, startP, wipeP, Tg.slots, List.map_cons, List.map_nil, List.length_cons, List.length_nil, List.replicate_succ, List.replicate_zero, List.cons_append, List.nil_append, List.getElem?_cons_zero, List.getElem?_cons_succ, Option.join_some, List.set_cons_zero, List.set_cons_succ, Bool.true_eq_false, reduceCtorEq, Option.map_some, Option.bind_some, Nat.reduceAdd, Nat.reduceSub, Nat.zero_add, Bool.not_true, Bool.not_false, Bool.false_eq_true, true_implies, false_implies, implies_true, and_true, true_and, not_true_eq_false, not_false_eq_true, decide_eq_true_eq, Bool.not_eq_true', Bool.not_eq_false', decide_eq_false_iff_not, iL_empty, eq_iT, gc_11, gc_0, gc_1, gc_12, getP_none]
    refine ⟨szl (by simp [iL]), hN _ (Gr.set_in (n := n) (Gr.new .refl) (by simp)) ?_⟩
    rw [lst_set (by simp; omega)]
    rfl
  | cons y s =>
    have e1 : iL (y :: s).reverse = iL s.reverse ++ [.int y] := by simp [iL]
    have ne : (y :: s).reverse ≠ [] := by simp
    simp -implicitDefEqProofs only [e1, L2.atI_last, w_cons, w_nil, w_set, w_asg, w_par2, w_par3, w_setix, w_aug, w_expr, w_ret, w_retN, w_ifs, w_brk, w_cnt, w_pass, w_raise, w_for, w_whl, e_v, e_gc, e_int, e_str, e_bl, e_non, e_neg, e_not, e_bin, e_cmp, e_chain, e_and1, e_and2, e_or1, e_or2, e_and, e_or, e_ite, e_T, e_call, e_callv, e_bi, e_isi, e_meth, e_ix, e_slF, e_slT, e_slB, e_slN, e_rev, e_tup, e_lst, e_lc, e_lcIf, es_nil, es_cons, i_val, i_rng1, i_rng2, i_zip, getP_some, getP_map, getP_bind, getP_ite, asI_int, asF_fn, asT_tup, wpE_ok, step_name, step_many, c_eq, c_ne, c_lt, c_le, c_gt, c_ge, c_is, c_isNot, eq_int, eq_bl, eq_str, is_bl, is_nn, is_in, is_bn, is_sn, is_tn, is_ln, is_rn, t_non, t_bl, t_int, t_tup, t_rol, b_add, b_sub, b_mul, b_mod, b_fdiv, b_pow, b_addT, b_addS, b_mulT, b_mulSame, f_lenT, f_lenL, f_abs, f_max, f_min, f_int, f_intB, f_tupT, f_lstT, f_lstR, f_lenR, f_tupR, f_sum, f_all, f_any, f_anyT, f_allT, f_repr, x_tup, x_rol, x_ref, l_tup, l_ref, r_tup, m_app, m_ext, m_pop, m_cnt, p_app, p_ext, p_pop, p_cnt, s_tup, s_rol, s_ref, y_ii, y_ib, y_it, y_il, y_bi, y_bb, y_bt, y_tt, y_ti, y_tb, y_tl, y_ni, y_nt, x_set, a_add, a_sub, g_name, g_many, g_nil, g_cons, startP, wipeP, Tg.slots, List.map_cons, List.map_nil, List.length_cons, List.length_nil, List.replicate_succ, List.replicate_zero, List.cons_append, List.nil_append, List.getElem?_cons_zero, List.getElem?_cons_succ, Option.join_some, List.set_cons_zero, List.set_cons_succ, Bool.true_eq_false, reduceCtorEq, Option.map_some, Option.bind_some, Nat.reduceAdd, Nat.reduceSub, Nat.zero_add, Bool.not_true, Bool.not_false, Bool.false_eq_true, true_implies, false_implies, implies_true, and_true, true_and, not_true_eq_false, not_false_eq_true, decide_eq_true_eq, Bool.not_eq_true', Bool.not_eq_false', decide_eq_false_iff_not, iL_empty, eq_iT, gc_11, gc_0, gc_1, gc_12, getP_none]
    by_cases hy : y = -x
    · refine ⟨fun _ => brY hy ?_, fun z => absurd z ne⟩
      simp -implicitDefEqProofs only [w_cons, w_nil, w_set, w_asg, w_par2, w_par3, w_setix, w_aug, w_expr, w_ret, w_retN, w_ifs, w_brk, w_cnt, w_pass, w_raise, w_for, w_whl, e_v, e_gc, e_int, e_str, e_bl, e_non, e_neg, e_not, e_bin, e_cmp, e_chain, e_and1, e_and2, e_or1, e_or2, e_and, e_or, e_ite, e_T, e_call, e_callv, e_bi, e_isi, e_meth, e_ix, e_slF, e_slT, e_slB, e_slN, e_rev, e_tup, e_lst, e_lc, e_lcIf, es_nil, es_cons, i_val, i_rng1, i_rng2, i_zip, getP_some, getP_map, getP_bind, getP_ite, asI_int, asF_fn, asT_tup, wpE_ok, step_name, step_many, c_eq, c_ne, c_lt, c_le, c_gt, c_ge, c_is, c_isNot, eq_int, eq_bl, eq_str, is_bl, is_nn, is_in, is_bn, is_sn, is_tn, is_ln, is_rn, t_non, t_bl, t_int, t_tup, t_rol, b_add, b_sub, b_mul, b_mod, b_fdiv, b_pow, b_addT, b_addS, b_mulT, b_mulSame, f_lenT, f_lenL, f_abs, f_max, f_min, f_int, f_intB, f_tupT, f_lstT, f_lstR, f_lenR, f_tupR, f_sum, f_all, f_any, f_anyT, f_allT, f_repr, x_tup, x_rol, x_ref, l_tup, l_ref, r_tup, m_app, m_ext, m_pop, m_cnt, p_app, p_ext, p_pop, p_cnt, s_tup, s_rol, s_ref, y_ii, y_ib, y_it, y_il, y_bi, y_bb, y_bt, y_tt, y_ti, y_tb, y_tl, y_ni, y_nt, x_set, a_add, a_sub, g_name, g_many, g_nil, g_cons, startP, wipeP, Tg.slots, List.map_cons, List.map_nil, List.length_cons, List.length_nil, List.replicate_succ, List.replicate_zero, List.cons_append, List.nil_append, List.getElem?_cons_zero, List.getElem?_cons_succ, Option.join_some, List.set_cons_zero, List.set_cons_succ, Bool.true_eq_false, reduceCtorEq, Option.map_some, Option.bind_some, Nat.reduceAdd, Nat.reduceSub, Nat.zero_add, Bool.not_true, Bool.not_false, Bool.false_eq_true, true_implies, false_implies, implies_true, and_true, true_and, not_true_eq_false, not_false_eq_true, decide_eq_true_eq, Bool.not_eq_true', Bool.not_eq_false', decide_eq_false_iff_not, iL_empty, eq_iT, gc_11, gc_0, gc_1, gc_12, getP_none, e0, e1, List.getLast?_append, List.getLast?_singleton, Option.some_or, List.dropLast_concat]
      refine hN _ (Gr.set_in (n := n) (Gr.new .refl) (by simp)) ?_
      rw [lst_set (by simp; omega)]
      simp [push, hy]
    · refine ⟨fun _ => brN hy ?_, fun z => absurd z ne⟩
      refine ⟨szl (by simp [iL] at hl ⊢; omega), hN _ (Gr.set_in (n := n) (Gr.new .refl) (by simp)) ?_⟩
      rw [lst_set (by simp; omega)]
      simp [push, hy, iL]
theorem sp_shortened_in (w : List Int) (hl : w.length < 1000000) (hP : ∀ h', Gr [] h h' → P (iT (sh w)) h') : wpE (run GT GC GF (d + 1) 20 [iT w] h) P := by
  rw [run_in (F := F20) rfl rfl]
  simp -implicitDefEqProofs only [F20, b20_0, b20_1, w_cons, w_nil, w_set, w_asg, w_par2, w_par3, w_setix, w_aug, w_expr, w_ret, w_retN, w_ifs, w_brk, w_cnt, w_pass, w_raise, w_for, w_whl, e_v, e_gc, e_int, e_str, e_bl, e_non, e_neg, e_not, e_bin, e_cmp, e_chain, e_and1, e_and2, e_or1, e_or2, e_and, e_or, e_ite, e_T, e_call, e_callv, e_bi, e_isi, e_meth, e_ix, e_slF, e_slT, e_slB, e_slN, e_rev, e_tup, e_lst, e_lc, e_lcIf, es_nil, es_cons, i_val, i_rng1, i_rng2, i_zip, getP_some, getP_map, getP_bind, getP_ite, asI_int, asF_fn, asT_tup, wpE_ok, step_name, step_many, c_eq, c_ne, c_lt, c_le, c_gt, c_ge, c_is, c_isNot, eq_int, eq_bl, eq_str, is_bl, is_nn, is_in, is_bn, is_sn, is_tn, is_ln, is_rn, t_non, t_bl, t_int, t_tup, t_rol, b_add, b_sub, b_mul, b_mod, b_fdiv, b_pow, b_addT, b_addS, b_mulT, b_mulSame, f_lenT, f_lenL, f_abs, f_max, f_min, f_int, f_intB, f_tupT, f_lstT, f_lstR, f_lenR, f_tupR, f_sum, f_all, f_any, f_anyT, f_allT, f_repr, x_tup, x_rol, x_ref, l_tup, l_ref, r_tup, m_app, m_ext, m_pop, m_cnt, p_app, p_ext, p_pop, p_cnt, s_tup, s_rol, s_ref, y_ii, y_ib, y_it, y_il, y_bi, y_bb, y_bt, y_tt, y_ti, y_tb, y_tl, y_ni, y_nt, x_set, a_add, a_sub, g_name, g_many, g_nil, g_cons, startP, wipeP, Tg.slots, List.map_cons, List.map_nil, List.length_cons, List.length_nil, List.replicate_succ, List.replicate_zero, List.cons_append, List.nil_append, List.getElem?_cons_zero, List.getElem?_cons_succ, Option.join_some, List.set_cons_zero, List.set_cons_succ, Bool.true_eq_false, reduceCtorEq, Option.map_some, Option.bind_some, Nat.reduceAdd, Nat.reduceSub, Nat.zero_add, Bool.not_true, Bool.not_false, Bool.false_eq_true, true_implies, false_implies, implies_true, and_true, true_and, not_true_eq_false, not_false_eq_true, decide_eq_true_eq, Bool.not_eq_true', Bool.not_eq_false', decide_eq_false_iff_not, iL_empty, eq_iT, gc_11, gc_0, gc_1, gc_12, getP_none]
  refine ⟨Nat.zero_le _, ?_⟩
  refine for_fix (fun i ρ h' => ∃ o, ρ = [some (iT w), some (.ref h.length), o] ∧ lstAt h' h.length = some (iL (st [] (w.take i)).reverse) ∧ Gr [] h h') ⟨none, rfl, lst_new, Gr.new .refl⟩ (fun i x ρ h' hx hI => ?_) (fun ρ h' hI => ?_) (gf (by rw [iL_len]; omega))
  · obtain ⟨o, rfl, hs, hg⟩ := hI
    obtain ⟨z, hz, rfl⟩ := iL_get hx
    have lt : i < w.length := (List.getElem?_eq_some_iff.mp hz).1
    simp only [g_name, getP_some, l20_0_0, w_cons, w_nil, List.set_cons_zero, List.set_cons_succ]
    refine push_neg (s := st [] (w.take i)) (x := z) (n := h.length) rfl rfl hs ?_ fun h'' hg' hs' => ?_
    · have := st_len (w.take i) []
      rw [List.length_take] at this
      simp at this
      omega
    · refine ⟨_, rfl, ?_, ⟨Nat.le_trans hg.1 hg'.1, fun k hk _ => by rw [hg'.2 k (Nat.lt_of_lt_of_le hk hg.1) (by simp; omega)]; exact hg.2 k hk (by simp)⟩⟩
      rw [List.take_add_one, hz, Option.toList, st_snoc]
      exact hs'
  · obtain ⟨o, rfl, hs, hg⟩ := hI
    rw [iL_len, List.take_length] at hs
    simp -implicitDefEqProofs only [b20_2, w_cons, w_nil, w_set, w_asg, w_par2, w_par3, w_setix, w_aug, w_expr, w_ret, w_retN, w_ifs, w_brk, w_cnt, w_pass, w_raise, w_for, w_whl, e_v, e_gc, e_int, e_str, e_bl, e_non, e_neg, e_not, e_bin, e_cmp, e_chain, e_and1, e_and2, e_or1, e_or2, e_and, e_or, e_ite, e_T, e_call, e_callv, e_bi, e_isi, e_meth, e_ix, e_slF, e_slT, e_slB, e_slN, e_rev, e_tup, e_lst, e_lc, e_lcIf, es_nil, es_cons, i_val, i_rng1, i_rng2, i_zip, getP_some, getP_map, getP_bind, getP_ite, asI_int, asF_fn, asT_tup, wpE_ok, step_name, step_many, c_eq, c_ne, c_lt, c_le, c_gt, c_ge, c_is, c_isNot, eq_int, eq_bl, eq_str, is_bl, is_nn, is_in, is_bn, is_sn, is_tn, is_ln, is_rn, t_non, t_bl, t_int, t_tup, t_rol, b_add, b_sub, b_mul, b_mod, b_fdiv, b_pow, b_addT, b_addS, b_mulT, b_mulSame, f_lenT, f_lenL, f_abs, f_max, f_min, f_int, f_intB, f_tupT, f_lstT, f_lstR, f_lenR, f_tupR, f_sum, f_all, f_any, f_anyT, f_allT, f_repr, x_tup, x_rol, x_ref, l_tup, l_ref, r_tup, m_app, m_ext, m_pop, m_cnt, p_app, p_ext, p_pop, p_cnt, s_tup, s_rol, s_ref, y_ii, y_ib, y_it, y_il, y_bi, y_bb, y_bt, y_tt, y_ti, y_tb, y_tl, y_ni, y_nt, x_set, a_add, a_sub, g_name, g_many, g_nil, g_cons, startP, wipeP, Tg.slots, List.map_cons, List.map_nil, List.length_cons, List.length_nil, List.replicate_succ, List.replicate_zero, List.cons_append, List.nil_append, List.getElem?_cons_zero, List.getElem?_cons_succ, Option.join_some, List.set_cons_zero, List.set_cons_succ, Bool.true_eq_false, reduceCtorEq, Option.map_some, Option.bind_some, Nat.reduceAdd, Nat.reduceSub, Nat.zero_add, Bool.not_true, Bool.not_false, Bool.false_eq_true, true_implies, false_implies, implies_true, and_true, true_and, not_true_eq_false, not_false_eq_true, decide_eq_true_eq, Bool.not_eq_true', Bool.not_eq_false', decide_eq_false_iff_not, iL_empty, eq_iT, gc_11, gc_0, gc_1, gc_12, getP_none, hs]
    exact hP _ hg
end
end Pi

-- w_cons, w_nil, w_set, w_asg, w_par2, w_par3, w_setix, w_aug, w_expr, w_ret, w_retN, w_ifs, w_brk, w_cnt, w_pass, w_raise, w_for, w_whl, e_v, e_gc, e_int, e_str, e_bl, e_non, e_neg, e_not, e_bin, e_cmp, e_chain, e_and1, e_and2, e_or1, e_or2, e_and, e_or, e_ite, e_T, e_call, e_callv, e_bi, e_isi, e_meth, e_ix, e_slF, e_slT, e_slB, e_slN, e_rev, e_tup, e_lst, e_lc, e_lcIf, es_nil, es_cons, i_val, i_rng1, i_rng2, i_zip, getP_some, getP_map, getP_bind, getP_ite, asI_int, asF_fn, asT_tup, wpE_ok, step_name, step_many, c_eq, c_ne, c_lt, c_le, c_gt, c_ge, c_is, c_isNot, eq_int, eq_bl, eq_str, is_bl, is_nn, is_in, is_bn, is_sn, is_tn, is_ln, is_rn, t_non, t_bl, t_int, t_tup, t_rol, b_add, b_sub, b_mul, b_mod, b_fdiv, b_pow, b_addT, b_addS, b_mulT, b_mulSame, f_lenT, f_lenL, f_abs, f_max, f_min, f_int, f_intB, f_tupT, f_lstT, f_lstR, f_lenR, f_tupR, f_sum, f_all, f_any, f_anyT, f_allT, f_repr, x_tup, x_rol, x_ref, l_tup, l_ref, r_tup, m_app, m_ext, m_pop, m_cnt, p_app, p_ext, p_pop, p_cnt, s_tup, s_rol, s_ref, y_ii, y_ib, y_it, y_il, y_bi, y_bb, y_bt, y_tt, y_ti, y_tb, y_tl, y_ni, y_nt, x_set, a_add, a_sub, g_name, g_many, g_nil, g_cons, startP, wipeP, Tg.slots, List.map_cons, List.map_nil, List.length_cons, List.length_nil, List.replicate_succ, List.replicate_zero, List.cons_append, List.nil_append, List.getElem?_cons_zero, List.getElem?_cons_succ, Option.join_some, List.set_cons_zero, List.set_cons_succ, Bool.true_eq_false, reduceCtorEq, Option.map_some, Option.bind_some, Nat.reduceAdd, Nat.reduceSub, Nat.zero_add, Bool.not_true, Bool.not_false, Bool.false_eq_true, true_implies, false_implies, implies_true, and_true, true_and, not_true_eq_false, not_false_eq_true, decide_eq_true_eq, Bool.not_eq_true', Bool.not_eq_false', decide_eq_false_iff_not, iL_empty, eq_iT, gc_11, gc_0, gc_1, gc_12, getP_none+: gc_11 gc_0 gc_1 gc_12
set_option Elab.async false
set_option linter.all false
set_option maxRecDepth 100000
set_option maxHeartbeats 8000000
/-! runs: words, told. -/
namespace Pi
open PySem Wm
section
variable {d : Nat} {h : IH} {P : PV → IH → Prop}
theorem un_get {w : List Int} {i : Nat} {x : Int} (h : w.reverse[i]? = some x) : (un w)[i]? = some (-x) := by
  unfold un
  rw [List.getElem?_map, h]
  rfl
theorem map_get {w : List Int} {f : Int → Int} {i : Nat} {x : Int} {y : PV} (h : w[i]? = some x) (h2 : (iL (w.map f))[i]? = some y) : y = .int (f x) := by
  obtain ⟨z, hz, rfl⟩ := iL_get h2
  rw [List.getElem?_map, h] at hz
  cases hz
  rfl
theorem sp_undone_in (w : List Int) (hl : w.length < 1000000) (hP : ∀ h', Gr [] h h' → P (iT (un w)) h') : wpE (run GT GC GF (d + 1) 21 [iT w] h) P := by
  rw [run_in (F := F21) rfl rfl]
  simp -implicitDefEqProofs only [F21, b21_0, w_cons, w_nil, w_set, w_asg, w_par2, w_par3, w_setix, w_aug, w_expr, w_ret, w_retN, w_ifs, w_brk, w_cnt, w_pass, w_raise, w_for, w_whl, e_v, e_gc, e_int, e_str, e_bl, e_non, e_neg, e_not, e_bin, e_cmp, e_chain, e_and1, e_and2, e_or1, e_or2, e_and, e_or, e_ite, e_T, e_call, e_callv, e_bi, e_isi, e_meth, e_ix, e_slF, e_slT, e_slB, e_slN, e_rev, e_tup, e_lst, e_lc, e_lcIf, es_nil, es_cons, i_val, i_rng1, i_rng2, i_zip, getP_some, getP_map, getP_bind, getP_ite, asI_int, asF_fn, asT_tup, wpE_ok, step_name, step_many, c_eq, c_ne, c_lt, c_le, c_gt, c_ge, c_is, c_isNot, eq_int, eq_bl, eq_str, is_bl, is_nn, is_in, is_bn, is_sn, is_tn, is_ln, is_rn, t_non, t_bl, t_int, t_tup, t_rol, b_add, b_sub, b_mul, b_mod, b_fdiv, b_pow, b_addT, b_addS, b_mulT, b_mulSame, f_lenT, f_lenL, f_abs, f_max, f_min, f_int, f_intB, f_tupT, f_lstT, f_lstR, f_lenR, f_tupR, f_sum, f_all, f_any, f_anyT, f_allT, f_repr, x_tup, x_rol, x_ref, l_tup, l_ref, r_tup, m_app, m_ext, m_pop, m_cnt, p_app, p_ext, p_pop, p_cnt, s_tup, s_rol, s_ref, y_ii, y_ib, y_it, y_il, y_bi, y_bb, y_bt, y_tt, y_ti, y_tb, y_tl, y_ni, y_nt, x_set, a_add, a_sub, g_name, g_many, g_nil, g_cons, startP, wipeP, Tg.slots, List.map_cons, List.map_nil, List.length_cons, List.length_nil, List.replicate_succ, List.replicate_zero, List.cons_append, List.nil_append, List.getElem?_cons_zero, List.getElem?_cons_succ, Option.join_some, List.set_cons_zero, List.set_cons_succ, Bool.true_eq_false, reduceCtorEq, Option.map_some, Option.bind_some, Nat.reduceAdd, Nat.reduceSub, Nat.zero_add, Bool.not_true, Bool.not_false, Bool.false_eq_true, true_implies, false_implies, implies_true, and_true, true_and, not_true_eq_false, not_false_eq_true, decide_eq_true_eq, Bool.not_eq_true', Bool.not_eq_false', decide_eq_false_iff_not, iL_empty, eq_iT, gc_11, gc_0, gc_1, gc_12, getP_none, iL_rev]
  refine lc_map (ys := iL (un w)) [] (by simp [iL_len, un]) (fun i x y h' hx hy hg => ?_) (fun h' hg => ?_) (by rw [iL_len]; exact sz (by simp; omega)) (gf (by rw [iL_len]; simp; omega))
  · obtain ⟨z, hz, rfl⟩ := iL_get hx
    rw [map_get hz hy]
    (try simp -implicitDefEqProofs only [w_cons, w_nil, w_set, w_asg, w_par2, w_par3, w_setix, w_aug, w_expr, w_ret, w_retN, w_ifs, w_brk, w_cnt, w_pass, w_raise, w_for, w_whl, e_v, e_gc, e_int, e_str, e_bl, e_non, e_neg, e_not, e_bin, e_cmp, e_chain, e_and1, e_and2, e_or1, e_or2, e_and, e_or, e_ite, e_T, e_call, e_callv, e_bi, e_isi, e_meth, e_ix, e_slF, e_slT, e_slB, e_slN, e_rev, e_tup, e_lst, e_lc, e_lcIf, es_nil, es_cons, i_val, i_rng1, i_rng2, i_zip, getP_some, getP_map, getP_bind, getP_ite, asI_int, asF_fn, asT_tup, wpE_ok, step_name, step_many, c_eq, c_ne, c_lt, c_le, c_gt, c_ge, c_is, c_isNot, eq_int, eq_bl, eq_str, is_bl, is_nn, is_in, is_bn, is_sn, is_tn, is_ln, is_rn, t_non, t_bl, t_int, t_tup, t_rol, b_add, b_sub, b_mul, b_mod, b_fdiv, b_pow, b_addT, b_addS, b_mulT, b_mulSame, f_lenT, f_lenL, f_abs, f_max, f_min, f_int, f_intB, f_tupT, f_lstT, f_lstR, f_lenR, f_tupR, f_sum, f_all, f_any, f_anyT, f_allT, f_repr, x_tup, x_rol, x_ref, l_tup, l_ref, r_tup, m_app, m_ext, m_pop, m_cnt, p_app, p_ext, p_pop, p_cnt, s_tup, s_rol, s_ref, y_ii, y_ib, y_it, y_il, y_bi, y_bb, y_bt, y_tt, y_ti, y_tb, y_tl, y_ni, y_nt, x_set, a_add, a_sub, g_name, g_many, g_nil, g_cons, startP, wipeP, Tg.slots, List.map_cons, List.map_nil, List.length_cons, List.length_nil, List.replicate_succ, List.replicate_zero, List.cons_append, List.nil_append, List.getElem?_cons_zero, List.getElem?_cons_succ, Option.join_some, List.set_cons_zero, List.set_cons_succ, Bool.true_eq_false, reduceCtorEq, Option.map_some, Option.bind_some, Nat.reduceAdd, Nat.reduceSub, Nat.zero_add, Bool.not_true, Bool.not_false, Bool.false_eq_true, true_implies, false_implies, implies_true, and_true, true_and, not_true_eq_false, not_false_eq_true, decide_eq_true_eq, Bool.not_eq_true', Bool.not_eq_false', decide_eq_false_iff_not, iL_empty, eq_iT, gc_11, gc_0, gc_1, gc_12, getP_none])
    exact hg
  · simp -implicitDefEqProofs only [w_cons, w_nil, w_set, w_asg, w_par2, w_par3, w_setix, w_aug, w_expr, w_ret, w_retN, w_ifs, w_brk, w_cnt, w_pass, w_raise, w_for, w_whl, e_v, e_gc, e_int, e_str, e_bl, e_non, e_neg, e_not, e_bin, e_cmp, e_chain, e_and1, e_and2, e_or1, e_or2, e_and, e_or, e_ite, e_T, e_call, e_callv, e_bi, e_isi, e_meth, e_ix, e_slF, e_slT, e_slB, e_slN, e_rev, e_tup, e_lst, e_lc, e_lcIf, es_nil, es_cons, i_val, i_rng1, i_rng2, i_zip, getP_some, getP_map, getP_bind, getP_ite, asI_int, asF_fn, asT_tup, wpE_ok, step_name, step_many, c_eq, c_ne, c_lt, c_le, c_gt, c_ge, c_is, c_isNot, eq_int, eq_bl, eq_str, is_bl, is_nn, is_in, is_bn, is_sn, is_tn, is_ln, is_rn, t_non, t_bl, t_int, t_tup, t_rol, b_add, b_sub, b_mul, b_mod, b_fdiv, b_pow, b_addT, b_addS, b_mulT, b_mulSame, f_lenT, f_lenL, f_abs, f_max, f_min, f_int, f_intB, f_tupT, f_lstT, f_lstR, f_lenR, f_tupR, f_sum, f_all, f_any, f_anyT, f_allT, f_repr, x_tup, x_rol, x_ref, l_tup, l_ref, r_tup, m_app, m_ext, m_pop, m_cnt, p_app, p_ext, p_pop, p_cnt, s_tup, s_rol, s_ref, y_ii, y_ib, y_it, y_il, y_bi, y_bb, y_bt, y_tt, y_ti, y_tb, y_tl, y_ni, y_nt, x_set, a_add, a_sub, g_name, g_many, g_nil, g_cons, startP, wipeP, Tg.slots, List.map_cons, List.map_nil, List.length_cons, List.length_nil, List.replicate_succ, List.replicate_zero, List.cons_append, List.nil_append, List.getElem?_cons_zero, List.getElem?_cons_succ, Option.join_some, List.set_cons_zero, List.set_cons_succ, Bool.true_eq_false, reduceCtorEq, Option.map_some, Option.bind_some, Nat.reduceAdd, Nat.reduceSub, Nat.zero_add, Bool.not_true, Bool.not_false, Bool.false_eq_true, true_implies, false_implies, implies_true, and_true, true_and, not_true_eq_false, not_false_eq_true, decide_eq_true_eq, Bool.not_eq_true', Bool.not_eq_false', decide_eq_false_iff_not, iL_empty, eq_iT, gc_11, gc_0, gc_1, gc_12, getP_none, lst_new]
    exact hP _ hg.new
theorem sp_product_in (ws : List (List Int)) (hl : ws.flatten.length < 1000000) (hl2 : ws.length < 1000000) (hP : ∀ h', Gr [] h h' → P (iT (sh ws.flatten)) h') : wpE (run GT GC GF (d + 1) 22 [wT ws] h) P := by
  rw [run_in (F := F22) rfl rfl]
  simp -implicitDefEqProofs only [F22, b22_0, b22_1, w_cons, w_nil, w_set, w_asg, w_par2, w_par3, w_setix, w_aug, w_expr, w_ret, w_retN, w_ifs, w_brk, w_cnt, w_pass, w_raise, w_for, w_whl, e_v, e_gc, e_int, e_str, e_bl, e_non, e_neg, e_not, e_bin, e_cmp, e_chain, e_and1, e_and2, e_or1, e_or2, e_and, e_or, e_ite, e_T, e_call, e_callv, e_bi, e_isi, e_meth, e_ix, e_slF, e_slT, e_slB, e_slN, e_rev, e_tup, e_lst, e_lc, e_lcIf, es_nil, es_cons, i_val, i_rng1, i_rng2, i_zip, getP_some, getP_map, getP_bind, getP_ite, asI_int, asF_fn, asT_tup, wpE_ok, step_name, step_many, c_eq, c_ne, c_lt, c_le, c_gt, c_ge, c_is, c_isNot, eq_int, eq_bl, eq_str, is_bl, is_nn, is_in, is_bn, is_sn, is_tn, is_ln, is_rn, t_non, t_bl, t_int, t_tup, t_rol, b_add, b_sub, b_mul, b_mod, b_fdiv, b_pow, b_addT, b_addS, b_mulT, b_mulSame, f_lenT, f_lenL, f_abs, f_max, f_min, f_int, f_intB, f_tupT, f_lstT, f_lstR, f_lenR, f_tupR, f_sum, f_all, f_any, f_anyT, f_allT, f_repr, x_tup, x_rol, x_ref, l_tup, l_ref, r_tup, m_app, m_ext, m_pop, m_cnt, p_app, p_ext, p_pop, p_cnt, s_tup, s_rol, s_ref, y_ii, y_ib, y_it, y_il, y_bi, y_bb, y_bt, y_tt, y_ti, y_tb, y_tl, y_ni, y_nt, x_set, a_add, a_sub, g_name, g_many, g_nil, g_cons, startP, wipeP, Tg.slots, List.map_cons, List.map_nil, List.length_cons, List.length_nil, List.replicate_succ, List.replicate_zero, List.cons_append, List.nil_append, List.getElem?_cons_zero, List.getElem?_cons_succ, Option.join_some, List.set_cons_zero, List.set_cons_succ, Bool.true_eq_false, reduceCtorEq, Option.map_some, Option.bind_some, Nat.reduceAdd, Nat.reduceSub, Nat.zero_add, Bool.not_true, Bool.not_false, Bool.false_eq_true, true_implies, false_implies, implies_true, and_true, true_and, not_true_eq_false, not_false_eq_true, decide_eq_true_eq, Bool.not_eq_true', Bool.not_eq_false', decide_eq_false_iff_not, iL_empty, eq_iT, gc_11, gc_0, gc_1, gc_12, getP_none]
  refine ⟨Nat.zero_le _, ?_⟩
  refine for_fix (fun i ρ h' => ∃ o o', ρ = [some (wT ws), some (.ref h.length), o, o'] ∧ lstAt h' h.length = some (iL (st [] (ws.take i).flatten).reverse) ∧ Gr [] h h') ⟨none, none, rfl, lst_new, Gr.new .refl⟩ (fun i x ρ h' hx hI => ?_) (fun ρ h' hI => ?_) (gf (by rw [wL_len]; omega))
  · obtain ⟨o, o', rfl, hs, hg⟩ := hI
    obtain ⟨w, hw, rfl⟩ := wL_get hx
    have lt : i < ws.length := (List.getElem?_eq_some_iff.mp hw).1
    have el : ∀ j, (ws.take i).flatten.length + (w.take j).length ≤ ws.flatten.length := fun j => by
      have e1 : ws = ws.take i ++ w :: ws.drop (i + 1) := by
        conv => lhs; rw [← List.take_append_drop i ws, List.drop_eq_getElem_cons lt]
        rw [(List.getElem?_eq_some_iff.mp hw).2]
      have e2 : ws.flatten.length = (ws.take i).flatten.length + w.length + (ws.drop (i + 1)).flatten.length := by
        conv => lhs; rw [e1]
        simp [Nat.add_assoc]
      rw [List.length_take] at *
      omega
    simp -implicitDefEqProofs only [w_cons, w_nil, w_set, w_asg, w_par2, w_par3, w_setix, w_aug, w_expr, w_ret, w_retN, w_ifs, w_brk, w_cnt, w_pass, w_raise, w_for, w_whl, e_v, e_gc, e_int, e_str, e_bl, e_non, e_neg, e_not, e_bin, e_cmp, e_chain, e_and1, e_and2, e_or1, e_or2, e_and, e_or, e_ite, e_T, e_call, e_callv, e_bi, e_isi, e_meth, e_ix, e_slF, e_slT, e_slB, e_slN, e_rev, e_tup, e_lst, e_lc, e_lcIf, es_nil, es_cons, i_val, i_rng1, i_rng2, i_zip, getP_some, getP_map, getP_bind, getP_ite, asI_int, asF_fn, asT_tup, wpE_ok, step_name, step_many, c_eq, c_ne, c_lt, c_le, c_gt, c_ge, c_is, c_isNot, eq_int, eq_bl, eq_str, is_bl, is_nn, is_in, is_bn, is_sn, is_tn, is_ln, is_rn, t_non, t_bl, t_int, t_tup, t_rol, b_add, b_sub, b_mul, b_mod, b_fdiv, b_pow, b_addT, b_addS, b_mulT, b_mulSame, f_lenT, f_lenL, f_abs, f_max, f_min, f_int, f_intB, f_tupT, f_lstT, f_lstR, f_lenR, f_tupR, f_sum, f_all, f_any, f_anyT, f_allT, f_repr, x_tup, x_rol, x_ref, l_tup, l_ref, r_tup, m_app, m_ext, m_pop, m_cnt, p_app, p_ext, p_pop, p_cnt, s_tup, s_rol, s_ref, y_ii, y_ib, y_it, y_il, y_bi, y_bb, y_bt, y_tt, y_ti, y_tb, y_tl, y_ni, y_nt, x_set, a_add, a_sub, g_name, g_many, g_nil, g_cons, startP, wipeP, Tg.slots, List.map_cons, List.map_nil, List.length_cons, List.length_nil, List.replicate_succ, List.replicate_zero, List.cons_append, List.nil_append, List.getElem?_cons_zero, List.getElem?_cons_succ, Option.join_some, List.set_cons_zero, List.set_cons_succ, Bool.true_eq_false, reduceCtorEq, Option.map_some, Option.bind_some, Nat.reduceAdd, Nat.reduceSub, Nat.zero_add, Bool.not_true, Bool.not_false, Bool.false_eq_true, true_implies, false_implies, implies_true, and_true, true_and, not_true_eq_false, not_false_eq_true, decide_eq_true_eq, Bool.not_eq_true', Bool.not_eq_false', decide_eq_false_iff_not, iL_empty, eq_iT, gc_11, gc_0, gc_1, gc_12, getP_none, l22_0_0]
    refine for_fix (fun j ρ h'' => ∃ o', ρ = [some (wT ws), some (.ref h.length), some (iT w), o'] ∧ lstAt h'' h.length = some (iL (st [] ((ws.take i).flatten ++ w.take j)).reverse) ∧ Gr [] h h'') ⟨o', rfl, by simpa using hs, hg⟩ (fun j x ρ h'' hx hI => ?_) (fun ρ h'' hI => ?_) (gf (by rw [iL_len]; have := el w.length; rw [List.take_length] at this; omega))
    · obtain ⟨o', rfl, hs, hg⟩ := hI
      obtain ⟨z, hz, rfl⟩ := iL_get hx
      simp only [g_name, getP_some, l22_1_0, w_cons, w_nil, List.set_cons_zero, List.set_cons_succ]
      refine push_neg (s := st [] ((ws.take i).flatten ++ w.take j)) (x := z) (n := h.length) rfl rfl hs ?_ fun h3 hg' hs' => ?_
      · have := st_len ((ws.take i).flatten ++ w.take j) []
        have := el j
        simp only [List.length_append, List.length_nil] at *
        omega
      · refine ⟨_, rfl, ?_, ⟨Nat.le_trans hg.1 hg'.1, fun k hk _ => by rw [hg'.2 k (Nat.lt_of_lt_of_le hk hg.1) (by simp; omega)]; exact hg.2 k hk (by simp)⟩⟩
        rw [List.take_add_one, hz, Option.toList, ← List.append_assoc, st_snoc]
        exact hs'
    · obtain ⟨o', rfl, hs, hg⟩ := hI
      rw [iL_len, List.take_length] at hs
      refine ⟨_, _, rfl, ?_, hg⟩
      rw [List.take_add_one, hw, Option.toList, List.flatten_append]
      simpa using hs
  · obtain ⟨o, o', rfl, hs, hg⟩ := hI
    rw [wL_len, List.take_length] at hs
    simp -implicitDefEqProofs only [b22_2, w_cons, w_nil, w_set, w_asg, w_par2, w_par3, w_setix, w_aug, w_expr, w_ret, w_retN, w_ifs, w_brk, w_cnt, w_pass, w_raise, w_for, w_whl, e_v, e_gc, e_int, e_str, e_bl, e_non, e_neg, e_not, e_bin, e_cmp, e_chain, e_and1, e_and2, e_or1, e_or2, e_and, e_or, e_ite, e_T, e_call, e_callv, e_bi, e_isi, e_meth, e_ix, e_slF, e_slT, e_slB, e_slN, e_rev, e_tup, e_lst, e_lc, e_lcIf, es_nil, es_cons, i_val, i_rng1, i_rng2, i_zip, getP_some, getP_map, getP_bind, getP_ite, asI_int, asF_fn, asT_tup, wpE_ok, step_name, step_many, c_eq, c_ne, c_lt, c_le, c_gt, c_ge, c_is, c_isNot, eq_int, eq_bl, eq_str, is_bl, is_nn, is_in, is_bn, is_sn, is_tn, is_ln, is_rn, t_non, t_bl, t_int, t_tup, t_rol, b_add, b_sub, b_mul, b_mod, b_fdiv, b_pow, b_addT, b_addS, b_mulT, b_mulSame, f_lenT, f_lenL, f_abs, f_max, f_min, f_int, f_intB, f_tupT, f_lstT, f_lstR, f_lenR, f_tupR, f_sum, f_all, f_any, f_anyT, f_allT, f_repr, x_tup, x_rol, x_ref, l_tup, l_ref, r_tup, m_app, m_ext, m_pop, m_cnt, p_app, p_ext, p_pop, p_cnt, s_tup, s_rol, s_ref, y_ii, y_ib, y_it, y_il, y_bi, y_bb, y_bt, y_tt, y_ti, y_tb, y_tl, y_ni, y_nt, x_set, a_add, a_sub, g_name, g_many, g_nil, g_cons, startP, wipeP, Tg.slots, List.map_cons, List.map_nil, List.length_cons, List.length_nil, List.replicate_succ, List.replicate_zero, List.cons_append, List.nil_append, List.getElem?_cons_zero, List.getElem?_cons_succ, Option.join_some, List.set_cons_zero, List.set_cons_succ, Bool.true_eq_false, reduceCtorEq, Option.map_some, Option.bind_some, Nat.reduceAdd, Nat.reduceSub, Nat.zero_add, Bool.not_true, Bool.not_false, Bool.false_eq_true, true_implies, false_implies, implies_true, and_true, true_and, not_true_eq_false, not_false_eq_true, decide_eq_true_eq, Bool.not_eq_true', Bool.not_eq_false', decide_eq_false_iff_not, iL_empty, eq_iT, gc_11, gc_0, gc_1, gc_12, getP_none, hs]
    exact hP _ hg
/-- how many go at a seam, by zip -/
theorem zip_get {xs ys : List PV} {i : Nat} {p : PV} (h : (xs.zipWith (fun a b => PV.tup [a, b]) ys)[i]? = some p) : ∃ a b, xs[i]? = some a ∧ ys[i]? = some b ∧ p = .tup [a, b] := by
  rw [List.getElem?_zipWith] at h
  cases h1 : xs[i]? with
  | none => rw [h1] at h; cases h
  | some a =>
    cases h2 : ys[i]? with
    | none => rw [h1, h2] at h; cases h
    | some b => rw [h1, h2] at h; cases h; exact ⟨a, b, rfl, rfl, rfl⟩
/-- the first i letters go -/
def goes (s w : List Int) (i : Nat) : Prop := i ≤ s.length ∧ i ≤ w.length ∧ ∀ j, j < i → ∀ x y, s[j]? = some x → w[j]? = some y → x = -y
theorem lost_stop : ∀ {s w : List Int} {i : Nat}, goes s w i → (i = min s.length w.length ∨ ∃ x y, s[i]? = some x ∧ w[i]? = some y ∧ x ≠ -y) → lost s w = i
  | [], w, i, ⟨h1, _, _⟩, _ => by simp at h1; subst h1; simp [lost]
  | _ :: _, [], i, ⟨_, h1, _⟩, _ => by simp at h1; subst h1; simp [lost]
  | a :: s, b :: w, 0, _, h => by
    rcases h with h | ⟨x, y, h1, h2, h3⟩
    · simp at h
    · simp at h1 h2; subst h1; subst h2; simp [lost, h3]
  | a :: s, b :: w, i + 1, ⟨h1, h2, h3⟩, h => by
    have e : a = -b := h3 0 (by omega) a b rfl rfl
    rw [lost, if_pos e]
    congr 1
    refine lost_stop ⟨by simpa using h1, by simpa using h2, fun j hj x y q1 q2 => h3 (j + 1) (by omega) x y (by simpa using q1) (by simpa using q2)⟩ ?_
    rcases h with h | ⟨x, y, q1, q2, q3⟩
    · left; simp at h; omega
    · right; exact ⟨x, y, by simpa using q1, by simpa using q2, q3⟩
theorem sp_lost_in (v w : List Int) (hl : v.length < 1000000) (hP : ∀ h', Gr [] h h' → P (.int (lost v.reverse w : Nat)) h') : wpE (run GT GC GF (d + 1) 23 [iT v, iT w] h) P := by
  rw [run_in (F := F23) rfl rfl]
  simp -implicitDefEqProofs only [F23, b23_0, b23_1, w_cons, w_nil, w_set, w_asg, w_par2, w_par3, w_setix, w_aug, w_expr, w_ret, w_retN, w_ifs, w_brk, w_cnt, w_pass, w_raise, w_for, w_whl, e_v, e_gc, e_int, e_str, e_bl, e_non, e_neg, e_not, e_bin, e_cmp, e_chain, e_and1, e_and2, e_or1, e_or2, e_and, e_or, e_ite, e_T, e_call, e_callv, e_bi, e_isi, e_meth, e_ix, e_slF, e_slT, e_slB, e_slN, e_rev, e_tup, e_lst, e_lc, e_lcIf, es_nil, es_cons, i_val, i_rng1, i_rng2, i_zip, getP_some, getP_map, getP_bind, getP_ite, asI_int, asF_fn, asT_tup, wpE_ok, step_name, step_many, c_eq, c_ne, c_lt, c_le, c_gt, c_ge, c_is, c_isNot, eq_int, eq_bl, eq_str, is_bl, is_nn, is_in, is_bn, is_sn, is_tn, is_ln, is_rn, t_non, t_bl, t_int, t_tup, t_rol, b_add, b_sub, b_mul, b_mod, b_fdiv, b_pow, b_addT, b_addS, b_mulT, b_mulSame, f_lenT, f_lenL, f_abs, f_max, f_min, f_int, f_intB, f_tupT, f_lstT, f_lstR, f_lenR, f_tupR, f_sum, f_all, f_any, f_anyT, f_allT, f_repr, x_tup, x_rol, x_ref, l_tup, l_ref, r_tup, m_app, m_ext, m_pop, m_cnt, p_app, p_ext, p_pop, p_cnt, s_tup, s_rol, s_ref, y_ii, y_ib, y_it, y_il, y_bi, y_bb, y_bt, y_tt, y_ti, y_tb, y_tl, y_ni, y_nt, x_set, a_add, a_sub, g_name, g_many, g_nil, g_cons, startP, wipeP, Tg.slots, List.map_cons, List.map_nil, List.length_cons, List.length_nil, List.replicate_succ, List.replicate_zero, List.cons_append, List.nil_append, List.getElem?_cons_zero, List.getElem?_cons_succ, Option.join_some, List.set_cons_zero, List.set_cons_succ, Bool.true_eq_false, reduceCtorEq, Option.map_some, Option.bind_some, Nat.reduceAdd, Nat.reduceSub, Nat.zero_add, Bool.not_true, Bool.not_false, Bool.false_eq_true, true_implies, false_implies, implies_true, and_true, true_and, not_true_eq_false, not_false_eq_true, decide_eq_true_eq, Bool.not_eq_true', Bool.not_eq_false', decide_eq_false_iff_not, iL_empty, eq_iT, gc_11, gc_0, gc_1, gc_12, getP_none, iL_rev, zipS]
  refine for_fix (fun i ρ h' => ∃ o o', ρ = [some (iT v), some (iT w), some (.int (i : Nat)), o, o'] ∧ h' = h ∧ goes v.reverse w i) ⟨none, none, rfl, rfl, by simp [goes]⟩ (fun i x ρ h' hx hI => ?_) (fun ρ h' hI => ?_) (gf (by simp [iL_len]; omega))
  · obtain ⟨o, o', rfl, rfl, hg⟩ := hI
    obtain ⟨a, b, h1, h2, rfl⟩ := zip_get hx
    obtain ⟨x, hx', rfl⟩ := iL_get h1
    obtain ⟨y, hy', rfl⟩ := iL_get h2
    simp -implicitDefEqProofs only [w_cons, w_nil, w_set, w_asg, w_par2, w_par3, w_setix, w_aug, w_expr, w_ret, w_retN, w_ifs, w_brk, w_cnt, w_pass, w_raise, w_for, w_whl, e_v, e_gc, e_int, e_str, e_bl, e_non, e_neg, e_not, e_bin, e_cmp, e_chain, e_and1, e_and2, e_or1, e_or2, e_and, e_or, e_ite, e_T, e_call, e_callv, e_bi, e_isi, e_meth, e_ix, e_slF, e_slT, e_slB, e_slN, e_rev, e_tup, e_lst, e_lc, e_lcIf, es_nil, es_cons, i_val, i_rng1, i_rng2, i_zip, getP_some, getP_map, getP_bind, getP_ite, asI_int, asF_fn, asT_tup, wpE_ok, step_name, step_many, c_eq, c_ne, c_lt, c_le, c_gt, c_ge, c_is, c_isNot, eq_int, eq_bl, eq_str, is_bl, is_nn, is_in, is_bn, is_sn, is_tn, is_ln, is_rn, t_non, t_bl, t_int, t_tup, t_rol, b_add, b_sub, b_mul, b_mod, b_fdiv, b_pow, b_addT, b_addS, b_mulT, b_mulSame, f_lenT, f_lenL, f_abs, f_max, f_min, f_int, f_intB, f_tupT, f_lstT, f_lstR, f_lenR, f_tupR, f_sum, f_all, f_any, f_anyT, f_allT, f_repr, x_tup, x_rol, x_ref, l_tup, l_ref, r_tup, m_app, m_ext, m_pop, m_cnt, p_app, p_ext, p_pop, p_cnt, s_tup, s_rol, s_ref, y_ii, y_ib, y_it, y_il, y_bi, y_bb, y_bt, y_tt, y_ti, y_tb, y_tl, y_ni, y_nt, x_set, a_add, a_sub, g_name, g_many, g_nil, g_cons, startP, wipeP, Tg.slots, List.map_cons, List.map_nil, List.length_cons, List.length_nil, List.replicate_succ, List.replicate_zero, List.cons_append, List.nil_append, List.getElem?_cons_zero, List.getElem?_cons_succ, Option.join_some, List.set_cons_zero, List.set_cons_succ, Bool.true_eq_false, reduceCtorEq, Option.map_some, Option.bind_some, Nat.reduceAdd, Nat.reduceSub, Nat.zero_add, Bool.not_true, Bool.not_false, Bool.false_eq_true, true_implies, false_implies, implies_true, and_true, true_and, not_true_eq_false, not_false_eq_true, decide_eq_true_eq, Bool.not_eq_true', Bool.not_eq_false', decide_eq_false_iff_not, iL_empty, eq_iT, gc_11, gc_0, gc_1, gc_12, getP_none, l23_0_0, l23_0_1]
    by_cases e : x = -y
    · refine ⟨fun z => absurd e z, fun _ => ⟨_, _, rfl, ?_⟩⟩
      obtain ⟨g1, g2, g3⟩ := hg
      have l1 := (List.getElem?_eq_some_iff.mp hx').1
      have l2 := (List.getElem?_eq_some_iff.mp hy').1
      refine ⟨l1, l2, fun j hj a b q1 q2 => ?_⟩
      by_cases hj' : j < i
      · exact g3 j hj' a b q1 q2
      · have : j = i := by omega
        subst this
        rw [hx'] at q1; rw [hy'] at q2
        cases q1; cases q2
        exact e
    · refine ⟨fun _ => ?_, fun z => absurd z e⟩
      rw [← lost_stop hg (.inr ⟨x, y, hx', hy', e⟩)]
      exact hP _ .refl
  · obtain ⟨o, o', rfl, rfl, hg⟩ := hI
    simp -implicitDefEqProofs only [b23_2, w_cons, w_nil, w_set, w_asg, w_par2, w_par3, w_setix, w_aug, w_expr, w_ret, w_retN, w_ifs, w_brk, w_cnt, w_pass, w_raise, w_for, w_whl, e_v, e_gc, e_int, e_str, e_bl, e_non, e_neg, e_not, e_bin, e_cmp, e_chain, e_and1, e_and2, e_or1, e_or2, e_and, e_or, e_ite, e_T, e_call, e_callv, e_bi, e_isi, e_meth, e_ix, e_slF, e_slT, e_slB, e_slN, e_rev, e_tup, e_lst, e_lc, e_lcIf, es_nil, es_cons, i_val, i_rng1, i_rng2, i_zip, getP_some, getP_map, getP_bind, getP_ite, asI_int, asF_fn, asT_tup, wpE_ok, step_name, step_many, c_eq, c_ne, c_lt, c_le, c_gt, c_ge, c_is, c_isNot, eq_int, eq_bl, eq_str, is_bl, is_nn, is_in, is_bn, is_sn, is_tn, is_ln, is_rn, t_non, t_bl, t_int, t_tup, t_rol, b_add, b_sub, b_mul, b_mod, b_fdiv, b_pow, b_addT, b_addS, b_mulT, b_mulSame, f_lenT, f_lenL, f_abs, f_max, f_min, f_int, f_intB, f_tupT, f_lstT, f_lstR, f_lenR, f_tupR, f_sum, f_all, f_any, f_anyT, f_allT, f_repr, x_tup, x_rol, x_ref, l_tup, l_ref, r_tup, m_app, m_ext, m_pop, m_cnt, p_app, p_ext, p_pop, p_cnt, s_tup, s_rol, s_ref, y_ii, y_ib, y_it, y_il, y_bi, y_bb, y_bt, y_tt, y_ti, y_tb, y_tl, y_ni, y_nt, x_set, a_add, a_sub, g_name, g_many, g_nil, g_cons, startP, wipeP, Tg.slots, List.map_cons, List.map_nil, List.length_cons, List.length_nil, List.replicate_succ, List.replicate_zero, List.cons_append, List.nil_append, List.getElem?_cons_zero, List.getElem?_cons_succ, Option.join_some, List.set_cons_zero, List.set_cons_succ, Bool.true_eq_false, reduceCtorEq, Option.map_some, Option.bind_some, Nat.reduceAdd, Nat.reduceSub, Nat.zero_add, Bool.not_true, Bool.not_false, Bool.false_eq_true, true_implies, false_implies, implies_true, and_true, true_and, not_true_eq_false, not_false_eq_true, decide_eq_true_eq, Bool.not_eq_true', Bool.not_eq_false', decide_eq_false_iff_not, iL_empty, eq_iT, gc_11, gc_0, gc_1, gc_12, getP_none]
    have := lost_stop hg (.inl (by simp [iL_len]))
    rw [← this]
    exact hP _ .refl
/-- how often each letter stands, less its undoing -/
def cts (r : Nat) (w : List Int) : List Int := (List.range r).map fun (k : Nat) => cnt (1 + (k : Int)) w
theorem rngL_len (lo : Int) (n : Nat) : (rngL lo n).length = n := by simp [rngL]
theorem rngL_get {lo : Int} {n i : Nat} {p : PV} (h : (rngL lo n)[i]? = some p) : i < n ∧ p = .int (lo + (i : Int)) := by
  unfold rngL at h
  have lt : i < n := by have := (List.getElem?_eq_some_iff.mp h).1; simpa using this
  simp [lt] at h
  exact ⟨lt, h.symm⟩
theorem cts_get {r : Nat} {w : List Int} {i : Nat} {y : PV} (h : (iL (cts r w))[i]? = some y) : y = .int (cnt (1 + (i : Int)) w) := by
  obtain ⟨z, hz, rfl⟩ := iL_get h
  unfold cts at hz
  have lt : i < r := by have := (List.getElem?_eq_some_iff.mp hz).1; simpa using this
  simp [lt] at hz
  rw [hz]
theorem inr_small {i : Int} (h1 : -1000000 ≤ i) (h2 : i ≤ 1000000000) : inR i := ⟨by omega, by omega⟩
theorem sp_counts_in (r : Nat) (w : List Int) (hr : r < 1000000) (hP : ∀ h', Gr [] h h' → P (iT (cts r w)) h') : wpE (run GT GC GF (d + 1) 24 [.int r, iT w] h) P := by
  rw [run_in (F := F24) rfl rfl]
  simp -implicitDefEqProofs only [F24, b24_0, w_cons, w_nil, w_set, w_asg, w_par2, w_par3, w_setix, w_aug, w_expr, w_ret, w_retN, w_ifs, w_brk, w_cnt, w_pass, w_raise, w_for, w_whl, e_v, e_gc, e_int, e_str, e_bl, e_non, e_neg, e_not, e_bin, e_cmp, e_chain, e_and1, e_and2, e_or1, e_or2, e_and, e_or, e_ite, e_T, e_call, e_callv, e_bi, e_isi, e_meth, e_ix, e_slF, e_slT, e_slB, e_slN, e_rev, e_tup, e_lst, e_lc, e_lcIf, es_nil, es_cons, i_val, i_rng1, i_rng2, i_zip, getP_some, getP_map, getP_bind, getP_ite, asI_int, asF_fn, asT_tup, wpE_ok, step_name, step_many, c_eq, c_ne, c_lt, c_le, c_gt, c_ge, c_is, c_isNot, eq_int, eq_bl, eq_str, is_bl, is_nn, is_in, is_bn, is_sn, is_tn, is_ln, is_rn, t_non, t_bl, t_int, t_tup, t_rol, b_add, b_sub, b_mul, b_mod, b_fdiv, b_pow, b_addT, b_addS, b_mulT, b_mulSame, f_lenT, f_lenL, f_abs, f_max, f_min, f_int, f_intB, f_tupT, f_lstT, f_lstR, f_lenR, f_tupR, f_sum, f_all, f_any, f_anyT, f_allT, f_repr, x_tup, x_rol, x_ref, l_tup, l_ref, r_tup, m_app, m_ext, m_pop, m_cnt, p_app, p_ext, p_pop, p_cnt, s_tup, s_rol, s_ref, y_ii, y_ib, y_it, y_il, y_bi, y_bb, y_bt, y_tt, y_ti, y_tb, y_tl, y_ni, y_nt, x_set, a_add, a_sub, g_name, g_many, g_nil, g_cons, startP, wipeP, Tg.slots, List.map_cons, List.map_nil, List.length_cons, List.length_nil, List.replicate_succ, List.replicate_zero, List.cons_append, List.nil_append, List.getElem?_cons_zero, List.getElem?_cons_succ, Option.join_some, List.set_cons_zero, List.set_cons_succ, Bool.true_eq_false, reduceCtorEq, Option.map_some, Option.bind_some, Nat.reduceAdd, Nat.reduceSub, Nat.zero_add, Bool.not_true, Bool.not_false, Bool.false_eq_true, true_implies, false_implies, implies_true, and_true, true_and, not_true_eq_false, not_false_eq_true, decide_eq_true_eq, Bool.not_eq_true', Bool.not_eq_false', decide_eq_false_iff_not, iL_empty, eq_iT, gc_11, gc_0, gc_1, gc_12, getP_none]
  refine ⟨⟨inr_small (by omega) (by omega), inr_small (by omega) (by omega)⟩, ?_⟩
  have e : ((r : Int) + 1 - 1).toNat = r := by omega
  rw [e]
  refine lc_map (ys := iL (cts r w)) [] (by simp [iL_len, cts, rngL_len]) (fun i x y h' hx hy hg => ?_) (fun h' hg => ?_) (by rw [rngL_len]; exact sz (by omega)) (gf (by rw [rngL_len]; omega))
  · obtain ⟨lt, rfl⟩ := rngL_get hx
    rw [cts_get hy]
    simp -implicitDefEqProofs only [w_cons, w_nil, w_set, w_asg, w_par2, w_par3, w_setix, w_aug, w_expr, w_ret, w_retN, w_ifs, w_brk, w_cnt, w_pass, w_raise, w_for, w_whl, e_v, e_gc, e_int, e_str, e_bl, e_non, e_neg, e_not, e_bin, e_cmp, e_chain, e_and1, e_and2, e_or1, e_or2, e_and, e_or, e_ite, e_T, e_call, e_callv, e_bi, e_isi, e_meth, e_ix, e_slF, e_slT, e_slB, e_slN, e_rev, e_tup, e_lst, e_lc, e_lcIf, es_nil, es_cons, i_val, i_rng1, i_rng2, i_zip, getP_some, getP_map, getP_bind, getP_ite, asI_int, asF_fn, asT_tup, wpE_ok, step_name, step_many, c_eq, c_ne, c_lt, c_le, c_gt, c_ge, c_is, c_isNot, eq_int, eq_bl, eq_str, is_bl, is_nn, is_in, is_bn, is_sn, is_tn, is_ln, is_rn, t_non, t_bl, t_int, t_tup, t_rol, b_add, b_sub, b_mul, b_mod, b_fdiv, b_pow, b_addT, b_addS, b_mulT, b_mulSame, f_lenT, f_lenL, f_abs, f_max, f_min, f_int, f_intB, f_tupT, f_lstT, f_lstR, f_lenR, f_tupR, f_sum, f_all, f_any, f_anyT, f_allT, f_repr, x_tup, x_rol, x_ref, l_tup, l_ref, r_tup, m_app, m_ext, m_pop, m_cnt, p_app, p_ext, p_pop, p_cnt, s_tup, s_rol, s_ref, y_ii, y_ib, y_it, y_il, y_bi, y_bb, y_bt, y_tt, y_ti, y_tb, y_tl, y_ni, y_nt, x_set, a_add, a_sub, g_name, g_many, g_nil, g_cons, startP, wipeP, Tg.slots, List.map_cons, List.map_nil, List.length_cons, List.length_nil, List.replicate_succ, List.replicate_zero, List.cons_append, List.nil_append, List.getElem?_cons_zero, List.getElem?_cons_succ, Option.join_some, List.set_cons_zero, List.set_cons_succ, Bool.true_eq_false, reduceCtorEq, Option.map_some, Option.bind_some, Nat.reduceAdd, Nat.reduceSub, Nat.zero_add, Bool.not_true, Bool.not_false, Bool.false_eq_true, true_implies, false_implies, implies_true, and_true, true_and, not_true_eq_false, not_false_eq_true, decide_eq_true_eq, Bool.not_eq_true', Bool.not_eq_false', decide_eq_false_iff_not, iL_empty, eq_iT, gc_11, gc_0, gc_1, gc_12, getP_none, iL_ints]
    exact ⟨rfl, hg⟩
  · simp -implicitDefEqProofs only [w_cons, w_nil, w_set, w_asg, w_par2, w_par3, w_setix, w_aug, w_expr, w_ret, w_retN, w_ifs, w_brk, w_cnt, w_pass, w_raise, w_for, w_whl, e_v, e_gc, e_int, e_str, e_bl, e_non, e_neg, e_not, e_bin, e_cmp, e_chain, e_and1, e_and2, e_or1, e_or2, e_and, e_or, e_ite, e_T, e_call, e_callv, e_bi, e_isi, e_meth, e_ix, e_slF, e_slT, e_slB, e_slN, e_rev, e_tup, e_lst, e_lc, e_lcIf, es_nil, es_cons, i_val, i_rng1, i_rng2, i_zip, getP_some, getP_map, getP_bind, getP_ite, asI_int, asF_fn, asT_tup, wpE_ok, step_name, step_many, c_eq, c_ne, c_lt, c_le, c_gt, c_ge, c_is, c_isNot, eq_int, eq_bl, eq_str, is_bl, is_nn, is_in, is_bn, is_sn, is_tn, is_ln, is_rn, t_non, t_bl, t_int, t_tup, t_rol, b_add, b_sub, b_mul, b_mod, b_fdiv, b_pow, b_addT, b_addS, b_mulT, b_mulSame, f_lenT, f_lenL, f_abs, f_max, f_min, f_int, f_intB, f_tupT, f_lstT, f_lstR, f_lenR, f_tupR, f_sum, f_all, f_any, f_anyT, f_allT, f_repr, x_tup, x_rol, x_ref, l_tup, l_ref, r_tup, m_app, m_ext, m_pop, m_cnt, p_app, p_ext, p_pop, p_cnt, s_tup, s_rol, s_ref, y_ii, y_ib, y_it, y_il, y_bi, y_bb, y_bt, y_tt, y_ti, y_tb, y_tl, y_ni, y_nt, x_set, a_add, a_sub, g_name, g_many, g_nil, g_cons, startP, wipeP, Tg.slots, List.map_cons, List.map_nil, List.length_cons, List.length_nil, List.replicate_succ, List.replicate_zero, List.cons_append, List.nil_append, List.getElem?_cons_zero, List.getElem?_cons_succ, Option.join_some, List.set_cons_zero, List.set_cons_succ, Bool.true_eq_false, reduceCtorEq, Option.map_some, Option.bind_some, Nat.reduceAdd, Nat.reduceSub, Nat.zero_add, Bool.not_true, Bool.not_false, Bool.false_eq_true, true_implies, false_implies, implies_true, and_true, true_and, not_true_eq_false, not_false_eq_true, decide_eq_true_eq, Bool.not_eq_true', Bool.not_eq_false', decide_eq_false_iff_not, iL_empty, eq_iT, gc_11, gc_0, gc_1, gc_12, getP_none, lst_new]
    exact hP _ hg.new
/-- the letters -/
def lets (r : Nat) : List Int := (List.range r).flatMap fun (k : Nat) => [1 + (k : Int), -(1 + (k : Int))]
theorem lets_succ (r : Nat) : lets (r + 1) = lets r ++ [1 + (r : Int), -(1 + (r : Int))] := by simp [lets, List.range_succ]
theorem lets_len (r : Nat) : (lets r).length = 2 * r := by
  induction r with
  | zero => rfl
  | succ r ih => rw [lets_succ, List.length_append, ih]; simp; omega
theorem lets_mem {r : Nat} {x : Int} (h : x ∈ lets r) : x ≠ 0 ∧ -(r : Int) ≤ x ∧ x ≤ r := by
  induction r with
  | zero => simp [lets] at h
  | succ r ih =>
    rw [lets_succ, List.mem_append] at h
    rcases h with h | h
    · have := ih h; omega
    · simp at h; omega
theorem sp_letters_in (r : Nat) (hr : r < 1000) (hP : ∀ h', Gr [] h h' → P (iT (lets r)) h') : wpE (run GT GC GF (d + 1) 19 [.int r] h) P := by
  rw [run_in (F := F19) rfl rfl]
  simp -implicitDefEqProofs only [F19, b19_0, b19_1, w_cons, w_nil, w_set, w_asg, w_par2, w_par3, w_setix, w_aug, w_expr, w_ret, w_retN, w_ifs, w_brk, w_cnt, w_pass, w_raise, w_for, w_whl, e_v, e_gc, e_int, e_str, e_bl, e_non, e_neg, e_not, e_bin, e_cmp, e_chain, e_and1, e_and2, e_or1, e_or2, e_and, e_or, e_ite, e_T, e_call, e_callv, e_bi, e_isi, e_meth, e_ix, e_slF, e_slT, e_slB, e_slN, e_rev, e_tup, e_lst, e_lc, e_lcIf, es_nil, es_cons, i_val, i_rng1, i_rng2, i_zip, getP_some, getP_map, getP_bind, getP_ite, asI_int, asF_fn, asT_tup, wpE_ok, step_name, step_many, c_eq, c_ne, c_lt, c_le, c_gt, c_ge, c_is, c_isNot, eq_int, eq_bl, eq_str, is_bl, is_nn, is_in, is_bn, is_sn, is_tn, is_ln, is_rn, t_non, t_bl, t_int, t_tup, t_rol, b_add, b_sub, b_mul, b_mod, b_fdiv, b_pow, b_addT, b_addS, b_mulT, b_mulSame, f_lenT, f_lenL, f_abs, f_max, f_min, f_int, f_intB, f_tupT, f_lstT, f_lstR, f_lenR, f_tupR, f_sum, f_all, f_any, f_anyT, f_allT, f_repr, x_tup, x_rol, x_ref, l_tup, l_ref, r_tup, m_app, m_ext, m_pop, m_cnt, p_app, p_ext, p_pop, p_cnt, s_tup, s_rol, s_ref, y_ii, y_ib, y_it, y_il, y_bi, y_bb, y_bt, y_tt, y_ti, y_tb, y_tl, y_ni, y_nt, x_set, a_add, a_sub, g_name, g_many, g_nil, g_cons, startP, wipeP, Tg.slots, List.map_cons, List.map_nil, List.length_cons, List.length_nil, List.replicate_succ, List.replicate_zero, List.cons_append, List.nil_append, List.getElem?_cons_zero, List.getElem?_cons_succ, Option.join_some, List.set_cons_zero, List.set_cons_succ, Bool.true_eq_false, reduceCtorEq, Option.map_some, Option.bind_some, Nat.reduceAdd, Nat.reduceSub, Nat.zero_add, Bool.not_true, Bool.not_false, Bool.false_eq_true, true_implies, false_implies, implies_true, and_true, true_and, not_true_eq_false, not_false_eq_true, decide_eq_true_eq, Bool.not_eq_true', Bool.not_eq_false', decide_eq_false_iff_not, iL_empty, eq_iT, gc_11, gc_0, gc_1, gc_12, getP_none]
  refine ⟨Nat.zero_le _, ⟨inr_small (by omega) (by omega), inr_small (by omega) (by omega)⟩, ?_⟩
  have e : ((r : Int) + 1 - 1).toNat = r := by omega
  rw [e]
  refine for_fix (fun i ρ h' => ∃ o, ρ = [some (.int r), some (.ref h.length), o] ∧ lstAt h' h.length = some (iL (lets i)) ∧ Gr [] h h') ⟨none, rfl, lst_new, Gr.new .refl⟩ (fun i x ρ h' hx hI => ?_) (fun ρ h' hI => ?_) (gf (by rw [rngL_len]; omega))
  · obtain ⟨o, rfl, hs, hg⟩ := hI
    obtain ⟨lt, rfl⟩ := rngL_get hx
    have hn := lstAt_lt hs
    have hs' : lstAt (h' ++ [.lst [.int (1 + (i : Int)), .int (-(1 + (i : Int)))]]) h.length = some (iL (lets i)) := by rw [lst_old hn]; exact hs
    simp -implicitDefEqProofs only [w_cons, w_nil, w_set, w_asg, w_par2, w_par3, w_setix, w_aug, w_expr, w_ret, w_retN, w_ifs, w_brk, w_cnt, w_pass, w_raise, w_for, w_whl, e_v, e_gc, e_int, e_str, e_bl, e_non, e_neg, e_not, e_bin, e_cmp, e_chain, e_and1, e_and2, e_or1, e_or2, e_and, e_or, e_ite, e_T, e_call, e_callv, e_bi, e_isi, e_meth, e_ix, e_slF, e_slT, e_slB, e_slN, e_rev, e_tup, e_lst, e_lc, e_lcIf, es_nil, es_cons, i_val, i_rng1, i_rng2, i_zip, getP_some, getP_map, getP_bind, getP_ite, asI_int, asF_fn, asT_tup, wpE_ok, step_name, step_many, c_eq, c_ne, c_lt, c_le, c_gt, c_ge, c_is, c_isNot, eq_int, eq_bl, eq_str, is_bl, is_nn, is_in, is_bn, is_sn, is_tn, is_ln, is_rn, t_non, t_bl, t_int, t_tup, t_rol, b_add, b_sub, b_mul, b_mod, b_fdiv, b_pow, b_addT, b_addS, b_mulT, b_mulSame, f_lenT, f_lenL, f_abs, f_max, f_min, f_int, f_intB, f_tupT, f_lstT, f_lstR, f_lenR, f_tupR, f_sum, f_all, f_any, f_anyT, f_allT, f_repr, x_tup, x_rol, x_ref, l_tup, l_ref, r_tup, m_app, m_ext, m_pop, m_cnt, p_app, p_ext, p_pop, p_cnt, s_tup, s_rol, s_ref, y_ii, y_ib, y_it, y_il, y_bi, y_bb, y_bt, y_tt, y_ti, y_tb, y_tl, y_ni, y_nt, x_set, a_add, a_sub, g_name, g_many, g_nil, g_cons, startP, wipeP, Tg.slots, List.map_cons, List.map_nil, List.length_cons, List.length_nil, List.replicate_succ, List.replicate_zero, List.cons_append, List.nil_append, List.getElem?_cons_zero, List.getElem?_cons_succ, Option.join_some, List.set_cons_zero, List.set_cons_succ, Bool.true_eq_false, reduceCtorEq, Option.map_some, Option.bind_some, Nat.reduceAdd, Nat.reduceSub, Nat.zero_add, Bool.not_true, Bool.not_false, Bool.false_eq_true, true_implies, false_implies, implies_true, and_true, true_and, not_true_eq_false, not_false_eq_true, decide_eq_true_eq, Bool.not_eq_true', Bool.not_eq_false', decide_eq_false_iff_not, iL_empty, eq_iT, gc_11, gc_0, gc_1, gc_12, getP_none, l19_0_0, hs', lst_new]
    refine ⟨by decide, by rw [iL_len, lets_len]; exact sz (by simp; omega), _, rfl, ?_, (hg.new).set_new (Nat.le_refl _)⟩
    rw [lst_set (by simp; omega), lets_succ, iL_app]
    rfl
  · obtain ⟨o, rfl, hs, hg⟩ := hI
    rw [rngL_len] at hs
    simp -implicitDefEqProofs only [b19_2, w_cons, w_nil, w_set, w_asg, w_par2, w_par3, w_setix, w_aug, w_expr, w_ret, w_retN, w_ifs, w_brk, w_cnt, w_pass, w_raise, w_for, w_whl, e_v, e_gc, e_int, e_str, e_bl, e_non, e_neg, e_not, e_bin, e_cmp, e_chain, e_and1, e_and2, e_or1, e_or2, e_and, e_or, e_ite, e_T, e_call, e_callv, e_bi, e_isi, e_meth, e_ix, e_slF, e_slT, e_slB, e_slN, e_rev, e_tup, e_lst, e_lc, e_lcIf, es_nil, es_cons, i_val, i_rng1, i_rng2, i_zip, getP_some, getP_map, getP_bind, getP_ite, asI_int, asF_fn, asT_tup, wpE_ok, step_name, step_many, c_eq, c_ne, c_lt, c_le, c_gt, c_ge, c_is, c_isNot, eq_int, eq_bl, eq_str, is_bl, is_nn, is_in, is_bn, is_sn, is_tn, is_ln, is_rn, t_non, t_bl, t_int, t_tup, t_rol, b_add, b_sub, b_mul, b_mod, b_fdiv, b_pow, b_addT, b_addS, b_mulT, b_mulSame, f_lenT, f_lenL, f_abs, f_max, f_min, f_int, f_intB, f_tupT, f_lstT, f_lstR, f_lenR, f_tupR, f_sum, f_all, f_any, f_anyT, f_allT, f_repr, x_tup, x_rol, x_ref, l_tup, l_ref, r_tup, m_app, m_ext, m_pop, m_cnt, p_app, p_ext, p_pop, p_cnt, s_tup, s_rol, s_ref, y_ii, y_ib, y_it, y_il, y_bi, y_bb, y_bt, y_tt, y_ti, y_tb, y_tl, y_ni, y_nt, x_set, a_add, a_sub, g_name, g_many, g_nil, g_cons, startP, wipeP, Tg.slots, List.map_cons, List.map_nil, List.length_cons, List.length_nil, List.replicate_succ, List.replicate_zero, List.cons_append, List.nil_append, List.getElem?_cons_zero, List.getElem?_cons_succ, Option.join_some, List.set_cons_zero, List.set_cons_succ, Bool.true_eq_false, reduceCtorEq, Option.map_some, Option.bind_some, Nat.reduceAdd, Nat.reduceSub, Nat.zero_add, Bool.not_true, Bool.not_false, Bool.false_eq_true, true_implies, false_implies, implies_true, and_true, true_and, not_true_eq_false, not_false_eq_true, decide_eq_true_eq, Bool.not_eq_true', Bool.not_eq_false', decide_eq_false_iff_not, iL_empty, eq_iT, gc_11, gc_0, gc_1, gc_12, getP_none, hs]
    exact hP _ hg
/-! ### told words -/
theorem sp_require_letters (r : Int) (h1 : 1 ≤ r) (h2 : r ≤ 4) (hP : P .non h) : wpE (run GT GC GF (d + 4) 25 [.int r] h) P := by
  rw [run_in (F := F25) rfl rfl]
  simp -implicitDefEqProofs only [F25, b25_0, w_cons, w_nil, w_set, w_asg, w_par2, w_par3, w_setix, w_aug, w_expr, w_ret, w_retN, w_ifs, w_brk, w_cnt, w_pass, w_raise, w_for, w_whl, e_v, e_gc, e_int, e_str, e_bl, e_non, e_neg, e_not, e_bin, e_cmp, e_chain, e_and1, e_and2, e_or1, e_or2, e_and, e_or, e_ite, e_T, e_call, e_callv, e_bi, e_isi, e_meth, e_ix, e_slF, e_slT, e_slB, e_slN, e_rev, e_tup, e_lst, e_lc, e_lcIf, es_nil, es_cons, i_val, i_rng1, i_rng2, i_zip, getP_some, getP_map, getP_bind, getP_ite, asI_int, asF_fn, asT_tup, wpE_ok, step_name, step_many, c_eq, c_ne, c_lt, c_le, c_gt, c_ge, c_is, c_isNot, eq_int, eq_bl, eq_str, is_bl, is_nn, is_in, is_bn, is_sn, is_tn, is_ln, is_rn, t_non, t_bl, t_int, t_tup, t_rol, b_add, b_sub, b_mul, b_mod, b_fdiv, b_pow, b_addT, b_addS, b_mulT, b_mulSame, f_lenT, f_lenL, f_abs, f_max, f_min, f_int, f_intB, f_tupT, f_lstT, f_lstR, f_lenR, f_tupR, f_sum, f_all, f_any, f_anyT, f_allT, f_repr, x_tup, x_rol, x_ref, l_tup, l_ref, r_tup, m_app, m_ext, m_pop, m_cnt, p_app, p_ext, p_pop, p_cnt, s_tup, s_rol, s_ref, y_ii, y_ib, y_it, y_il, y_bi, y_bb, y_bt, y_tt, y_ti, y_tb, y_tl, y_ni, y_nt, x_set, a_add, a_sub, g_name, g_many, g_nil, g_cons, startP, wipeP, Tg.slots, List.map_cons, List.map_nil, List.length_cons, List.length_nil, List.replicate_succ, List.replicate_zero, List.cons_append, List.nil_append, List.getElem?_cons_zero, List.getElem?_cons_succ, Option.join_some, List.set_cons_zero, List.set_cons_succ, Bool.true_eq_false, reduceCtorEq, Option.map_some, Option.bind_some, Nat.reduceAdd, Nat.reduceSub, Nat.zero_add, Bool.not_true, Bool.not_false, Bool.false_eq_true, true_implies, false_implies, implies_true, and_true, true_and, not_true_eq_false, not_false_eq_true, decide_eq_true_eq, Bool.not_eq_true', Bool.not_eq_false', decide_eq_false_iff_not, iL_empty, eq_iT, gc_11, gc_0, gc_1, gc_12, getP_none]
  exact sp_require_number r 1 4 h1 h2 (by omega) (by omega) hP
theorem sp_require_word (r : Int) (w : List Int) (hw : Wd r w) (hl : w.length ≤ 400) (hP : ∀ h', Gr [] h h' → P .non h') : wpE (run GT GC GF (d + 5) 26 [.int r, iT w] h) P := by
  rw [run_in (F := F26) rfl rfl]
  simp -implicitDefEqProofs only [F26, b26_0, w_cons, w_nil, w_set, w_asg, w_par2, w_par3, w_setix, w_aug, w_expr, w_ret, w_retN, w_ifs, w_brk, w_cnt, w_pass, w_raise, w_for, w_whl, e_v, e_gc, e_int, e_str, e_bl, e_non, e_neg, e_not, e_bin, e_cmp, e_chain, e_and1, e_and2, e_or1, e_or2, e_and, e_or, e_ite, e_T, e_call, e_callv, e_bi, e_isi, e_meth, e_ix, e_slF, e_slT, e_slB, e_slN, e_rev, e_tup, e_lst, e_lc, e_lcIf, es_nil, es_cons, i_val, i_rng1, i_rng2, i_zip, getP_some, getP_map, getP_bind, getP_ite, asI_int, asF_fn, asT_tup, wpE_ok, step_name, step_many, c_eq, c_ne, c_lt, c_le, c_gt, c_ge, c_is, c_isNot, eq_int, eq_bl, eq_str, is_bl, is_nn, is_in, is_bn, is_sn, is_tn, is_ln, is_rn, t_non, t_bl, t_int, t_tup, t_rol, b_add, b_sub, b_mul, b_mod, b_fdiv, b_pow, b_addT, b_addS, b_mulT, b_mulSame, f_lenT, f_lenL, f_abs, f_max, f_min, f_int, f_intB, f_tupT, f_lstT, f_lstR, f_lenR, f_tupR, f_sum, f_all, f_any, f_anyT, f_allT, f_repr, x_tup, x_rol, x_ref, l_tup, l_ref, r_tup, m_app, m_ext, m_pop, m_cnt, p_app, p_ext, p_pop, p_cnt, s_tup, s_rol, s_ref, y_ii, y_ib, y_it, y_il, y_bi, y_bb, y_bt, y_tt, y_ti, y_tb, y_tl, y_ni, y_nt, x_set, a_add, a_sub, g_name, g_many, g_nil, g_cons, startP, wipeP, Tg.slots, List.map_cons, List.map_nil, List.length_cons, List.length_nil, List.replicate_succ, List.replicate_zero, List.cons_append, List.nil_append, List.getElem?_cons_zero, List.getElem?_cons_succ, Option.join_some, List.set_cons_zero, List.set_cons_succ, Bool.true_eq_false, reduceCtorEq, Option.map_some, Option.bind_some, Nat.reduceAdd, Nat.reduceSub, Nat.zero_add, Bool.not_true, Bool.not_false, Bool.false_eq_true, true_implies, false_implies, implies_true, and_true, true_and, not_true_eq_false, not_false_eq_true, decide_eq_true_eq, Bool.not_eq_true', Bool.not_eq_false', decide_eq_false_iff_not, iL_empty, eq_iT, gc_11, gc_0, gc_1, gc_12, getP_none]
  refine sp_is_word_in r w hw hl fun h' hg => ?_
  (try simp -implicitDefEqProofs only [w_cons, w_nil, w_set, w_asg, w_par2, w_par3, w_setix, w_aug, w_expr, w_ret, w_retN, w_ifs, w_brk, w_cnt, w_pass, w_raise, w_for, w_whl, e_v, e_gc, e_int, e_str, e_bl, e_non, e_neg, e_not, e_bin, e_cmp, e_chain, e_and1, e_and2, e_or1, e_or2, e_and, e_or, e_ite, e_T, e_call, e_callv, e_bi, e_isi, e_meth, e_ix, e_slF, e_slT, e_slB, e_slN, e_rev, e_tup, e_lst, e_lc, e_lcIf, es_nil, es_cons, i_val, i_rng1, i_rng2, i_zip, getP_some, getP_map, getP_bind, getP_ite, asI_int, asF_fn, asT_tup, wpE_ok, step_name, step_many, c_eq, c_ne, c_lt, c_le, c_gt, c_ge, c_is, c_isNot, eq_int, eq_bl, eq_str, is_bl, is_nn, is_in, is_bn, is_sn, is_tn, is_ln, is_rn, t_non, t_bl, t_int, t_tup, t_rol, b_add, b_sub, b_mul, b_mod, b_fdiv, b_pow, b_addT, b_addS, b_mulT, b_mulSame, f_lenT, f_lenL, f_abs, f_max, f_min, f_int, f_intB, f_tupT, f_lstT, f_lstR, f_lenR, f_tupR, f_sum, f_all, f_any, f_anyT, f_allT, f_repr, x_tup, x_rol, x_ref, l_tup, l_ref, r_tup, m_app, m_ext, m_pop, m_cnt, p_app, p_ext, p_pop, p_cnt, s_tup, s_rol, s_ref, y_ii, y_ib, y_it, y_il, y_bi, y_bb, y_bt, y_tt, y_ti, y_tb, y_tl, y_ni, y_nt, x_set, a_add, a_sub, g_name, g_many, g_nil, g_cons, startP, wipeP, Tg.slots, List.map_cons, List.map_nil, List.length_cons, List.length_nil, List.replicate_succ, List.replicate_zero, List.cons_append, List.nil_append, List.getElem?_cons_zero, List.getElem?_cons_succ, Option.join_some, List.set_cons_zero, List.set_cons_succ, Bool.true_eq_false, reduceCtorEq, Option.map_some, Option.bind_some, Nat.reduceAdd, Nat.reduceSub, Nat.zero_add, Bool.not_true, Bool.not_false, Bool.false_eq_true, true_implies, false_implies, implies_true, and_true, true_and, not_true_eq_false, not_false_eq_true, decide_eq_true_eq, Bool.not_eq_true', Bool.not_eq_false', decide_eq_false_iff_not, iL_empty, eq_iT, gc_11, gc_0, gc_1, gc_12, getP_none])
  exact hP _ hg
theorem sp_require_words (r : Int) (ws : List (List Int)) (hw : ∀ w ∈ ws, Wd r w ∧ w.length ≤ 400) (hl : ws.length ≤ 20) (hs : (ws.map (fun w => (w.length : Int))).sum ≤ 400) (hP : ∀ h', Gr [] h h' → P .non h') : wpE (run GT GC GF (d + 6) 27 [.int r, wT ws] h) P := by
  rw [run_in (F := F27) rfl rfl]
  simp -implicitDefEqProofs only [F27, b27_0, w_cons, w_nil, w_set, w_asg, w_par2, w_par3, w_setix, w_aug, w_expr, w_ret, w_retN, w_ifs, w_brk, w_cnt, w_pass, w_raise, w_for, w_whl, e_v, e_gc, e_int, e_str, e_bl, e_non, e_neg, e_not, e_bin, e_cmp, e_chain, e_and1, e_and2, e_or1, e_or2, e_and, e_or, e_ite, e_T, e_call, e_callv, e_bi, e_isi, e_meth, e_ix, e_slF, e_slT, e_slB, e_slN, e_rev, e_tup, e_lst, e_lc, e_lcIf, es_nil, es_cons, i_val, i_rng1, i_rng2, i_zip, getP_some, getP_map, getP_bind, getP_ite, asI_int, asF_fn, asT_tup, wpE_ok, step_name, step_many, c_eq, c_ne, c_lt, c_le, c_gt, c_ge, c_is, c_isNot, eq_int, eq_bl, eq_str, is_bl, is_nn, is_in, is_bn, is_sn, is_tn, is_ln, is_rn, t_non, t_bl, t_int, t_tup, t_rol, b_add, b_sub, b_mul, b_mod, b_fdiv, b_pow, b_addT, b_addS, b_mulT, b_mulSame, f_lenT, f_lenL, f_abs, f_max, f_min, f_int, f_intB, f_tupT, f_lstT, f_lstR, f_lenR, f_tupR, f_sum, f_all, f_any, f_anyT, f_allT, f_repr, x_tup, x_rol, x_ref, l_tup, l_ref, r_tup, m_app, m_ext, m_pop, m_cnt, p_app, p_ext, p_pop, p_cnt, s_tup, s_rol, s_ref, y_ii, y_ib, y_it, y_il, y_bi, y_bb, y_bt, y_tt, y_ti, y_tb, y_tl, y_ni, y_nt, x_set, a_add, a_sub, g_name, g_many, g_nil, g_cons, startP, wipeP, Tg.slots, List.map_cons, List.map_nil, List.length_cons, List.length_nil, List.replicate_succ, List.replicate_zero, List.cons_append, List.nil_append, List.getElem?_cons_zero, List.getElem?_cons_succ, Option.join_some, List.set_cons_zero, List.set_cons_succ, Bool.true_eq_false, reduceCtorEq, Option.map_some, Option.bind_some, Nat.reduceAdd, Nat.reduceSub, Nat.zero_add, Bool.not_true, Bool.not_false, Bool.false_eq_true, true_implies, false_implies, implies_true, and_true, true_and, not_true_eq_false, not_false_eq_true, decide_eq_true_eq, Bool.not_eq_true', Bool.not_eq_false', decide_eq_false_iff_not, iL_empty, eq_iT, gc_11, gc_0, gc_1, gc_12, getP_none]
  refine sp_are_words_in r ws hw hl hs fun h' hg => ?_
  (try simp -implicitDefEqProofs only [w_cons, w_nil, w_set, w_asg, w_par2, w_par3, w_setix, w_aug, w_expr, w_ret, w_retN, w_ifs, w_brk, w_cnt, w_pass, w_raise, w_for, w_whl, e_v, e_gc, e_int, e_str, e_bl, e_non, e_neg, e_not, e_bin, e_cmp, e_chain, e_and1, e_and2, e_or1, e_or2, e_and, e_or, e_ite, e_T, e_call, e_callv, e_bi, e_isi, e_meth, e_ix, e_slF, e_slT, e_slB, e_slN, e_rev, e_tup, e_lst, e_lc, e_lcIf, es_nil, es_cons, i_val, i_rng1, i_rng2, i_zip, getP_some, getP_map, getP_bind, getP_ite, asI_int, asF_fn, asT_tup, wpE_ok, step_name, step_many, c_eq, c_ne, c_lt, c_le, c_gt, c_ge, c_is, c_isNot, eq_int, eq_bl, eq_str, is_bl, is_nn, is_in, is_bn, is_sn, is_tn, is_ln, is_rn, t_non, t_bl, t_int, t_tup, t_rol, b_add, b_sub, b_mul, b_mod, b_fdiv, b_pow, b_addT, b_addS, b_mulT, b_mulSame, f_lenT, f_lenL, f_abs, f_max, f_min, f_int, f_intB, f_tupT, f_lstT, f_lstR, f_lenR, f_tupR, f_sum, f_all, f_any, f_anyT, f_allT, f_repr, x_tup, x_rol, x_ref, l_tup, l_ref, r_tup, m_app, m_ext, m_pop, m_cnt, p_app, p_ext, p_pop, p_cnt, s_tup, s_rol, s_ref, y_ii, y_ib, y_it, y_il, y_bi, y_bb, y_bt, y_tt, y_ti, y_tb, y_tl, y_ni, y_nt, x_set, a_add, a_sub, g_name, g_many, g_nil, g_cons, startP, wipeP, Tg.slots, List.map_cons, List.map_nil, List.length_cons, List.length_nil, List.replicate_succ, List.replicate_zero, List.cons_append, List.nil_append, List.getElem?_cons_zero, List.getElem?_cons_succ, Option.join_some, List.set_cons_zero, List.set_cons_succ, Bool.true_eq_false, reduceCtorEq, Option.map_some, Option.bind_some, Nat.reduceAdd, Nat.reduceSub, Nat.zero_add, Bool.not_true, Bool.not_false, Bool.false_eq_true, true_implies, false_implies, implies_true, and_true, true_and, not_true_eq_false, not_false_eq_true, decide_eq_true_eq, Bool.not_eq_true', Bool.not_eq_false', decide_eq_false_iff_not, iL_empty, eq_iT, gc_11, gc_0, gc_1, gc_12, getP_none])
  exact hP _ hg
theorem sp_require_told_word (r : Int) (w : List Int) (h1 : 1 ≤ r) (h2 : r ≤ 4) (hw : Wd r w) (hl : w.length ≤ 400) (hP : ∀ h', Gr [] h h' → P .non h') : wpE (run GT GC GF (d + 6) 28 [.int r, iT w] h) P := by
  rw [run_in (F := F28) rfl rfl]
  simp -implicitDefEqProofs only [F28, b28_0, b28_1, w_cons, w_nil, w_set, w_asg, w_par2, w_par3, w_setix, w_aug, w_expr, w_ret, w_retN, w_ifs, w_brk, w_cnt, w_pass, w_raise, w_for, w_whl, e_v, e_gc, e_int, e_str, e_bl, e_non, e_neg, e_not, e_bin, e_cmp, e_chain, e_and1, e_and2, e_or1, e_or2, e_and, e_or, e_ite, e_T, e_call, e_callv, e_bi, e_isi, e_meth, e_ix, e_slF, e_slT, e_slB, e_slN, e_rev, e_tup, e_lst, e_lc, e_lcIf, es_nil, es_cons, i_val, i_rng1, i_rng2, i_zip, getP_some, getP_map, getP_bind, getP_ite, asI_int, asF_fn, asT_tup, wpE_ok, step_name, step_many, c_eq, c_ne, c_lt, c_le, c_gt, c_ge, c_is, c_isNot, eq_int, eq_bl, eq_str, is_bl, is_nn, is_in, is_bn, is_sn, is_tn, is_ln, is_rn, t_non, t_bl, t_int, t_tup, t_rol, b_add, b_sub, b_mul, b_mod, b_fdiv, b_pow, b_addT, b_addS, b_mulT, b_mulSame, f_lenT, f_lenL, f_abs, f_max, f_min, f_int, f_intB, f_tupT, f_lstT, f_lstR, f_lenR, f_tupR, f_sum, f_all, f_any, f_anyT, f_allT, f_repr, x_tup, x_rol, x_ref, l_tup, l_ref, r_tup, m_app, m_ext, m_pop, m_cnt, p_app, p_ext, p_pop, p_cnt, s_tup, s_rol, s_ref, y_ii, y_ib, y_it, y_il, y_bi, y_bb, y_bt, y_tt, y_ti, y_tb, y_tl, y_ni, y_nt, x_set, a_add, a_sub, g_name, g_many, g_nil, g_cons, startP, wipeP, Tg.slots, List.map_cons, List.map_nil, List.length_cons, List.length_nil, List.replicate_succ, List.replicate_zero, List.cons_append, List.nil_append, List.getElem?_cons_zero, List.getElem?_cons_succ, Option.join_some, List.set_cons_zero, List.set_cons_succ, Bool.true_eq_false, reduceCtorEq, Option.map_some, Option.bind_some, Nat.reduceAdd, Nat.reduceSub, Nat.zero_add, Bool.not_true, Bool.not_false, Bool.false_eq_true, true_implies, false_implies, implies_true, and_true, true_and, not_true_eq_false, not_false_eq_true, decide_eq_true_eq, Bool.not_eq_true', Bool.not_eq_false', decide_eq_false_iff_not, iL_empty, eq_iT, gc_11, gc_0, gc_1, gc_12, getP_none]
  refine sp_require_letters r h1 h2 ?_
  (try simp -implicitDefEqProofs only [w_cons, w_nil, w_set, w_asg, w_par2, w_par3, w_setix, w_aug, w_expr, w_ret, w_retN, w_ifs, w_brk, w_cnt, w_pass, w_raise, w_for, w_whl, e_v, e_gc, e_int, e_str, e_bl, e_non, e_neg, e_not, e_bin, e_cmp, e_chain, e_and1, e_and2, e_or1, e_or2, e_and, e_or, e_ite, e_T, e_call, e_callv, e_bi, e_isi, e_meth, e_ix, e_slF, e_slT, e_slB, e_slN, e_rev, e_tup, e_lst, e_lc, e_lcIf, es_nil, es_cons, i_val, i_rng1, i_rng2, i_zip, getP_some, getP_map, getP_bind, getP_ite, asI_int, asF_fn, asT_tup, wpE_ok, step_name, step_many, c_eq, c_ne, c_lt, c_le, c_gt, c_ge, c_is, c_isNot, eq_int, eq_bl, eq_str, is_bl, is_nn, is_in, is_bn, is_sn, is_tn, is_ln, is_rn, t_non, t_bl, t_int, t_tup, t_rol, b_add, b_sub, b_mul, b_mod, b_fdiv, b_pow, b_addT, b_addS, b_mulT, b_mulSame, f_lenT, f_lenL, f_abs, f_max, f_min, f_int, f_intB, f_tupT, f_lstT, f_lstR, f_lenR, f_tupR, f_sum, f_all, f_any, f_anyT, f_allT, f_repr, x_tup, x_rol, x_ref, l_tup, l_ref, r_tup, m_app, m_ext, m_pop, m_cnt, p_app, p_ext, p_pop, p_cnt, s_tup, s_rol, s_ref, y_ii, y_ib, y_it, y_il, y_bi, y_bb, y_bt, y_tt, y_ti, y_tb, y_tl, y_ni, y_nt, x_set, a_add, a_sub, g_name, g_many, g_nil, g_cons, startP, wipeP, Tg.slots, List.map_cons, List.map_nil, List.length_cons, List.length_nil, List.replicate_succ, List.replicate_zero, List.cons_append, List.nil_append, List.getElem?_cons_zero, List.getElem?_cons_succ, Option.join_some, List.set_cons_zero, List.set_cons_succ, Bool.true_eq_false, reduceCtorEq, Option.map_some, Option.bind_some, Nat.reduceAdd, Nat.reduceSub, Nat.zero_add, Bool.not_true, Bool.not_false, Bool.false_eq_true, true_implies, false_implies, implies_true, and_true, true_and, not_true_eq_false, not_false_eq_true, decide_eq_true_eq, Bool.not_eq_true', Bool.not_eq_false', decide_eq_false_iff_not, iL_empty, eq_iT, gc_11, gc_0, gc_1, gc_12, getP_none])
  exact sp_require_word r w hw hl fun h' hg => hP _ hg
theorem sp_require_two_words (r : Int) (v w : List Int) (h1 : 1 ≤ r) (h2 : r ≤ 4) (hv : Wd r v) (hlv : v.length ≤ 400) (hw : Wd r w) (hl : w.length ≤ 400) (hP : ∀ h', Gr [] h h' → P .non h') : wpE (run GT GC GF (d + 7) 29 [.int r, iT v, iT w] h) P := by
  rw [run_in (F := F29) rfl rfl]
  simp -implicitDefEqProofs only [F29, b29_0, b29_1, w_cons, w_nil, w_set, w_asg, w_par2, w_par3, w_setix, w_aug, w_expr, w_ret, w_retN, w_ifs, w_brk, w_cnt, w_pass, w_raise, w_for, w_whl, e_v, e_gc, e_int, e_str, e_bl, e_non, e_neg, e_not, e_bin, e_cmp, e_chain, e_and1, e_and2, e_or1, e_or2, e_and, e_or, e_ite, e_T, e_call, e_callv, e_bi, e_isi, e_meth, e_ix, e_slF, e_slT, e_slB, e_slN, e_rev, e_tup, e_lst, e_lc, e_lcIf, es_nil, es_cons, i_val, i_rng1, i_rng2, i_zip, getP_some, getP_map, getP_bind, getP_ite, asI_int, asF_fn, asT_tup, wpE_ok, step_name, step_many, c_eq, c_ne, c_lt, c_le, c_gt, c_ge, c_is, c_isNot, eq_int, eq_bl, eq_str, is_bl, is_nn, is_in, is_bn, is_sn, is_tn, is_ln, is_rn, t_non, t_bl, t_int, t_tup, t_rol, b_add, b_sub, b_mul, b_mod, b_fdiv, b_pow, b_addT, b_addS, b_mulT, b_mulSame, f_lenT, f_lenL, f_abs, f_max, f_min, f_int, f_intB, f_tupT, f_lstT, f_lstR, f_lenR, f_tupR, f_sum, f_all, f_any, f_anyT, f_allT, f_repr, x_tup, x_rol, x_ref, l_tup, l_ref, r_tup, m_app, m_ext, m_pop, m_cnt, p_app, p_ext, p_pop, p_cnt, s_tup, s_rol, s_ref, y_ii, y_ib, y_it, y_il, y_bi, y_bb, y_bt, y_tt, y_ti, y_tb, y_tl, y_ni, y_nt, x_set, a_add, a_sub, g_name, g_many, g_nil, g_cons, startP, wipeP, Tg.slots, List.map_cons, List.map_nil, List.length_cons, List.length_nil, List.replicate_succ, List.replicate_zero, List.cons_append, List.nil_append, List.getElem?_cons_zero, List.getElem?_cons_succ, Option.join_some, List.set_cons_zero, List.set_cons_succ, Bool.true_eq_false, reduceCtorEq, Option.map_some, Option.bind_some, Nat.reduceAdd, Nat.reduceSub, Nat.zero_add, Bool.not_true, Bool.not_false, Bool.false_eq_true, true_implies, false_implies, implies_true, and_true, true_and, not_true_eq_false, not_false_eq_true, decide_eq_true_eq, Bool.not_eq_true', Bool.not_eq_false', decide_eq_false_iff_not, iL_empty, eq_iT, gc_11, gc_0, gc_1, gc_12, getP_none]
  refine sp_require_told_word r v h1 h2 hv hlv fun h' hg => ?_
  (try simp -implicitDefEqProofs only [w_cons, w_nil, w_set, w_asg, w_par2, w_par3, w_setix, w_aug, w_expr, w_ret, w_retN, w_ifs, w_brk, w_cnt, w_pass, w_raise, w_for, w_whl, e_v, e_gc, e_int, e_str, e_bl, e_non, e_neg, e_not, e_bin, e_cmp, e_chain, e_and1, e_and2, e_or1, e_or2, e_and, e_or, e_ite, e_T, e_call, e_callv, e_bi, e_isi, e_meth, e_ix, e_slF, e_slT, e_slB, e_slN, e_rev, e_tup, e_lst, e_lc, e_lcIf, es_nil, es_cons, i_val, i_rng1, i_rng2, i_zip, getP_some, getP_map, getP_bind, getP_ite, asI_int, asF_fn, asT_tup, wpE_ok, step_name, step_many, c_eq, c_ne, c_lt, c_le, c_gt, c_ge, c_is, c_isNot, eq_int, eq_bl, eq_str, is_bl, is_nn, is_in, is_bn, is_sn, is_tn, is_ln, is_rn, t_non, t_bl, t_int, t_tup, t_rol, b_add, b_sub, b_mul, b_mod, b_fdiv, b_pow, b_addT, b_addS, b_mulT, b_mulSame, f_lenT, f_lenL, f_abs, f_max, f_min, f_int, f_intB, f_tupT, f_lstT, f_lstR, f_lenR, f_tupR, f_sum, f_all, f_any, f_anyT, f_allT, f_repr, x_tup, x_rol, x_ref, l_tup, l_ref, r_tup, m_app, m_ext, m_pop, m_cnt, p_app, p_ext, p_pop, p_cnt, s_tup, s_rol, s_ref, y_ii, y_ib, y_it, y_il, y_bi, y_bb, y_bt, y_tt, y_ti, y_tb, y_tl, y_ni, y_nt, x_set, a_add, a_sub, g_name, g_many, g_nil, g_cons, startP, wipeP, Tg.slots, List.map_cons, List.map_nil, List.length_cons, List.length_nil, List.replicate_succ, List.replicate_zero, List.cons_append, List.nil_append, List.getElem?_cons_zero, List.getElem?_cons_succ, Option.join_some, List.set_cons_zero, List.set_cons_succ, Bool.true_eq_false, reduceCtorEq, Option.map_some, Option.bind_some, Nat.reduceAdd, Nat.reduceSub, Nat.zero_add, Bool.not_true, Bool.not_false, Bool.false_eq_true, true_implies, false_implies, implies_true, and_true, true_and, not_true_eq_false, not_false_eq_true, decide_eq_true_eq, Bool.not_eq_true', Bool.not_eq_false', decide_eq_false_iff_not, iL_empty, eq_iT, gc_11, gc_0, gc_1, gc_12, getP_none])
  exact sp_require_word r w hw hl fun h'' hg' => hP _ (hg.trans hg')
theorem sp_require_told_words (r : Int) (ws : List (List Int)) (h1 : 1 ≤ r) (h2 : r ≤ 4) (hw : ∀ w ∈ ws, Wd r w ∧ w.length ≤ 400) (hl : ws.length ≤ 20) (hs : (ws.map (fun w => (w.length : Int))).sum ≤ 400) (hP : ∀ h', Gr [] h h' → P .non h') : wpE (run GT GC GF (d + 7) 30 [.int r, wT ws] h) P := by
  rw [run_in (F := F30) rfl rfl]
  simp -implicitDefEqProofs only [F30, b30_0, b30_1, w_cons, w_nil, w_set, w_asg, w_par2, w_par3, w_setix, w_aug, w_expr, w_ret, w_retN, w_ifs, w_brk, w_cnt, w_pass, w_raise, w_for, w_whl, e_v, e_gc, e_int, e_str, e_bl, e_non, e_neg, e_not, e_bin, e_cmp, e_chain, e_and1, e_and2, e_or1, e_or2, e_and, e_or, e_ite, e_T, e_call, e_callv, e_bi, e_isi, e_meth, e_ix, e_slF, e_slT, e_slB, e_slN, e_rev, e_tup, e_lst, e_lc, e_lcIf, es_nil, es_cons, i_val, i_rng1, i_rng2, i_zip, getP_some, getP_map, getP_bind, getP_ite, asI_int, asF_fn, asT_tup, wpE_ok, step_name, step_many, c_eq, c_ne, c_lt, c_le, c_gt, c_ge, c_is, c_isNot, eq_int, eq_bl, eq_str, is_bl, is_nn, is_in, is_bn, is_sn, is_tn, is_ln, is_rn, t_non, t_bl, t_int, t_tup, t_rol, b_add, b_sub, b_mul, b_mod, b_fdiv, b_pow, b_addT, b_addS, b_mulT, b_mulSame, f_lenT, f_lenL, f_abs, f_max, f_min, f_int, f_intB, f_tupT, f_lstT, f_lstR, f_lenR, f_tupR, f_sum, f_all, f_any, f_anyT, f_allT, f_repr, x_tup, x_rol, x_ref, l_tup, l_ref, r_tup, m_app, m_ext, m_pop, m_cnt, p_app, p_ext, p_pop, p_cnt, s_tup, s_rol, s_ref, y_ii, y_ib, y_it, y_il, y_bi, y_bb, y_bt, y_tt, y_ti, y_tb, y_tl, y_ni, y_nt, x_set, a_add, a_sub, g_name, g_many, g_nil, g_cons, startP, wipeP, Tg.slots, List.map_cons, List.map_nil, List.length_cons, List.length_nil, List.replicate_succ, List.replicate_zero, List.cons_append, List.nil_append, List.getElem?_cons_zero, List.getElem?_cons_succ, Option.join_some, List.set_cons_zero, List.set_cons_succ, Bool.true_eq_false, reduceCtorEq, Option.map_some, Option.bind_some, Nat.reduceAdd, Nat.reduceSub, Nat.zero_add, Bool.not_true, Bool.not_false, Bool.false_eq_true, true_implies, false_implies, implies_true, and_true, true_and, not_true_eq_false, not_false_eq_true, decide_eq_true_eq, Bool.not_eq_true', Bool.not_eq_false', decide_eq_false_iff_not, iL_empty, eq_iT, gc_11, gc_0, gc_1, gc_12, getP_none]
  refine sp_require_letters r h1 h2 ?_
  (try simp -implicitDefEqProofs only [w_cons, w_nil, w_set, w_asg, w_par2, w_par3, w_setix, w_aug, w_expr, w_ret, w_retN, w_ifs, w_brk, w_cnt, w_pass, w_raise, w_for, w_whl, e_v, e_gc, e_int, e_str, e_bl, e_non, e_neg, e_not, e_bin, e_cmp, e_chain, e_and1, e_and2, e_or1, e_or2, e_and, e_or, e_ite, e_T, e_call, e_callv, e_bi, e_isi, e_meth, e_ix, e_slF, e_slT, e_slB, e_slN, e_rev, e_tup, e_lst, e_lc, e_lcIf, es_nil, es_cons, i_val, i_rng1, i_rng2, i_zip, getP_some, getP_map, getP_bind, getP_ite, asI_int, asF_fn, asT_tup, wpE_ok, step_name, step_many, c_eq, c_ne, c_lt, c_le, c_gt, c_ge, c_is, c_isNot, eq_int, eq_bl, eq_str, is_bl, is_nn, is_in, is_bn, is_sn, is_tn, is_ln, is_rn, t_non, t_bl, t_int, t_tup, t_rol, b_add, b_sub, b_mul, b_mod, b_fdiv, b_pow, b_addT, b_addS, b_mulT, b_mulSame, f_lenT, f_lenL, f_abs, f_max, f_min, f_int, f_intB, f_tupT, f_lstT, f_lstR, f_lenR, f_tupR, f_sum, f_all, f_any, f_anyT, f_allT, f_repr, x_tup, x_rol, x_ref, l_tup, l_ref, r_tup, m_app, m_ext, m_pop, m_cnt, p_app, p_ext, p_pop, p_cnt, s_tup, s_rol, s_ref, y_ii, y_ib, y_it, y_il, y_bi, y_bb, y_bt, y_tt, y_ti, y_tb, y_tl, y_ni, y_nt, x_set, a_add, a_sub, g_name, g_many, g_nil, g_cons, startP, wipeP, Tg.slots, List.map_cons, List.map_nil, List.length_cons, List.length_nil, List.replicate_succ, List.replicate_zero, List.cons_append, List.nil_append, List.getElem?_cons_zero, List.getElem?_cons_succ, Option.join_some, List.set_cons_zero, List.set_cons_succ, Bool.true_eq_false, reduceCtorEq, Option.map_some, Option.bind_some, Nat.reduceAdd, Nat.reduceSub, Nat.zero_add, Bool.not_true, Bool.not_false, Bool.false_eq_true, true_implies, false_implies, implies_true, and_true, true_and, not_true_eq_false, not_false_eq_true, decide_eq_true_eq, Bool.not_eq_true', Bool.not_eq_false', decide_eq_false_iff_not, iL_empty, eq_iT, gc_11, gc_0, gc_1, gc_12, getP_none])
  exact sp_require_words r ws hw hl hs fun h' hg => hP _ hg
theorem sp_alphabet (r : Nat) (h1 : 1 ≤ r) (h2 : r ≤ 4) (hP : ∀ h', Gr [] h h' → P (iT (lets r)) h') : wpE (run GT GC GF (d + 5) 31 [.int r] h) P := by
  rw [run_in (F := F31) rfl rfl]
  simp -implicitDefEqProofs only [F31, b31_0, b31_1, w_cons, w_nil, w_set, w_asg, w_par2, w_par3, w_setix, w_aug, w_expr, w_ret, w_retN, w_ifs, w_brk, w_cnt, w_pass, w_raise, w_for, w_whl, e_v, e_gc, e_int, e_str, e_bl, e_non, e_neg, e_not, e_bin, e_cmp, e_chain, e_and1, e_and2, e_or1, e_or2, e_and, e_or, e_ite, e_T, e_call, e_callv, e_bi, e_isi, e_meth, e_ix, e_slF, e_slT, e_slB, e_slN, e_rev, e_tup, e_lst, e_lc, e_lcIf, es_nil, es_cons, i_val, i_rng1, i_rng2, i_zip, getP_some, getP_map, getP_bind, getP_ite, asI_int, asF_fn, asT_tup, wpE_ok, step_name, step_many, c_eq, c_ne, c_lt, c_le, c_gt, c_ge, c_is, c_isNot, eq_int, eq_bl, eq_str, is_bl, is_nn, is_in, is_bn, is_sn, is_tn, is_ln, is_rn, t_non, t_bl, t_int, t_tup, t_rol, b_add, b_sub, b_mul, b_mod, b_fdiv, b_pow, b_addT, b_addS, b_mulT, b_mulSame, f_lenT, f_lenL, f_abs, f_max, f_min, f_int, f_intB, f_tupT, f_lstT, f_lstR, f_lenR, f_tupR, f_sum, f_all, f_any, f_anyT, f_allT, f_repr, x_tup, x_rol, x_ref, l_tup, l_ref, r_tup, m_app, m_ext, m_pop, m_cnt, p_app, p_ext, p_pop, p_cnt, s_tup, s_rol, s_ref, y_ii, y_ib, y_it, y_il, y_bi, y_bb, y_bt, y_tt, y_ti, y_tb, y_tl, y_ni, y_nt, x_set, a_add, a_sub, g_name, g_many, g_nil, g_cons, startP, wipeP, Tg.slots, List.map_cons, List.map_nil, List.length_cons, List.length_nil, List.replicate_succ, List.replicate_zero, List.cons_append, List.nil_append, List.getElem?_cons_zero, List.getElem?_cons_succ, Option.join_some, List.set_cons_zero, List.set_cons_succ, Bool.true_eq_false, reduceCtorEq, Option.map_some, Option.bind_some, Nat.reduceAdd, Nat.reduceSub, Nat.zero_add, Bool.not_true, Bool.not_false, Bool.false_eq_true, true_implies, false_implies, implies_true, and_true, true_and, not_true_eq_false, not_false_eq_true, decide_eq_true_eq, Bool.not_eq_true', Bool.not_eq_false', decide_eq_false_iff_not, iL_empty, eq_iT, gc_11, gc_0, gc_1, gc_12, getP_none]
  have q1 : (1 : Int) ≤ r := by omega
  have q2 : (r : Int) ≤ 4 := by omega
  refine sp_require_letters (r : Int) q1 q2 ?_
  (try simp -implicitDefEqProofs only [w_cons, w_nil, w_set, w_asg, w_par2, w_par3, w_setix, w_aug, w_expr, w_ret, w_retN, w_ifs, w_brk, w_cnt, w_pass, w_raise, w_for, w_whl, e_v, e_gc, e_int, e_str, e_bl, e_non, e_neg, e_not, e_bin, e_cmp, e_chain, e_and1, e_and2, e_or1, e_or2, e_and, e_or, e_ite, e_T, e_call, e_callv, e_bi, e_isi, e_meth, e_ix, e_slF, e_slT, e_slB, e_slN, e_rev, e_tup, e_lst, e_lc, e_lcIf, es_nil, es_cons, i_val, i_rng1, i_rng2, i_zip, getP_some, getP_map, getP_bind, getP_ite, asI_int, asF_fn, asT_tup, wpE_ok, step_name, step_many, c_eq, c_ne, c_lt, c_le, c_gt, c_ge, c_is, c_isNot, eq_int, eq_bl, eq_str, is_bl, is_nn, is_in, is_bn, is_sn, is_tn, is_ln, is_rn, t_non, t_bl, t_int, t_tup, t_rol, b_add, b_sub, b_mul, b_mod, b_fdiv, b_pow, b_addT, b_addS, b_mulT, b_mulSame, f_lenT, f_lenL, f_abs, f_max, f_min, f_int, f_intB, f_tupT, f_lstT, f_lstR, f_lenR, f_tupR, f_sum, f_all, f_any, f_anyT, f_allT, f_repr, x_tup, x_rol, x_ref, l_tup, l_ref, r_tup, m_app, m_ext, m_pop, m_cnt, p_app, p_ext, p_pop, p_cnt, s_tup, s_rol, s_ref, y_ii, y_ib, y_it, y_il, y_bi, y_bb, y_bt, y_tt, y_ti, y_tb, y_tl, y_ni, y_nt, x_set, a_add, a_sub, g_name, g_many, g_nil, g_cons, startP, wipeP, Tg.slots, List.map_cons, List.map_nil, List.length_cons, List.length_nil, List.replicate_succ, List.replicate_zero, List.cons_append, List.nil_append, List.getElem?_cons_zero, List.getElem?_cons_succ, Option.join_some, List.set_cons_zero, List.set_cons_succ, Bool.true_eq_false, reduceCtorEq, Option.map_some, Option.bind_some, Nat.reduceAdd, Nat.reduceSub, Nat.zero_add, Bool.not_true, Bool.not_false, Bool.false_eq_true, true_implies, false_implies, implies_true, and_true, true_and, not_true_eq_false, not_false_eq_true, decide_eq_true_eq, Bool.not_eq_true', Bool.not_eq_false', decide_eq_false_iff_not, iL_empty, eq_iT, gc_11, gc_0, gc_1, gc_12, getP_none])
  exact sp_letters_in r (by omega) hP
theorem sp_shortened (r : Int) (w : List Int) (h1 : 1 ≤ r) (h2 : r ≤ 4) (hw : Wd r w) (hl : w.length ≤ 400) (hP : ∀ h', Gr [] h h' → P (iT (sh w)) h') : wpE (run GT GC GF (d + 7) 32 [.int r, iT w] h) P := by
  rw [run_in (F := F32) rfl rfl]
  simp -implicitDefEqProofs only [F32, b32_0, b32_1, w_cons, w_nil, w_set, w_asg, w_par2, w_par3, w_setix, w_aug, w_expr, w_ret, w_retN, w_ifs, w_brk, w_cnt, w_pass, w_raise, w_for, w_whl, e_v, e_gc, e_int, e_str, e_bl, e_non, e_neg, e_not, e_bin, e_cmp, e_chain, e_and1, e_and2, e_or1, e_or2, e_and, e_or, e_ite, e_T, e_call, e_callv, e_bi, e_isi, e_meth, e_ix, e_slF, e_slT, e_slB, e_slN, e_rev, e_tup, e_lst, e_lc, e_lcIf, es_nil, es_cons, i_val, i_rng1, i_rng2, i_zip, getP_some, getP_map, getP_bind, getP_ite, asI_int, asF_fn, asT_tup, wpE_ok, step_name, step_many, c_eq, c_ne, c_lt, c_le, c_gt, c_ge, c_is, c_isNot, eq_int, eq_bl, eq_str, is_bl, is_nn, is_in, is_bn, is_sn, is_tn, is_ln, is_rn, t_non, t_bl, t_int, t_tup, t_rol, b_add, b_sub, b_mul, b_mod, b_fdiv, b_pow, b_addT, b_addS, b_mulT, b_mulSame, f_lenT, f_lenL, f_abs, f_max, f_min, f_int, f_intB, f_tupT, f_lstT, f_lstR, f_lenR, f_tupR, f_sum, f_all, f_any, f_anyT, f_allT, f_repr, x_tup, x_rol, x_ref, l_tup, l_ref, r_tup, m_app, m_ext, m_pop, m_cnt, p_app, p_ext, p_pop, p_cnt, s_tup, s_rol, s_ref, y_ii, y_ib, y_it, y_il, y_bi, y_bb, y_bt, y_tt, y_ti, y_tb, y_tl, y_ni, y_nt, x_set, a_add, a_sub, g_name, g_many, g_nil, g_cons, startP, wipeP, Tg.slots, List.map_cons, List.map_nil, List.length_cons, List.length_nil, List.replicate_succ, List.replicate_zero, List.cons_append, List.nil_append, List.getElem?_cons_zero, List.getElem?_cons_succ, Option.join_some, List.set_cons_zero, List.set_cons_succ, Bool.true_eq_false, reduceCtorEq, Option.map_some, Option.bind_some, Nat.reduceAdd, Nat.reduceSub, Nat.zero_add, Bool.not_true, Bool.not_false, Bool.false_eq_true, true_implies, false_implies, implies_true, and_true, true_and, not_true_eq_false, not_false_eq_true, decide_eq_true_eq, Bool.not_eq_true', Bool.not_eq_false', decide_eq_false_iff_not, iL_empty, eq_iT, gc_11, gc_0, gc_1, gc_12, getP_none]
  refine sp_require_told_word r w h1 h2 hw hl fun h' hg => ?_
  (try simp -implicitDefEqProofs only [w_cons, w_nil, w_set, w_asg, w_par2, w_par3, w_setix, w_aug, w_expr, w_ret, w_retN, w_ifs, w_brk, w_cnt, w_pass, w_raise, w_for, w_whl, e_v, e_gc, e_int, e_str, e_bl, e_non, e_neg, e_not, e_bin, e_cmp, e_chain, e_and1, e_and2, e_or1, e_or2, e_and, e_or, e_ite, e_T, e_call, e_callv, e_bi, e_isi, e_meth, e_ix, e_slF, e_slT, e_slB, e_slN, e_rev, e_tup, e_lst, e_lc, e_lcIf, es_nil, es_cons, i_val, i_rng1, i_rng2, i_zip, getP_some, getP_map, getP_bind, getP_ite, asI_int, asF_fn, asT_tup, wpE_ok, step_name, step_many, c_eq, c_ne, c_lt, c_le, c_gt, c_ge, c_is, c_isNot, eq_int, eq_bl, eq_str, is_bl, is_nn, is_in, is_bn, is_sn, is_tn, is_ln, is_rn, t_non, t_bl, t_int, t_tup, t_rol, b_add, b_sub, b_mul, b_mod, b_fdiv, b_pow, b_addT, b_addS, b_mulT, b_mulSame, f_lenT, f_lenL, f_abs, f_max, f_min, f_int, f_intB, f_tupT, f_lstT, f_lstR, f_lenR, f_tupR, f_sum, f_all, f_any, f_anyT, f_allT, f_repr, x_tup, x_rol, x_ref, l_tup, l_ref, r_tup, m_app, m_ext, m_pop, m_cnt, p_app, p_ext, p_pop, p_cnt, s_tup, s_rol, s_ref, y_ii, y_ib, y_it, y_il, y_bi, y_bb, y_bt, y_tt, y_ti, y_tb, y_tl, y_ni, y_nt, x_set, a_add, a_sub, g_name, g_many, g_nil, g_cons, startP, wipeP, Tg.slots, List.map_cons, List.map_nil, List.length_cons, List.length_nil, List.replicate_succ, List.replicate_zero, List.cons_append, List.nil_append, List.getElem?_cons_zero, List.getElem?_cons_succ, Option.join_some, List.set_cons_zero, List.set_cons_succ, Bool.true_eq_false, reduceCtorEq, Option.map_some, Option.bind_some, Nat.reduceAdd, Nat.reduceSub, Nat.zero_add, Bool.not_true, Bool.not_false, Bool.false_eq_true, true_implies, false_implies, implies_true, and_true, true_and, not_true_eq_false, not_false_eq_true, decide_eq_true_eq, Bool.not_eq_true', Bool.not_eq_false', decide_eq_false_iff_not, iL_empty, eq_iT, gc_11, gc_0, gc_1, gc_12, getP_none])
  exact sp_shortened_in w (by omega) fun h'' hg' => hP _ (hg.trans hg')
theorem sp_undoing (r : Int) (w : List Int) (h1 : 1 ≤ r) (h2 : r ≤ 4) (hw : Wd r w) (hl : w.length ≤ 400) (hP : ∀ h', Gr [] h h' → P (iT (un (sh w))) h') : wpE (run GT GC GF (d + 7) 33 [.int r, iT w] h) P := by
  rw [run_in (F := F33) rfl rfl]
  simp -implicitDefEqProofs only [F33, b33_0, b33_1, w_cons, w_nil, w_set, w_asg, w_par2, w_par3, w_setix, w_aug, w_expr, w_ret, w_retN, w_ifs, w_brk, w_cnt, w_pass, w_raise, w_for, w_whl, e_v, e_gc, e_int, e_str, e_bl, e_non, e_neg, e_not, e_bin, e_cmp, e_chain, e_and1, e_and2, e_or1, e_or2, e_and, e_or, e_ite, e_T, e_call, e_callv, e_bi, e_isi, e_meth, e_ix, e_slF, e_slT, e_slB, e_slN, e_rev, e_tup, e_lst, e_lc, e_lcIf, es_nil, es_cons, i_val, i_rng1, i_rng2, i_zip, getP_some, getP_map, getP_bind, getP_ite, asI_int, asF_fn, asT_tup, wpE_ok, step_name, step_many, c_eq, c_ne, c_lt, c_le, c_gt, c_ge, c_is, c_isNot, eq_int, eq_bl, eq_str, is_bl, is_nn, is_in, is_bn, is_sn, is_tn, is_ln, is_rn, t_non, t_bl, t_int, t_tup, t_rol, b_add, b_sub, b_mul, b_mod, b_fdiv, b_pow, b_addT, b_addS, b_mulT, b_mulSame, f_lenT, f_lenL, f_abs, f_max, f_min, f_int, f_intB, f_tupT, f_lstT, f_lstR, f_lenR, f_tupR, f_sum, f_all, f_any, f_anyT, f_allT, f_repr, x_tup, x_rol, x_ref, l_tup, l_ref, r_tup, m_app, m_ext, m_pop, m_cnt, p_app, p_ext, p_pop, p_cnt, s_tup, s_rol, s_ref, y_ii, y_ib, y_it, y_il, y_bi, y_bb, y_bt, y_tt, y_ti, y_tb, y_tl, y_ni, y_nt, x_set, a_add, a_sub, g_name, g_many, g_nil, g_cons, startP, wipeP, Tg.slots, List.map_cons, List.map_nil, List.length_cons, List.length_nil, List.replicate_succ, List.replicate_zero, List.cons_append, List.nil_append, List.getElem?_cons_zero, List.getElem?_cons_succ, Option.join_some, List.set_cons_zero, List.set_cons_succ, Bool.true_eq_false, reduceCtorEq, Option.map_some, Option.bind_some, Nat.reduceAdd, Nat.reduceSub, Nat.zero_add, Bool.not_true, Bool.not_false, Bool.false_eq_true, true_implies, false_implies, implies_true, and_true, true_and, not_true_eq_false, not_false_eq_true, decide_eq_true_eq, Bool.not_eq_true', Bool.not_eq_false', decide_eq_false_iff_not, iL_empty, eq_iT, gc_11, gc_0, gc_1, gc_12, getP_none]
  refine sp_require_told_word r w h1 h2 hw hl fun h' hg => ?_
  (try simp -implicitDefEqProofs only [w_cons, w_nil, w_set, w_asg, w_par2, w_par3, w_setix, w_aug, w_expr, w_ret, w_retN, w_ifs, w_brk, w_cnt, w_pass, w_raise, w_for, w_whl, e_v, e_gc, e_int, e_str, e_bl, e_non, e_neg, e_not, e_bin, e_cmp, e_chain, e_and1, e_and2, e_or1, e_or2, e_and, e_or, e_ite, e_T, e_call, e_callv, e_bi, e_isi, e_meth, e_ix, e_slF, e_slT, e_slB, e_slN, e_rev, e_tup, e_lst, e_lc, e_lcIf, es_nil, es_cons, i_val, i_rng1, i_rng2, i_zip, getP_some, getP_map, getP_bind, getP_ite, asI_int, asF_fn, asT_tup, wpE_ok, step_name, step_many, c_eq, c_ne, c_lt, c_le, c_gt, c_ge, c_is, c_isNot, eq_int, eq_bl, eq_str, is_bl, is_nn, is_in, is_bn, is_sn, is_tn, is_ln, is_rn, t_non, t_bl, t_int, t_tup, t_rol, b_add, b_sub, b_mul, b_mod, b_fdiv, b_pow, b_addT, b_addS, b_mulT, b_mulSame, f_lenT, f_lenL, f_abs, f_max, f_min, f_int, f_intB, f_tupT, f_lstT, f_lstR, f_lenR, f_tupR, f_sum, f_all, f_any, f_anyT, f_allT, f_repr, x_tup, x_rol, x_ref, l_tup, l_ref, r_tup, m_app, m_ext, m_pop, m_cnt, p_app, p_ext, p_pop, p_cnt, s_tup, s_rol, s_ref, y_ii, y_ib, y_it, y_il, y_bi, y_bb, y_bt, y_tt, y_ti, y_tb, y_tl, y_ni, y_nt, x_set, a_add, a_sub, g_name, g_many, g_nil, g_cons, startP, wipeP, Tg.slots, List.map_cons, List.map_nil, List.length_cons, List.length_nil, List.replicate_succ, List.replicate_zero, List.cons_append, List.nil_append, List.getElem?_cons_zero, List.getElem?_cons_succ, Option.join_some, List.set_cons_zero, List.set_cons_succ, Bool.true_eq_false, reduceCtorEq, Option.map_some, Option.bind_some, Nat.reduceAdd, Nat.reduceSub, Nat.zero_add, Bool.not_true, Bool.not_false, Bool.false_eq_true, true_implies, false_implies, implies_true, and_true, true_and, not_true_eq_false, not_false_eq_true, decide_eq_true_eq, Bool.not_eq_true', Bool.not_eq_false', decide_eq_false_iff_not, iL_empty, eq_iT, gc_11, gc_0, gc_1, gc_12, getP_none])
  refine sp_undone_in w (by omega) fun h2 hg2 => ?_
  (try simp -implicitDefEqProofs only [w_cons, w_nil, w_set, w_asg, w_par2, w_par3, w_setix, w_aug, w_expr, w_ret, w_retN, w_ifs, w_brk, w_cnt, w_pass, w_raise, w_for, w_whl, e_v, e_gc, e_int, e_str, e_bl, e_non, e_neg, e_not, e_bin, e_cmp, e_chain, e_and1, e_and2, e_or1, e_or2, e_and, e_or, e_ite, e_T, e_call, e_callv, e_bi, e_isi, e_meth, e_ix, e_slF, e_slT, e_slB, e_slN, e_rev, e_tup, e_lst, e_lc, e_lcIf, es_nil, es_cons, i_val, i_rng1, i_rng2, i_zip, getP_some, getP_map, getP_bind, getP_ite, asI_int, asF_fn, asT_tup, wpE_ok, step_name, step_many, c_eq, c_ne, c_lt, c_le, c_gt, c_ge, c_is, c_isNot, eq_int, eq_bl, eq_str, is_bl, is_nn, is_in, is_bn, is_sn, is_tn, is_ln, is_rn, t_non, t_bl, t_int, t_tup, t_rol, b_add, b_sub, b_mul, b_mod, b_fdiv, b_pow, b_addT, b_addS, b_mulT, b_mulSame, f_lenT, f_lenL, f_abs, f_max, f_min, f_int, f_intB, f_tupT, f_lstT, f_lstR, f_lenR, f_tupR, f_sum, f_all, f_any, f_anyT, f_allT, f_repr, x_tup, x_rol, x_ref, l_tup, l_ref, r_tup, m_app, m_ext, m_pop, m_cnt, p_app, p_ext, p_pop, p_cnt, s_tup, s_rol, s_ref, y_ii, y_ib, y_it, y_il, y_bi, y_bb, y_bt, y_tt, y_ti, y_tb, y_tl, y_ni, y_nt, x_set, a_add, a_sub, g_name, g_many, g_nil, g_cons, startP, wipeP, Tg.slots, List.map_cons, List.map_nil, List.length_cons, List.length_nil, List.replicate_succ, List.replicate_zero, List.cons_append, List.nil_append, List.getElem?_cons_zero, List.getElem?_cons_succ, Option.join_some, List.set_cons_zero, List.set_cons_succ, Bool.true_eq_false, reduceCtorEq, Option.map_some, Option.bind_some, Nat.reduceAdd, Nat.reduceSub, Nat.zero_add, Bool.not_true, Bool.not_false, Bool.false_eq_true, true_implies, false_implies, implies_true, and_true, true_and, not_true_eq_false, not_false_eq_true, decide_eq_true_eq, Bool.not_eq_true', Bool.not_eq_false', decide_eq_false_iff_not, iL_empty, eq_iT, gc_11, gc_0, gc_1, gc_12, getP_none])
  refine sp_shortened_in (un w) (by rw [un_len]; omega) fun h'' hg' => ?_
  rw [sh_un]
  exact hP _ ((hg.trans hg2).trans hg')
theorem flat_sum (ws : List (List Int)) : (ws.map (fun w => (w.length : Int))).sum = (ws.flatten.length : Int) := by
  induction ws with
  | nil => rfl
  | cons w ws ih => simp only [List.map_cons, List.sum_cons, ih, List.flatten_cons, List.length_append]; omega
theorem sp_product (r : Int) (ws : List (List Int)) (h1 : 1 ≤ r) (h2 : r ≤ 4) (hw : ∀ w ∈ ws, Wd r w ∧ w.length ≤ 400) (hl : ws.length ≤ 20) (hs : ws.flatten.length ≤ 400) (hP : ∀ h', Gr [] h h' → P (iT (sh ws.flatten)) h') : wpE (run GT GC GF (d + 8) 34 [.int r, wT ws] h) P := by
  rw [run_in (F := F34) rfl rfl]
  simp -implicitDefEqProofs only [F34, b34_0, b34_1, w_cons, w_nil, w_set, w_asg, w_par2, w_par3, w_setix, w_aug, w_expr, w_ret, w_retN, w_ifs, w_brk, w_cnt, w_pass, w_raise, w_for, w_whl, e_v, e_gc, e_int, e_str, e_bl, e_non, e_neg, e_not, e_bin, e_cmp, e_chain, e_and1, e_and2, e_or1, e_or2, e_and, e_or, e_ite, e_T, e_call, e_callv, e_bi, e_isi, e_meth, e_ix, e_slF, e_slT, e_slB, e_slN, e_rev, e_tup, e_lst, e_lc, e_lcIf, es_nil, es_cons, i_val, i_rng1, i_rng2, i_zip, getP_some, getP_map, getP_bind, getP_ite, asI_int, asF_fn, asT_tup, wpE_ok, step_name, step_many, c_eq, c_ne, c_lt, c_le, c_gt, c_ge, c_is, c_isNot, eq_int, eq_bl, eq_str, is_bl, is_nn, is_in, is_bn, is_sn, is_tn, is_ln, is_rn, t_non, t_bl, t_int, t_tup, t_rol, b_add, b_sub, b_mul, b_mod, b_fdiv, b_pow, b_addT, b_addS, b_mulT, b_mulSame, f_lenT, f_lenL, f_abs, f_max, f_min, f_int, f_intB, f_tupT, f_lstT, f_lstR, f_lenR, f_tupR, f_sum, f_all, f_any, f_anyT, f_allT, f_repr, x_tup, x_rol, x_ref, l_tup, l_ref, r_tup, m_app, m_ext, m_pop, m_cnt, p_app, p_ext, p_pop, p_cnt, s_tup, s_rol, s_ref, y_ii, y_ib, y_it, y_il, y_bi, y_bb, y_bt, y_tt, y_ti, y_tb, y_tl, y_ni, y_nt, x_set, a_add, a_sub, g_name, g_many, g_nil, g_cons, startP, wipeP, Tg.slots, List.map_cons, List.map_nil, List.length_cons, List.length_nil, List.replicate_succ, List.replicate_zero, List.cons_append, List.nil_append, List.getElem?_cons_zero, List.getElem?_cons_succ, Option.join_some, List.set_cons_zero, List.set_cons_succ, Bool.true_eq_false, reduceCtorEq, Option.map_some, Option.bind_some, Nat.reduceAdd, Nat.reduceSub, Nat.zero_add, Bool.not_true, Bool.not_false, Bool.false_eq_true, true_implies, false_implies, implies_true, and_true, true_and, not_true_eq_false, not_false_eq_true, decide_eq_true_eq, Bool.not_eq_true', Bool.not_eq_false', decide_eq_false_iff_not, iL_empty, eq_iT, gc_11, gc_0, gc_1, gc_12, getP_none]
  refine sp_require_told_words r ws h1 h2 hw hl (by rw [flat_sum]; omega) fun h' hg => ?_
  (try simp -implicitDefEqProofs only [w_cons, w_nil, w_set, w_asg, w_par2, w_par3, w_setix, w_aug, w_expr, w_ret, w_retN, w_ifs, w_brk, w_cnt, w_pass, w_raise, w_for, w_whl, e_v, e_gc, e_int, e_str, e_bl, e_non, e_neg, e_not, e_bin, e_cmp, e_chain, e_and1, e_and2, e_or1, e_or2, e_and, e_or, e_ite, e_T, e_call, e_callv, e_bi, e_isi, e_meth, e_ix, e_slF, e_slT, e_slB, e_slN, e_rev, e_tup, e_lst, e_lc, e_lcIf, es_nil, es_cons, i_val, i_rng1, i_rng2, i_zip, getP_some, getP_map, getP_bind, getP_ite, asI_int, asF_fn, asT_tup, wpE_ok, step_name, step_many, c_eq, c_ne, c_lt, c_le, c_gt, c_ge, c_is, c_isNot, eq_int, eq_bl, eq_str, is_bl, is_nn, is_in, is_bn, is_sn, is_tn, is_ln, is_rn, t_non, t_bl, t_int, t_tup, t_rol, b_add, b_sub, b_mul, b_mod, b_fdiv, b_pow, b_addT, b_addS, b_mulT, b_mulSame, f_lenT, f_lenL, f_abs, f_max, f_min, f_int, f_intB, f_tupT, f_lstT, f_lstR, f_lenR, f_tupR, f_sum, f_all, f_any, f_anyT, f_allT, f_repr, x_tup, x_rol, x_ref, l_tup, l_ref, r_tup, m_app, m_ext, m_pop, m_cnt, p_app, p_ext, p_pop, p_cnt, s_tup, s_rol, s_ref, y_ii, y_ib, y_it, y_il, y_bi, y_bb, y_bt, y_tt, y_ti, y_tb, y_tl, y_ni, y_nt, x_set, a_add, a_sub, g_name, g_many, g_nil, g_cons, startP, wipeP, Tg.slots, List.map_cons, List.map_nil, List.length_cons, List.length_nil, List.replicate_succ, List.replicate_zero, List.cons_append, List.nil_append, List.getElem?_cons_zero, List.getElem?_cons_succ, Option.join_some, List.set_cons_zero, List.set_cons_succ, Bool.true_eq_false, reduceCtorEq, Option.map_some, Option.bind_some, Nat.reduceAdd, Nat.reduceSub, Nat.zero_add, Bool.not_true, Bool.not_false, Bool.false_eq_true, true_implies, false_implies, implies_true, and_true, true_and, not_true_eq_false, not_false_eq_true, decide_eq_true_eq, Bool.not_eq_true', Bool.not_eq_false', decide_eq_false_iff_not, iL_empty, eq_iT, gc_11, gc_0, gc_1, gc_12, getP_none])
  exact sp_product_in ws (by omega) (by omega) fun h'' hg' => hP _ (hg.trans hg')
theorem sp_are_equal (r : Int) (v w : List Int) (h1 : 1 ≤ r) (h2 : r ≤ 4) (hv : Wd r v) (hlv : v.length ≤ 400) (hw : Wd r w) (hl : w.length ≤ 400) (hP : ∀ h', Gr [] h h' → P (.bl (decide (sh v = sh w))) h') : wpE (run GT GC GF (d + 8) 35 [.int r, iT v, iT w] h) P := by
  rw [run_in (F := F35) rfl rfl]
  simp -implicitDefEqProofs only [F35, b35_0, b35_1, w_cons, w_nil, w_set, w_asg, w_par2, w_par3, w_setix, w_aug, w_expr, w_ret, w_retN, w_ifs, w_brk, w_cnt, w_pass, w_raise, w_for, w_whl, e_v, e_gc, e_int, e_str, e_bl, e_non, e_neg, e_not, e_bin, e_cmp, e_chain, e_and1, e_and2, e_or1, e_or2, e_and, e_or, e_ite, e_T, e_call, e_callv, e_bi, e_isi, e_meth, e_ix, e_slF, e_slT, e_slB, e_slN, e_rev, e_tup, e_lst, e_lc, e_lcIf, es_nil, es_cons, i_val, i_rng1, i_rng2, i_zip, getP_some, getP_map, getP_bind, getP_ite, asI_int, asF_fn, asT_tup, wpE_ok, step_name, step_many, c_eq, c_ne, c_lt, c_le, c_gt, c_ge, c_is, c_isNot, eq_int, eq_bl, eq_str, is_bl, is_nn, is_in, is_bn, is_sn, is_tn, is_ln, is_rn, t_non, t_bl, t_int, t_tup, t_rol, b_add, b_sub, b_mul, b_mod, b_fdiv, b_pow, b_addT, b_addS, b_mulT, b_mulSame, f_lenT, f_lenL, f_abs, f_max, f_min, f_int, f_intB, f_tupT, f_lstT, f_lstR, f_lenR, f_tupR, f_sum, f_all, f_any, f_anyT, f_allT, f_repr, x_tup, x_rol, x_ref, l_tup, l_ref, r_tup, m_app, m_ext, m_pop, m_cnt, p_app, p_ext, p_pop, p_cnt, s_tup, s_rol, s_ref, y_ii, y_ib, y_it, y_il, y_bi, y_bb, y_bt, y_tt, y_ti, y_tb, y_tl, y_ni, y_nt, x_set, a_add, a_sub, g_name, g_many, g_nil, g_cons, startP, wipeP, Tg.slots, List.map_cons, List.map_nil, List.length_cons, List.length_nil, List.replicate_succ, List.replicate_zero, List.cons_append, List.nil_append, List.getElem?_cons_zero, List.getElem?_cons_succ, Option.join_some, List.set_cons_zero, List.set_cons_succ, Bool.true_eq_false, reduceCtorEq, Option.map_some, Option.bind_some, Nat.reduceAdd, Nat.reduceSub, Nat.zero_add, Bool.not_true, Bool.not_false, Bool.false_eq_true, true_implies, false_implies, implies_true, and_true, true_and, not_true_eq_false, not_false_eq_true, decide_eq_true_eq, Bool.not_eq_true', Bool.not_eq_false', decide_eq_false_iff_not, iL_empty, eq_iT, gc_11, gc_0, gc_1, gc_12, getP_none]
  refine sp_require_two_words r v w h1 h2 hv hlv hw hl fun h' hg => ?_
  (try simp -implicitDefEqProofs only [w_cons, w_nil, w_set, w_asg, w_par2, w_par3, w_setix, w_aug, w_expr, w_ret, w_retN, w_ifs, w_brk, w_cnt, w_pass, w_raise, w_for, w_whl, e_v, e_gc, e_int, e_str, e_bl, e_non, e_neg, e_not, e_bin, e_cmp, e_chain, e_and1, e_and2, e_or1, e_or2, e_and, e_or, e_ite, e_T, e_call, e_callv, e_bi, e_isi, e_meth, e_ix, e_slF, e_slT, e_slB, e_slN, e_rev, e_tup, e_lst, e_lc, e_lcIf, es_nil, es_cons, i_val, i_rng1, i_rng2, i_zip, getP_some, getP_map, getP_bind, getP_ite, asI_int, asF_fn, asT_tup, wpE_ok, step_name, step_many, c_eq, c_ne, c_lt, c_le, c_gt, c_ge, c_is, c_isNot, eq_int, eq_bl, eq_str, is_bl, is_nn, is_in, is_bn, is_sn, is_tn, is_ln, is_rn, t_non, t_bl, t_int, t_tup, t_rol, b_add, b_sub, b_mul, b_mod, b_fdiv, b_pow, b_addT, b_addS, b_mulT, b_mulSame, f_lenT, f_lenL, f_abs, f_max, f_min, f_int, f_intB, f_tupT, f_lstT, f_lstR, f_lenR, f_tupR, f_sum, f_all, f_any, f_anyT, f_allT, f_repr, x_tup, x_rol, x_ref, l_tup, l_ref, r_tup, m_app, m_ext, m_pop, m_cnt, p_app, p_ext, p_pop, p_cnt, s_tup, s_rol, s_ref, y_ii, y_ib, y_it, y_il, y_bi, y_bb, y_bt, y_tt, y_ti, y_tb, y_tl, y_ni, y_nt, x_set, a_add, a_sub, g_name, g_many, g_nil, g_cons, startP, wipeP, Tg.slots, List.map_cons, List.map_nil, List.length_cons, List.length_nil, List.replicate_succ, List.replicate_zero, List.cons_append, List.nil_append, List.getElem?_cons_zero, List.getElem?_cons_succ, Option.join_some, List.set_cons_zero, List.set_cons_succ, Bool.true_eq_false, reduceCtorEq, Option.map_some, Option.bind_some, Nat.reduceAdd, Nat.reduceSub, Nat.zero_add, Bool.not_true, Bool.not_false, Bool.false_eq_true, true_implies, false_implies, implies_true, and_true, true_and, not_true_eq_false, not_false_eq_true, decide_eq_true_eq, Bool.not_eq_true', Bool.not_eq_false', decide_eq_false_iff_not, iL_empty, eq_iT, gc_11, gc_0, gc_1, gc_12, getP_none])
  refine sp_shortened_in v (by omega) fun h2 hg2 => ?_
  (try simp -implicitDefEqProofs only [w_cons, w_nil, w_set, w_asg, w_par2, w_par3, w_setix, w_aug, w_expr, w_ret, w_retN, w_ifs, w_brk, w_cnt, w_pass, w_raise, w_for, w_whl, e_v, e_gc, e_int, e_str, e_bl, e_non, e_neg, e_not, e_bin, e_cmp, e_chain, e_and1, e_and2, e_or1, e_or2, e_and, e_or, e_ite, e_T, e_call, e_callv, e_bi, e_isi, e_meth, e_ix, e_slF, e_slT, e_slB, e_slN, e_rev, e_tup, e_lst, e_lc, e_lcIf, es_nil, es_cons, i_val, i_rng1, i_rng2, i_zip, getP_some, getP_map, getP_bind, getP_ite, asI_int, asF_fn, asT_tup, wpE_ok, step_name, step_many, c_eq, c_ne, c_lt, c_le, c_gt, c_ge, c_is, c_isNot, eq_int, eq_bl, eq_str, is_bl, is_nn, is_in, is_bn, is_sn, is_tn, is_ln, is_rn, t_non, t_bl, t_int, t_tup, t_rol, b_add, b_sub, b_mul, b_mod, b_fdiv, b_pow, b_addT, b_addS, b_mulT, b_mulSame, f_lenT, f_lenL, f_abs, f_max, f_min, f_int, f_intB, f_tupT, f_lstT, f_lstR, f_lenR, f_tupR, f_sum, f_all, f_any, f_anyT, f_allT, f_repr, x_tup, x_rol, x_ref, l_tup, l_ref, r_tup, m_app, m_ext, m_pop, m_cnt, p_app, p_ext, p_pop, p_cnt, s_tup, s_rol, s_ref, y_ii, y_ib, y_it, y_il, y_bi, y_bb, y_bt, y_tt, y_ti, y_tb, y_tl, y_ni, y_nt, x_set, a_add, a_sub, g_name, g_many, g_nil, g_cons, startP, wipeP, Tg.slots, List.map_cons, List.map_nil, List.length_cons, List.length_nil, List.replicate_succ, List.replicate_zero, List.cons_append, List.nil_append, List.getElem?_cons_zero, List.getElem?_cons_succ, Option.join_some, List.set_cons_zero, List.set_cons_succ, Bool.true_eq_false, reduceCtorEq, Option.map_some, Option.bind_some, Nat.reduceAdd, Nat.reduceSub, Nat.zero_add, Bool.not_true, Bool.not_false, Bool.false_eq_true, true_implies, false_implies, implies_true, and_true, true_and, not_true_eq_false, not_false_eq_true, decide_eq_true_eq, Bool.not_eq_true', Bool.not_eq_false', decide_eq_false_iff_not, iL_empty, eq_iT, gc_11, gc_0, gc_1, gc_12, getP_none])
  refine sp_shortened_in w (by omega) fun h3 hg3 => ?_
  (try simp -implicitDefEqProofs only [w_cons, w_nil, w_set, w_asg, w_par2, w_par3, w_setix, w_aug, w_expr, w_ret, w_retN, w_ifs, w_brk, w_cnt, w_pass, w_raise, w_for, w_whl, e_v, e_gc, e_int, e_str, e_bl, e_non, e_neg, e_not, e_bin, e_cmp, e_chain, e_and1, e_and2, e_or1, e_or2, e_and, e_or, e_ite, e_T, e_call, e_callv, e_bi, e_isi, e_meth, e_ix, e_slF, e_slT, e_slB, e_slN, e_rev, e_tup, e_lst, e_lc, e_lcIf, es_nil, es_cons, i_val, i_rng1, i_rng2, i_zip, getP_some, getP_map, getP_bind, getP_ite, asI_int, asF_fn, asT_tup, wpE_ok, step_name, step_many, c_eq, c_ne, c_lt, c_le, c_gt, c_ge, c_is, c_isNot, eq_int, eq_bl, eq_str, is_bl, is_nn, is_in, is_bn, is_sn, is_tn, is_ln, is_rn, t_non, t_bl, t_int, t_tup, t_rol, b_add, b_sub, b_mul, b_mod, b_fdiv, b_pow, b_addT, b_addS, b_mulT, b_mulSame, f_lenT, f_lenL, f_abs, f_max, f_min, f_int, f_intB, f_tupT, f_lstT, f_lstR, f_lenR, f_tupR, f_sum, f_all, f_any, f_anyT, f_allT, f_repr, x_tup, x_rol, x_ref, l_tup, l_ref, r_tup, m_app, m_ext, m_pop, m_cnt, p_app, p_ext, p_pop, p_cnt, s_tup, s_rol, s_ref, y_ii, y_ib, y_it, y_il, y_bi, y_bb, y_bt, y_tt, y_ti, y_tb, y_tl, y_ni, y_nt, x_set, a_add, a_sub, g_name, g_many, g_nil, g_cons, startP, wipeP, Tg.slots, List.map_cons, List.map_nil, List.length_cons, List.length_nil, List.replicate_succ, List.replicate_zero, List.cons_append, List.nil_append, List.getElem?_cons_zero, List.getElem?_cons_succ, Option.join_some, List.set_cons_zero, List.set_cons_succ, Bool.true_eq_false, reduceCtorEq, Option.map_some, Option.bind_some, Nat.reduceAdd, Nat.reduceSub, Nat.zero_add, Bool.not_true, Bool.not_false, Bool.false_eq_true, true_implies, false_implies, implies_true, and_true, true_and, not_true_eq_false, not_false_eq_true, decide_eq_true_eq, Bool.not_eq_true', Bool.not_eq_false', decide_eq_false_iff_not, iL_empty, eq_iT, gc_11, gc_0, gc_1, gc_12, getP_none])
  exact hP _ ((hg.trans hg2).trans hg3)
theorem sp_loss (r : Int) (v w : List Int) (h1 : 1 ≤ r) (h2 : r ≤ 4) (hv : Wd r v) (hlv : v.length ≤ 400) (hw : Wd r w) (hl : w.length ≤ 400) (hP : ∀ h', Gr [] h h' → P (.int (lost (sh v).reverse (sh w) : Nat)) h') : wpE (run GT GC GF (d + 8) 36 [.int r, iT v, iT w] h) P := by
  rw [run_in (F := F36) rfl rfl]
  simp -implicitDefEqProofs only [F36, b36_0, b36_1, w_cons, w_nil, w_set, w_asg, w_par2, w_par3, w_setix, w_aug, w_expr, w_ret, w_retN, w_ifs, w_brk, w_cnt, w_pass, w_raise, w_for, w_whl, e_v, e_gc, e_int, e_str, e_bl, e_non, e_neg, e_not, e_bin, e_cmp, e_chain, e_and1, e_and2, e_or1, e_or2, e_and, e_or, e_ite, e_T, e_call, e_callv, e_bi, e_isi, e_meth, e_ix, e_slF, e_slT, e_slB, e_slN, e_rev, e_tup, e_lst, e_lc, e_lcIf, es_nil, es_cons, i_val, i_rng1, i_rng2, i_zip, getP_some, getP_map, getP_bind, getP_ite, asI_int, asF_fn, asT_tup, wpE_ok, step_name, step_many, c_eq, c_ne, c_lt, c_le, c_gt, c_ge, c_is, c_isNot, eq_int, eq_bl, eq_str, is_bl, is_nn, is_in, is_bn, is_sn, is_tn, is_ln, is_rn, t_non, t_bl, t_int, t_tup, t_rol, b_add, b_sub, b_mul, b_mod, b_fdiv, b_pow, b_addT, b_addS, b_mulT, b_mulSame, f_lenT, f_lenL, f_abs, f_max, f_min, f_int, f_intB, f_tupT, f_lstT, f_lstR, f_lenR, f_tupR, f_sum, f_all, f_any, f_anyT, f_allT, f_repr, x_tup, x_rol, x_ref, l_tup, l_ref, r_tup, m_app, m_ext, m_pop, m_cnt, p_app, p_ext, p_pop, p_cnt, s_tup, s_rol, s_ref, y_ii, y_ib, y_it, y_il, y_bi, y_bb, y_bt, y_tt, y_ti, y_tb, y_tl, y_ni, y_nt, x_set, a_add, a_sub, g_name, g_many, g_nil, g_cons, startP, wipeP, Tg.slots, List.map_cons, List.map_nil, List.length_cons, List.length_nil, List.replicate_succ, List.replicate_zero, List.cons_append, List.nil_append, List.getElem?_cons_zero, List.getElem?_cons_succ, Option.join_some, List.set_cons_zero, List.set_cons_succ, Bool.true_eq_false, reduceCtorEq, Option.map_some, Option.bind_some, Nat.reduceAdd, Nat.reduceSub, Nat.zero_add, Bool.not_true, Bool.not_false, Bool.false_eq_true, true_implies, false_implies, implies_true, and_true, true_and, not_true_eq_false, not_false_eq_true, decide_eq_true_eq, Bool.not_eq_true', Bool.not_eq_false', decide_eq_false_iff_not, iL_empty, eq_iT, gc_11, gc_0, gc_1, gc_12, getP_none]
  refine sp_require_two_words r v w h1 h2 hv hlv hw hl fun h' hg => ?_
  (try simp -implicitDefEqProofs only [w_cons, w_nil, w_set, w_asg, w_par2, w_par3, w_setix, w_aug, w_expr, w_ret, w_retN, w_ifs, w_brk, w_cnt, w_pass, w_raise, w_for, w_whl, e_v, e_gc, e_int, e_str, e_bl, e_non, e_neg, e_not, e_bin, e_cmp, e_chain, e_and1, e_and2, e_or1, e_or2, e_and, e_or, e_ite, e_T, e_call, e_callv, e_bi, e_isi, e_meth, e_ix, e_slF, e_slT, e_slB, e_slN, e_rev, e_tup, e_lst, e_lc, e_lcIf, es_nil, es_cons, i_val, i_rng1, i_rng2, i_zip, getP_some, getP_map, getP_bind, getP_ite, asI_int, asF_fn, asT_tup, wpE_ok, step_name, step_many, c_eq, c_ne, c_lt, c_le, c_gt, c_ge, c_is, c_isNot, eq_int, eq_bl, eq_str, is_bl, is_nn, is_in, is_bn, is_sn, is_tn, is_ln, is_rn, t_non, t_bl, t_int, t_tup, t_rol, b_add, b_sub, b_mul, b_mod, b_fdiv, b_pow, b_addT, b_addS, b_mulT, b_mulSame, f_lenT, f_lenL, f_abs, f_max, f_min, f_int, f_intB, f_tupT, f_lstT, f_lstR, f_lenR, f_tupR, f_sum, f_all, f_any, f_anyT, f_allT, f_repr, x_tup, x_rol, x_ref, l_tup, l_ref, r_tup, m_app, m_ext, m_pop, m_cnt, p_app, p_ext, p_pop, p_cnt, s_tup, s_rol, s_ref, y_ii, y_ib, y_it, y_il, y_bi, y_bb, y_bt, y_tt, y_ti, y_tb, y_tl, y_ni, y_nt, x_set, a_add, a_sub, g_name, g_many, g_nil, g_cons, startP, wipeP, Tg.slots, List.map_cons, List.map_nil, List.length_cons, List.length_nil, List.replicate_succ, List.replicate_zero, List.cons_append, List.nil_append, List.getElem?_cons_zero, List.getElem?_cons_succ, Option.join_some, List.set_cons_zero, List.set_cons_succ, Bool.true_eq_false, reduceCtorEq, Option.map_some, Option.bind_some, Nat.reduceAdd, Nat.reduceSub, Nat.zero_add, Bool.not_true, Bool.not_false, Bool.false_eq_true, true_implies, false_implies, implies_true, and_true, true_and, not_true_eq_false, not_false_eq_true, decide_eq_true_eq, Bool.not_eq_true', Bool.not_eq_false', decide_eq_false_iff_not, iL_empty, eq_iT, gc_11, gc_0, gc_1, gc_12, getP_none])
  refine sp_shortened_in v (by omega) fun h2 hg2 => ?_
  (try simp -implicitDefEqProofs only [w_cons, w_nil, w_set, w_asg, w_par2, w_par3, w_setix, w_aug, w_expr, w_ret, w_retN, w_ifs, w_brk, w_cnt, w_pass, w_raise, w_for, w_whl, e_v, e_gc, e_int, e_str, e_bl, e_non, e_neg, e_not, e_bin, e_cmp, e_chain, e_and1, e_and2, e_or1, e_or2, e_and, e_or, e_ite, e_T, e_call, e_callv, e_bi, e_isi, e_meth, e_ix, e_slF, e_slT, e_slB, e_slN, e_rev, e_tup, e_lst, e_lc, e_lcIf, es_nil, es_cons, i_val, i_rng1, i_rng2, i_zip, getP_some, getP_map, getP_bind, getP_ite, asI_int, asF_fn, asT_tup, wpE_ok, step_name, step_many, c_eq, c_ne, c_lt, c_le, c_gt, c_ge, c_is, c_isNot, eq_int, eq_bl, eq_str, is_bl, is_nn, is_in, is_bn, is_sn, is_tn, is_ln, is_rn, t_non, t_bl, t_int, t_tup, t_rol, b_add, b_sub, b_mul, b_mod, b_fdiv, b_pow, b_addT, b_addS, b_mulT, b_mulSame, f_lenT, f_lenL, f_abs, f_max, f_min, f_int, f_intB, f_tupT, f_lstT, f_lstR, f_lenR, f_tupR, f_sum, f_all, f_any, f_anyT, f_allT, f_repr, x_tup, x_rol, x_ref, l_tup, l_ref, r_tup, m_app, m_ext, m_pop, m_cnt, p_app, p_ext, p_pop, p_cnt, s_tup, s_rol, s_ref, y_ii, y_ib, y_it, y_il, y_bi, y_bb, y_bt, y_tt, y_ti, y_tb, y_tl, y_ni, y_nt, x_set, a_add, a_sub, g_name, g_many, g_nil, g_cons, startP, wipeP, Tg.slots, List.map_cons, List.map_nil, List.length_cons, List.length_nil, List.replicate_succ, List.replicate_zero, List.cons_append, List.nil_append, List.getElem?_cons_zero, List.getElem?_cons_succ, Option.join_some, List.set_cons_zero, List.set_cons_succ, Bool.true_eq_false, reduceCtorEq, Option.map_some, Option.bind_some, Nat.reduceAdd, Nat.reduceSub, Nat.zero_add, Bool.not_true, Bool.not_false, Bool.false_eq_true, true_implies, false_implies, implies_true, and_true, true_and, not_true_eq_false, not_false_eq_true, decide_eq_true_eq, Bool.not_eq_true', Bool.not_eq_false', decide_eq_false_iff_not, iL_empty, eq_iT, gc_11, gc_0, gc_1, gc_12, getP_none])
  refine sp_shortened_in w (by omega) fun h3 hg3 => ?_
  (try simp -implicitDefEqProofs only [w_cons, w_nil, w_set, w_asg, w_par2, w_par3, w_setix, w_aug, w_expr, w_ret, w_retN, w_ifs, w_brk, w_cnt, w_pass, w_raise, w_for, w_whl, e_v, e_gc, e_int, e_str, e_bl, e_non, e_neg, e_not, e_bin, e_cmp, e_chain, e_and1, e_and2, e_or1, e_or2, e_and, e_or, e_ite, e_T, e_call, e_callv, e_bi, e_isi, e_meth, e_ix, e_slF, e_slT, e_slB, e_slN, e_rev, e_tup, e_lst, e_lc, e_lcIf, es_nil, es_cons, i_val, i_rng1, i_rng2, i_zip, getP_some, getP_map, getP_bind, getP_ite, asI_int, asF_fn, asT_tup, wpE_ok, step_name, step_many, c_eq, c_ne, c_lt, c_le, c_gt, c_ge, c_is, c_isNot, eq_int, eq_bl, eq_str, is_bl, is_nn, is_in, is_bn, is_sn, is_tn, is_ln, is_rn, t_non, t_bl, t_int, t_tup, t_rol, b_add, b_sub, b_mul, b_mod, b_fdiv, b_pow, b_addT, b_addS, b_mulT, b_mulSame, f_lenT, f_lenL, f_abs, f_max, f_min, f_int, f_intB, f_tupT, f_lstT, f_lstR, f_lenR, f_tupR, f_sum, f_all, f_any, f_anyT, f_allT, f_repr, x_tup, x_rol, x_ref, l_tup, l_ref, r_tup, m_app, m_ext, m_pop, m_cnt, p_app, p_ext, p_pop, p_cnt, s_tup, s_rol, s_ref, y_ii, y_ib, y_it, y_il, y_bi, y_bb, y_bt, y_tt, y_ti, y_tb, y_tl, y_ni, y_nt, x_set, a_add, a_sub, g_name, g_many, g_nil, g_cons, startP, wipeP, Tg.slots, List.map_cons, List.map_nil, List.length_cons, List.length_nil, List.replicate_succ, List.replicate_zero, List.cons_append, List.nil_append, List.getElem?_cons_zero, List.getElem?_cons_succ, Option.join_some, List.set_cons_zero, List.set_cons_succ, Bool.true_eq_false, reduceCtorEq, Option.map_some, Option.bind_some, Nat.reduceAdd, Nat.reduceSub, Nat.zero_add, Bool.not_true, Bool.not_false, Bool.false_eq_true, true_implies, false_implies, implies_true, and_true, true_and, not_true_eq_false, not_false_eq_true, decide_eq_true_eq, Bool.not_eq_true', Bool.not_eq_false', decide_eq_false_iff_not, iL_empty, eq_iT, gc_11, gc_0, gc_1, gc_12, getP_none])
  refine sp_lost_in _ _ (by have := sh_len v; omega) fun h4 hg4 => ?_
  exact hP _ (((hg.trans hg2).trans hg3).trans hg4)
theorem sp_counts_of (r : Nat) (w : List Int) (h1 : 1 ≤ r) (h2 : r ≤ 4) (hw : Wd r w) (hl : w.length ≤ 400) (hP : ∀ h', Gr [] h h' → P (iT (cts r w)) h') : wpE (run GT GC GF (d + 7) 37 [.int r, iT w] h) P := by
  rw [run_in (F := F37) rfl rfl]
  simp -implicitDefEqProofs only [F37, b37_0, b37_1, w_cons, w_nil, w_set, w_asg, w_par2, w_par3, w_setix, w_aug, w_expr, w_ret, w_retN, w_ifs, w_brk, w_cnt, w_pass, w_raise, w_for, w_whl, e_v, e_gc, e_int, e_str, e_bl, e_non, e_neg, e_not, e_bin, e_cmp, e_chain, e_and1, e_and2, e_or1, e_or2, e_and, e_or, e_ite, e_T, e_call, e_callv, e_bi, e_isi, e_meth, e_ix, e_slF, e_slT, e_slB, e_slN, e_rev, e_tup, e_lst, e_lc, e_lcIf, es_nil, es_cons, i_val, i_rng1, i_rng2, i_zip, getP_some, getP_map, getP_bind, getP_ite, asI_int, asF_fn, asT_tup, wpE_ok, step_name, step_many, c_eq, c_ne, c_lt, c_le, c_gt, c_ge, c_is, c_isNot, eq_int, eq_bl, eq_str, is_bl, is_nn, is_in, is_bn, is_sn, is_tn, is_ln, is_rn, t_non, t_bl, t_int, t_tup, t_rol, b_add, b_sub, b_mul, b_mod, b_fdiv, b_pow, b_addT, b_addS, b_mulT, b_mulSame, f_lenT, f_lenL, f_abs, f_max, f_min, f_int, f_intB, f_tupT, f_lstT, f_lstR, f_lenR, f_tupR, f_sum, f_all, f_any, f_anyT, f_allT, f_repr, x_tup, x_rol, x_ref, l_tup, l_ref, r_tup, m_app, m_ext, m_pop, m_cnt, p_app, p_ext, p_pop, p_cnt, s_tup, s_rol, s_ref, y_ii, y_ib, y_it, y_il, y_bi, y_bb, y_bt, y_tt, y_ti, y_tb, y_tl, y_ni, y_nt, x_set, a_add, a_sub, g_name, g_many, g_nil, g_cons, startP, wipeP, Tg.slots, List.map_cons, List.map_nil, List.length_cons, List.length_nil, List.replicate_succ, List.replicate_zero, List.cons_append, List.nil_append, List.getElem?_cons_zero, List.getElem?_cons_succ, Option.join_some, List.set_cons_zero, List.set_cons_succ, Bool.true_eq_false, reduceCtorEq, Option.map_some, Option.bind_some, Nat.reduceAdd, Nat.reduceSub, Nat.zero_add, Bool.not_true, Bool.not_false, Bool.false_eq_true, true_implies, false_implies, implies_true, and_true, true_and, not_true_eq_false, not_false_eq_true, decide_eq_true_eq, Bool.not_eq_true', Bool.not_eq_false', decide_eq_false_iff_not, iL_empty, eq_iT, gc_11, gc_0, gc_1, gc_12, getP_none]
  have q1 : (1 : Int) ≤ r := by omega
  have q2 : (r : Int) ≤ 4 := by omega
  refine sp_require_told_word (r : Int) w q1 q2 hw hl fun h' hg => ?_
  (try simp -implicitDefEqProofs only [w_cons, w_nil, w_set, w_asg, w_par2, w_par3, w_setix, w_aug, w_expr, w_ret, w_retN, w_ifs, w_brk, w_cnt, w_pass, w_raise, w_for, w_whl, e_v, e_gc, e_int, e_str, e_bl, e_non, e_neg, e_not, e_bin, e_cmp, e_chain, e_and1, e_and2, e_or1, e_or2, e_and, e_or, e_ite, e_T, e_call, e_callv, e_bi, e_isi, e_meth, e_ix, e_slF, e_slT, e_slB, e_slN, e_rev, e_tup, e_lst, e_lc, e_lcIf, es_nil, es_cons, i_val, i_rng1, i_rng2, i_zip, getP_some, getP_map, getP_bind, getP_ite, asI_int, asF_fn, asT_tup, wpE_ok, step_name, step_many, c_eq, c_ne, c_lt, c_le, c_gt, c_ge, c_is, c_isNot, eq_int, eq_bl, eq_str, is_bl, is_nn, is_in, is_bn, is_sn, is_tn, is_ln, is_rn, t_non, t_bl, t_int, t_tup, t_rol, b_add, b_sub, b_mul, b_mod, b_fdiv, b_pow, b_addT, b_addS, b_mulT, b_mulSame, f_lenT, f_lenL, f_abs, f_max, f_min, f_int, f_intB, f_tupT, f_lstT, f_lstR, f_lenR, f_tupR, f_sum, f_all, f_any, f_anyT, f_allT, f_repr, x_tup, x_rol, x_ref, l_tup, l_ref, r_tup, m_app, m_ext, m_pop, m_cnt, p_app, p_ext, p_pop, p_cnt, s_tup, s_rol, s_ref, y_ii, y_ib, y_it, y_il, y_bi, y_bb, y_bt, y_tt, y_ti, y_tb, y_tl, y_ni, y_nt, x_set, a_add, a_sub, g_name, g_many, g_nil, g_cons, startP, wipeP, Tg.slots, List.map_cons, List.map_nil, List.length_cons, List.length_nil, List.replicate_succ, List.replicate_zero, List.cons_append, List.nil_append, List.getElem?_cons_zero, List.getElem?_cons_succ, Option.join_some, List.set_cons_zero, List.set_cons_succ, Bool.true_eq_false, reduceCtorEq, Option.map_some, Option.bind_some, Nat.reduceAdd, Nat.reduceSub, Nat.zero_add, Bool.not_true, Bool.not_false, Bool.false_eq_true, true_implies, false_implies, implies_true, and_true, true_and, not_true_eq_false, not_false_eq_true, decide_eq_true_eq, Bool.not_eq_true', Bool.not_eq_false', decide_eq_false_iff_not, iL_empty, eq_iT, gc_11, gc_0, gc_1, gc_12, getP_none])
  exact sp_counts_in r w (by omega) fun h'' hg' => hP _ (hg.trans hg')
theorem log2_two : (2 : Int).natAbs.log2 < 9000 := by decide
theorem sp_strikes (r : Int) (w : List Int) (h1 : 1 ≤ r) (h2 : r ≤ 4) (hw : Wd r w) (hl : w.length ≤ 400) (hP : ∀ h', Gr [] h h' → P (.int (((w.length : Int) - ((sh w).length : Int)) / 2)) h') : wpE (run GT GC GF (d + 7) 38 [.int r, iT w] h) P := by
  rw [run_in (F := F38) rfl rfl]
  simp -implicitDefEqProofs only [F38, b38_0, b38_1, w_cons, w_nil, w_set, w_asg, w_par2, w_par3, w_setix, w_aug, w_expr, w_ret, w_retN, w_ifs, w_brk, w_cnt, w_pass, w_raise, w_for, w_whl, e_v, e_gc, e_int, e_str, e_bl, e_non, e_neg, e_not, e_bin, e_cmp, e_chain, e_and1, e_and2, e_or1, e_or2, e_and, e_or, e_ite, e_T, e_call, e_callv, e_bi, e_isi, e_meth, e_ix, e_slF, e_slT, e_slB, e_slN, e_rev, e_tup, e_lst, e_lc, e_lcIf, es_nil, es_cons, i_val, i_rng1, i_rng2, i_zip, getP_some, getP_map, getP_bind, getP_ite, asI_int, asF_fn, asT_tup, wpE_ok, step_name, step_many, c_eq, c_ne, c_lt, c_le, c_gt, c_ge, c_is, c_isNot, eq_int, eq_bl, eq_str, is_bl, is_nn, is_in, is_bn, is_sn, is_tn, is_ln, is_rn, t_non, t_bl, t_int, t_tup, t_rol, b_add, b_sub, b_mul, b_mod, b_fdiv, b_pow, b_addT, b_addS, b_mulT, b_mulSame, f_lenT, f_lenL, f_abs, f_max, f_min, f_int, f_intB, f_tupT, f_lstT, f_lstR, f_lenR, f_tupR, f_sum, f_all, f_any, f_anyT, f_allT, f_repr, x_tup, x_rol, x_ref, l_tup, l_ref, r_tup, m_app, m_ext, m_pop, m_cnt, p_app, p_ext, p_pop, p_cnt, s_tup, s_rol, s_ref, y_ii, y_ib, y_it, y_il, y_bi, y_bb, y_bt, y_tt, y_ti, y_tb, y_tl, y_ni, y_nt, x_set, a_add, a_sub, g_name, g_many, g_nil, g_cons, startP, wipeP, Tg.slots, List.map_cons, List.map_nil, List.length_cons, List.length_nil, List.replicate_succ, List.replicate_zero, List.cons_append, List.nil_append, List.getElem?_cons_zero, List.getElem?_cons_succ, Option.join_some, List.set_cons_zero, List.set_cons_succ, Bool.true_eq_false, reduceCtorEq, Option.map_some, Option.bind_some, Nat.reduceAdd, Nat.reduceSub, Nat.zero_add, Bool.not_true, Bool.not_false, Bool.false_eq_true, true_implies, false_implies, implies_true, and_true, true_and, not_true_eq_false, not_false_eq_true, decide_eq_true_eq, Bool.not_eq_true', Bool.not_eq_false', decide_eq_false_iff_not, iL_empty, eq_iT, gc_11, gc_0, gc_1, gc_12, getP_none]
  refine sp_require_told_word r w h1 h2 hw hl fun h' hg => ?_
  (try simp -implicitDefEqProofs only [w_cons, w_nil, w_set, w_asg, w_par2, w_par3, w_setix, w_aug, w_expr, w_ret, w_retN, w_ifs, w_brk, w_cnt, w_pass, w_raise, w_for, w_whl, e_v, e_gc, e_int, e_str, e_bl, e_non, e_neg, e_not, e_bin, e_cmp, e_chain, e_and1, e_and2, e_or1, e_or2, e_and, e_or, e_ite, e_T, e_call, e_callv, e_bi, e_isi, e_meth, e_ix, e_slF, e_slT, e_slB, e_slN, e_rev, e_tup, e_lst, e_lc, e_lcIf, es_nil, es_cons, i_val, i_rng1, i_rng2, i_zip, getP_some, getP_map, getP_bind, getP_ite, asI_int, asF_fn, asT_tup, wpE_ok, step_name, step_many, c_eq, c_ne, c_lt, c_le, c_gt, c_ge, c_is, c_isNot, eq_int, eq_bl, eq_str, is_bl, is_nn, is_in, is_bn, is_sn, is_tn, is_ln, is_rn, t_non, t_bl, t_int, t_tup, t_rol, b_add, b_sub, b_mul, b_mod, b_fdiv, b_pow, b_addT, b_addS, b_mulT, b_mulSame, f_lenT, f_lenL, f_abs, f_max, f_min, f_int, f_intB, f_tupT, f_lstT, f_lstR, f_lenR, f_tupR, f_sum, f_all, f_any, f_anyT, f_allT, f_repr, x_tup, x_rol, x_ref, l_tup, l_ref, r_tup, m_app, m_ext, m_pop, m_cnt, p_app, p_ext, p_pop, p_cnt, s_tup, s_rol, s_ref, y_ii, y_ib, y_it, y_il, y_bi, y_bb, y_bt, y_tt, y_ti, y_tb, y_tl, y_ni, y_nt, x_set, a_add, a_sub, g_name, g_many, g_nil, g_cons, startP, wipeP, Tg.slots, List.map_cons, List.map_nil, List.length_cons, List.length_nil, List.replicate_succ, List.replicate_zero, List.cons_append, List.nil_append, List.getElem?_cons_zero, List.getElem?_cons_succ, Option.join_some, List.set_cons_zero, List.set_cons_succ, Bool.true_eq_false, reduceCtorEq, Option.map_some, Option.bind_some, Nat.reduceAdd, Nat.reduceSub, Nat.zero_add, Bool.not_true, Bool.not_false, Bool.false_eq_true, true_implies, false_implies, implies_true, and_true, true_and, not_true_eq_false, not_false_eq_true, decide_eq_true_eq, Bool.not_eq_true', Bool.not_eq_false', decide_eq_false_iff_not, iL_empty, eq_iT, gc_11, gc_0, gc_1, gc_12, getP_none])
  refine sp_shortened_in w (by omega) fun h'' hg' => ?_
  simp -implicitDefEqProofs only [w_cons, w_nil, w_set, w_asg, w_par2, w_par3, w_setix, w_aug, w_expr, w_ret, w_retN, w_ifs, w_brk, w_cnt, w_pass, w_raise, w_for, w_whl, e_v, e_gc, e_int, e_str, e_bl, e_non, e_neg, e_not, e_bin, e_cmp, e_chain, e_and1, e_and2, e_or1, e_or2, e_and, e_or, e_ite, e_T, e_call, e_callv, e_bi, e_isi, e_meth, e_ix, e_slF, e_slT, e_slB, e_slN, e_rev, e_tup, e_lst, e_lc, e_lcIf, es_nil, es_cons, i_val, i_rng1, i_rng2, i_zip, getP_some, getP_map, getP_bind, getP_ite, asI_int, asF_fn, asT_tup, wpE_ok, step_name, step_many, c_eq, c_ne, c_lt, c_le, c_gt, c_ge, c_is, c_isNot, eq_int, eq_bl, eq_str, is_bl, is_nn, is_in, is_bn, is_sn, is_tn, is_ln, is_rn, t_non, t_bl, t_int, t_tup, t_rol, b_add, b_sub, b_mul, b_mod, b_fdiv, b_pow, b_addT, b_addS, b_mulT, b_mulSame, f_lenT, f_lenL, f_abs, f_max, f_min, f_int, f_intB, f_tupT, f_lstT, f_lstR, f_lenR, f_tupR, f_sum, f_all, f_any, f_anyT, f_allT, f_repr, x_tup, x_rol, x_ref, l_tup, l_ref, r_tup, m_app, m_ext, m_pop, m_cnt, p_app, p_ext, p_pop, p_cnt, s_tup, s_rol, s_ref, y_ii, y_ib, y_it, y_il, y_bi, y_bb, y_bt, y_tt, y_ti, y_tb, y_tl, y_ni, y_nt, x_set, a_add, a_sub, g_name, g_many, g_nil, g_cons, startP, wipeP, Tg.slots, List.map_cons, List.map_nil, List.length_cons, List.length_nil, List.replicate_succ, List.replicate_zero, List.cons_append, List.nil_append, List.getElem?_cons_zero, List.getElem?_cons_succ, Option.join_some, List.set_cons_zero, List.set_cons_succ, Bool.true_eq_false, reduceCtorEq, Option.map_some, Option.bind_some, Nat.reduceAdd, Nat.reduceSub, Nat.zero_add, Bool.not_true, Bool.not_false, Bool.false_eq_true, true_implies, false_implies, implies_true, and_true, true_and, not_true_eq_false, not_false_eq_true, decide_eq_true_eq, Bool.not_eq_true', Bool.not_eq_false', decide_eq_false_iff_not, iL_empty, eq_iT, gc_11, gc_0, gc_1, gc_12, getP_none, iL_len]
  exact ⟨⟨by omega, log2_two⟩, hP _ (hg.trans hg')⟩
end
end Pi

-- w_cons, w_nil, w_set, w_asg, w_par2, w_par3, w_setix, w_aug, w_expr, w_ret, w_retN, w_ifs, w_brk, w_cnt, w_pass, w_raise, w_for, w_whl, e_v, e_gc, e_int, e_str, e_bl, e_non, e_neg, e_not, e_bin, e_cmp, e_chain, e_and1, e_and2, e_or1, e_or2, e_and, e_or, e_ite, e_T, e_call, e_callv, e_bi, e_isi, e_meth, e_ix, e_slF, e_slT, e_slB, e_slN, e_rev, e_tup, e_lst, e_lc, e_lcIf, es_nil, es_cons, i_val, i_rng1, i_rng2, i_zip, getP_some, getP_map, getP_bind, getP_ite, asI_int, asF_fn, asT_tup, wpE_ok, step_name, step_many, c_eq, c_ne, c_lt, c_le, c_gt, c_ge, c_is, c_isNot, eq_int, eq_bl, eq_str, is_bl, is_nn, is_in, is_bn, is_sn, is_tn, is_ln, is_rn, t_non, t_bl, t_int, t_tup, t_rol, b_add, b_sub, b_mul, b_mod, b_fdiv, b_pow, b_addT, b_addS, b_mulT, b_mulSame, f_lenT, f_lenL, f_abs, f_max, f_min, f_int, f_intB, f_tupT, f_lstT, f_lstR, f_lenR, f_tupR, f_sum, f_all, f_any, f_anyT, f_allT, f_repr, x_tup, x_rol, x_ref, l_tup, l_ref, r_tup, m_app, m_ext, m_pop, m_cnt, p_app, p_ext, p_pop, p_cnt, s_tup, s_rol, s_ref, y_ii, y_ib, y_it, y_il, y_bi, y_bb, y_bt, y_tt, y_ti, y_tb, y_tl, y_ni, y_nt, x_set, a_add, a_sub, g_name, g_many, g_nil, g_cons, startP, wipeP, Tg.slots, List.map_cons, List.map_nil, List.length_cons, List.length_nil, List.replicate_succ, List.replicate_zero, List.cons_append, List.nil_append, List.getElem?_cons_zero, List.getElem?_cons_succ, Option.join_some, List.set_cons_zero, List.set_cons_succ, Bool.true_eq_false, reduceCtorEq, Option.map_some, Option.bind_some, Nat.reduceAdd, Nat.reduceSub, Nat.zero_add, Bool.not_true, Bool.not_false, Bool.false_eq_true, true_implies, false_implies, implies_true, and_true, true_and, not_true_eq_false, not_false_eq_true, decide_eq_true_eq, Bool.not_eq_true', Bool.not_eq_false', decide_eq_false_iff_not, iL_empty, eq_iT, gc_11, gc_0, gc_1, gc_12, getP_none+: gc_11 gc_0 gc_1 gc_12
set_option Elab.async false
set_option linter.all false
set_option maxRecDepth 100000
set_option maxHeartbeats 8000000
/-! runs: the law's dice. -/
namespace Pi
open PySem Wm
section
variable {d : Nat} {h : IH} {P : PV → IH → Prop}
/-- dice at n, for k more throws -/
def Dice (h : IH) (n k : Nat) : Prop := ∃ a b c : Int, lstAt h n = some [.int a, .int b, .int c] ∧ 0 ≤ c ∧ c + k ≤ 2 ^ 300
theorem Dice.less {n k j : Nat} (a : Dice h n k) (hj : j ≤ k) : Dice h n j := by
  obtain ⟨x, y, z, h1, h2, h3⟩ := a
  exact ⟨x, y, z, h1, h2, by omega⟩
theorem Dice.lt {n k : Nat} (a : Dice h n k) : n < h.length := by obtain ⟨x, y, z, h1, _⟩ := a; exact lstAt_lt h1
theorem Dice.keep {h' : IH} {n k : Nat} {S : List Nat} (a : Dice h n k) (g : Gr S h h') (hn : n ∉ S) : Dice h' n k := by
  obtain ⟨x, y, z, h1, h2⟩ := a
  exact ⟨x, y, z, g.at h1 hn, h2⟩
theorem log2_lt {i : Int} {k : Nat} (h1 : -(2 ^ k) < i) (h2 : i < 2 ^ k) (hk : 0 < k) : i.natAbs.log2 < k := by
  by_cases e : i.natAbs = 0
  · rw [e]; simpa using hk
  · rw [Nat.log2_lt e]
    have : (i.natAbs : Int) < ((2 ^ k : Nat) : Int) := by
      rw [Int.natCast_pow]
      have : ((2 : Nat) : Int) = 2 := rfl
      rw [this]
      omega
    exact Int.ofNat_lt.mp this
theorem at0 {α : Type} (a b c : α) : L2.atI [a, b, c] 0 = some a := rfl
theorem at1 {α : Type} (a b c : α) : L2.atI [a, b, c] 1 = some b := rfl
theorem at2 {α : Type} (a b c : α) : L2.atI [a, b, c] 2 = some c := rfl
theorem ixn0 : L2.ixN 3 0 = some 0 := rfl
theorem ixn2 : L2.ixN 3 2 = some 2 := rfl
theorem len3 {α : Type} (a b c : α) : [a, b, c].length = 3 := rfl
theorem set0 {α : Type} (a b c x : α) : [a, b, c].set 0 x = [x, b, c] := rfl
theorem set2 {α : Type} (a b c x : α) : [a, b, c].set 2 x = [a, b, x] := rfl
theorem sp_roll (n k : Nat) (t : Int) (hd : Dice h n (k + 1)) (h1 : 0 < t) (h2 : t < 2 ^ 60) (hP : ∀ (v : Int) h', 0 ≤ v → v < t → Gr [n] h h' → Dice h' n k → P (.int v) h') : wpE (run GT GC GF (d + 1) 1 [.ref n, .int t] h) P := by
  obtain ⟨a, b, c, hs, hc, hk⟩ := hd
  have hn := lstAt_lt hs
  have gr : ∀ x, Gr [n] h (h.set n x) := fun x => Gr.set_in .refl (by simp)
  rw [run_in (F := F1) rfl rfl]
  simp -implicitDefEqProofs only [F1, b1_0, w_cons, w_nil, w_set, w_asg, w_par2, w_par3, w_setix, w_aug, w_expr, w_ret, w_retN, w_ifs, w_brk, w_cnt, w_pass, w_raise, w_for, w_whl, e_v, e_gc, e_int, e_str, e_bl, e_non, e_neg, e_not, e_bin, e_cmp, e_chain, e_and1, e_and2, e_or1, e_or2, e_and, e_or, e_ite, e_T, e_call, e_callv, e_bi, e_isi, e_meth, e_ix, e_slF, e_slT, e_slB, e_slN, e_rev, e_tup, e_lst, e_lc, e_lcIf, es_nil, es_cons, i_val, i_rng1, i_rng2, i_zip, getP_some, getP_map, getP_bind, getP_ite, asI_int, asF_fn, asT_tup, wpE_ok, step_name, step_many, c_eq, c_ne, c_lt, c_le, c_gt, c_ge, c_is, c_isNot, eq_int, eq_bl, eq_str, is_bl, is_nn, is_in, is_bn, is_sn, is_tn, is_ln, is_rn, t_non, t_bl, t_int, t_tup, t_rol, b_add, b_sub, b_mul, b_mod, b_fdiv, b_pow, b_addT, b_addS, b_mulT, b_mulSame, f_lenT, f_lenL, f_abs, f_max, f_min, f_int, f_intB, f_tupT, f_lstT, f_lstR, f_lenR, f_tupR, f_sum, f_all, f_any, f_anyT, f_allT, f_repr, x_tup, x_rol, x_ref, l_tup, l_ref, r_tup, m_app, m_ext, m_pop, m_cnt, p_app, p_ext, p_pop, p_cnt, s_tup, s_rol, s_ref, y_ii, y_ib, y_it, y_il, y_bi, y_bb, y_bt, y_tt, y_ti, y_tb, y_tl, y_ni, y_nt, x_set, a_add, a_sub, g_name, g_many, g_nil, g_cons, startP, wipeP, Tg.slots, List.map_cons, List.map_nil, List.length_cons, List.length_nil, List.replicate_succ, List.replicate_zero, List.cons_append, List.nil_append, List.getElem?_cons_zero, List.getElem?_cons_succ, Option.join_some, List.set_cons_zero, List.set_cons_succ, Bool.true_eq_false, reduceCtorEq, Option.map_some, Option.bind_some, Nat.reduceAdd, Nat.reduceSub, Nat.zero_add, Bool.not_true, Bool.not_false, Bool.false_eq_true, true_implies, false_implies, implies_true, and_true, true_and, not_true_eq_false, not_false_eq_true, decide_eq_true_eq, Bool.not_eq_true', Bool.not_eq_false', decide_eq_false_iff_not, iL_empty, eq_iT, gc_11, gc_0, gc_1, gc_12, getP_none, hs, at0, at1, at2, len3, ixn0, set0, Nat.reduceAdd]
  have lt : t.natAbs.log2 < 9000 := Nat.lt_trans (log2_lt (k := 60) (by omega) h2 (by omega)) (by omega)
  refine ⟨fun ha => ⟨h1, ⟨h1, lt⟩, ?_⟩, fun ha => ?_⟩
  · exact hP _ _ (Int.emod_nonneg _ (by omega)) (Int.emod_lt_of_pos _ h1) (gr _) ⟨_, _, _, lst_set hn, hc, by omega⟩
  · simp -implicitDefEqProofs only [w_cons, w_nil, w_set, w_asg, w_par2, w_par3, w_setix, w_aug, w_expr, w_ret, w_retN, w_ifs, w_brk, w_cnt, w_pass, w_raise, w_for, w_whl, e_v, e_gc, e_int, e_str, e_bl, e_non, e_neg, e_not, e_bin, e_cmp, e_chain, e_and1, e_and2, e_or1, e_or2, e_and, e_or, e_ite, e_T, e_call, e_callv, e_bi, e_isi, e_meth, e_ix, e_slF, e_slT, e_slB, e_slN, e_rev, e_tup, e_lst, e_lc, e_lcIf, es_nil, es_cons, i_val, i_rng1, i_rng2, i_zip, getP_some, getP_map, getP_bind, getP_ite, asI_int, asF_fn, asT_tup, wpE_ok, step_name, step_many, c_eq, c_ne, c_lt, c_le, c_gt, c_ge, c_is, c_isNot, eq_int, eq_bl, eq_str, is_bl, is_nn, is_in, is_bn, is_sn, is_tn, is_ln, is_rn, t_non, t_bl, t_int, t_tup, t_rol, b_add, b_sub, b_mul, b_mod, b_fdiv, b_pow, b_addT, b_addS, b_mulT, b_mulSame, f_lenT, f_lenL, f_abs, f_max, f_min, f_int, f_intB, f_tupT, f_lstT, f_lstR, f_lenR, f_tupR, f_sum, f_all, f_any, f_anyT, f_allT, f_repr, x_tup, x_rol, x_ref, l_tup, l_ref, r_tup, m_app, m_ext, m_pop, m_cnt, p_app, p_ext, p_pop, p_cnt, s_tup, s_rol, s_ref, y_ii, y_ib, y_it, y_il, y_bi, y_bb, y_bt, y_tt, y_ti, y_tb, y_tl, y_ni, y_nt, x_set, a_add, a_sub, g_name, g_many, g_nil, g_cons, startP, wipeP, Tg.slots, List.map_cons, List.map_nil, List.length_cons, List.length_nil, List.replicate_succ, List.replicate_zero, List.cons_append, List.nil_append, List.getElem?_cons_zero, List.getElem?_cons_succ, Option.join_some, List.set_cons_zero, List.set_cons_succ, Bool.true_eq_false, reduceCtorEq, Option.map_some, Option.bind_some, Nat.reduceAdd, Nat.reduceSub, Nat.zero_add, Bool.not_true, Bool.not_false, Bool.false_eq_true, true_implies, false_implies, implies_true, and_true, true_and, not_true_eq_false, not_false_eq_true, decide_eq_true_eq, Bool.not_eq_true', Bool.not_eq_false', decide_eq_false_iff_not, iL_empty, eq_iT, gc_11, gc_0, gc_1, gc_12, getP_none, b1_1, hs, at2, len3, ixn2, set2, Nat.reduceAdd]
    have hs2 := lst_set (h := h) (xs := [.int a, .int b, .int (c + 1)]) hn
    have lc : (c + 1).natAbs.log2 < 301 := log2_lt (by omega) (by omega) (by omega)
    have l1 : (15485867 : Int).natAbs.log2 < 24 := by decide
    simp -implicitDefEqProofs only [w_cons, w_nil, w_set, w_asg, w_par2, w_par3, w_setix, w_aug, w_expr, w_ret, w_retN, w_ifs, w_brk, w_cnt, w_pass, w_raise, w_for, w_whl, e_v, e_gc, e_int, e_str, e_bl, e_non, e_neg, e_not, e_bin, e_cmp, e_chain, e_and1, e_and2, e_or1, e_or2, e_and, e_or, e_ite, e_T, e_call, e_callv, e_bi, e_isi, e_meth, e_ix, e_slF, e_slT, e_slB, e_slN, e_rev, e_tup, e_lst, e_lc, e_lcIf, es_nil, es_cons, i_val, i_rng1, i_rng2, i_zip, getP_some, getP_map, getP_bind, getP_ite, asI_int, asF_fn, asT_tup, wpE_ok, step_name, step_many, c_eq, c_ne, c_lt, c_le, c_gt, c_ge, c_is, c_isNot, eq_int, eq_bl, eq_str, is_bl, is_nn, is_in, is_bn, is_sn, is_tn, is_ln, is_rn, t_non, t_bl, t_int, t_tup, t_rol, b_add, b_sub, b_mul, b_mod, b_fdiv, b_pow, b_addT, b_addS, b_mulT, b_mulSame, f_lenT, f_lenL, f_abs, f_max, f_min, f_int, f_intB, f_tupT, f_lstT, f_lstR, f_lenR, f_tupR, f_sum, f_all, f_any, f_anyT, f_allT, f_repr, x_tup, x_rol, x_ref, l_tup, l_ref, r_tup, m_app, m_ext, m_pop, m_cnt, p_app, p_ext, p_pop, p_cnt, s_tup, s_rol, s_ref, y_ii, y_ib, y_it, y_il, y_bi, y_bb, y_bt, y_tt, y_ti, y_tb, y_tl, y_ni, y_nt, x_set, a_add, a_sub, g_name, g_many, g_nil, g_cons, startP, wipeP, Tg.slots, List.map_cons, List.map_nil, List.length_cons, List.length_nil, List.replicate_succ, List.replicate_zero, List.cons_append, List.nil_append, List.getElem?_cons_zero, List.getElem?_cons_succ, Option.join_some, List.set_cons_zero, List.set_cons_succ, Bool.true_eq_false, reduceCtorEq, Option.map_some, Option.bind_some, Nat.reduceAdd, Nat.reduceSub, Nat.zero_add, Bool.not_true, Bool.not_false, Bool.false_eq_true, true_implies, false_implies, implies_true, and_true, true_and, not_true_eq_false, not_false_eq_true, decide_eq_true_eq, Bool.not_eq_true', Bool.not_eq_false', decide_eq_false_iff_not, iL_empty, eq_iT, gc_11, gc_0, gc_1, gc_12, getP_none, b1_2, b1_3, b1_4, hs2, at1, at2]
    have m1 : ∀ x : Int, 0 ≤ x % 2305843009213693907 ∧ x % 2305843009213693907 < 2305843009213693907 := fun x => ⟨Int.emod_nonneg _ (by omega), Int.emod_lt_of_pos _ (by omega)⟩
    have m2 : ∀ x : Int, 0 ≤ x % 2305843009213693921 ∧ x % 2305843009213693921 < 2305843009213693921 := fun x => ⟨Int.emod_nonneg _ (by omega), Int.emod_lt_of_pos _ (by omega)⟩
    have l2 : ∀ x : Int, (x % 2305843009213693907).natAbs.log2 < 62 := fun x => log2_lt (by have := m1 x; omega) (by have := m1 x; omega) (by omega)
    have l3 : ∀ x : Int, (x % 2305843009213693921).natAbs.log2 < 62 := fun x => log2_lt (by have := m2 x; omega) (by have := m2 x; omega) (by omega)
    have l4 : (7368787 : Int).natAbs.log2 < 24 := by decide
    have l5 : (179 : Int).natAbs.log2 < 24 := by decide
    refine ⟨by omega, by omega, ?_, ?_, by omega, ?_, ⟨by omega, by decide⟩, h1, ?_⟩
    · have := l2 (b + 15485867 * (c + 1)); omega
    · omega
    · have := l3 ((b + 15485867 * (c + 1)) % 2305843009213693907 * ((b + 15485867 * (c + 1)) % 2305843009213693907) + 179 * (c + 1)); omega
    · exact hP _ _ (Int.emod_nonneg _ (by omega)) (Int.emod_lt_of_pos _ h1) (gr _) ⟨_, _, _, hs2, by omega, by omega⟩
end
end Pi

-- w_cons, w_nil, w_set, w_asg, w_par2, w_par3, w_setix, w_aug, w_expr, w_ret, w_retN, w_ifs, w_brk, w_cnt, w_pass, w_raise, w_for, w_whl, e_v, e_gc, e_int, e_str, e_bl, e_non, e_neg, e_not, e_bin, e_cmp, e_chain, e_and1, e_and2, e_or1, e_or2, e_and, e_or, e_ite, e_T, e_call, e_callv, e_bi, e_isi, e_meth, e_ix, e_slF, e_slT, e_slB, e_slN, e_rev, e_tup, e_lst, e_lc, e_lcIf, es_nil, es_cons, i_val, i_rng1, i_rng2, i_zip, getP_some, getP_map, getP_bind, getP_ite, asI_int, asF_fn, asT_tup, wpE_ok, step_name, step_many, c_eq, c_ne, c_lt, c_le, c_gt, c_ge, c_is, c_isNot, eq_int, eq_bl, eq_str, is_bl, is_nn, is_in, is_bn, is_sn, is_tn, is_ln, is_rn, t_non, t_bl, t_int, t_tup, t_rol, b_add, b_sub, b_mul, b_mod, b_fdiv, b_pow, b_addT, b_addS, b_mulT, b_mulSame, f_lenT, f_lenL, f_abs, f_max, f_min, f_int, f_intB, f_tupT, f_lstT, f_lstR, f_lenR, f_tupR, f_sum, f_all, f_any, f_anyT, f_allT, f_repr, x_tup, x_rol, x_ref, l_tup, l_ref, r_tup, m_app, m_ext, m_pop, m_cnt, p_app, p_ext, p_pop, p_cnt, s_tup, s_rol, s_ref, y_ii, y_ib, y_it, y_il, y_bi, y_bb, y_bt, y_tt, y_ti, y_tb, y_tl, y_ni, y_nt, x_set, a_add, a_sub, g_name, g_many, g_nil, g_cons, startP, wipeP, Tg.slots, List.map_cons, List.map_nil, List.length_cons, List.length_nil, List.replicate_succ, List.replicate_zero, List.cons_append, List.nil_append, List.getElem?_cons_zero, List.getElem?_cons_succ, Option.join_some, List.set_cons_zero, List.set_cons_succ, Bool.true_eq_false, reduceCtorEq, Option.map_some, Option.bind_some, Nat.reduceAdd, Nat.reduceSub, Nat.zero_add, Bool.not_true, Bool.not_false, Bool.false_eq_true, true_implies, false_implies, implies_true, and_true, true_and, not_true_eq_false, not_false_eq_true, decide_eq_true_eq, Bool.not_eq_true', Bool.not_eq_false', decide_eq_false_iff_not, iL_empty, eq_iT, gc_11, gc_0, gc_1, gc_12, getP_none+: gc_11 gc_0 gc_1 gc_12
set_option Elab.async false
set_option linter.all false
set_option maxRecDepth 100000
set_option maxHeartbeats 8000000
/-! runs: the law's words. -/
namespace Pi
open PySem Wm
section
variable {d : Nat} {h : IH} {P : PV → IH → Prop}
theorem atN {xs : List PV} {v : Int} {y : PV} (h0 : 0 ≤ v) (hg : xs[v.toNat]? = some y) : L2.atI xs v = some y := by
  have := L2.atI_nat hg
  rwa [Int.toNat_of_nonneg h0] at this
/-- one of a list's items -/
theorem sp_pick (n k m : Nat) (xs : List PV) (hd : Dice h n (k + 1)) (hm : lstAt h m = some xs) (hne : m ≠ n) (h1 : 0 < xs.length) (h2 : xs.length < 2 ^ 60) (hP : ∀ (v : Nat) y h', xs[v]? = some y → Gr [n] h h' → Dice h' n k → P y h') : wpE (run GT GC GF (d + 2) 2 [.ref n, .ref m] h) P := by
  rw [run_in (F := F2) rfl rfl]
  simp -implicitDefEqProofs only [F2, b2_0, w_cons, w_nil, w_set, w_asg, w_par2, w_par3, w_setix, w_aug, w_expr, w_ret, w_retN, w_ifs, w_brk, w_cnt, w_pass, w_raise, w_for, w_whl, e_v, e_gc, e_int, e_str, e_bl, e_non, e_neg, e_not, e_bin, e_cmp, e_chain, e_and1, e_and2, e_or1, e_or2, e_and, e_or, e_ite, e_T, e_call, e_callv, e_bi, e_isi, e_meth, e_ix, e_slF, e_slT, e_slB, e_slN, e_rev, e_tup, e_lst, e_lc, e_lcIf, es_nil, es_cons, i_val, i_rng1, i_rng2, i_zip, getP_some, getP_map, getP_bind, getP_ite, asI_int, asF_fn, asT_tup, wpE_ok, step_name, step_many, c_eq, c_ne, c_lt, c_le, c_gt, c_ge, c_is, c_isNot, eq_int, eq_bl, eq_str, is_bl, is_nn, is_in, is_bn, is_sn, is_tn, is_ln, is_rn, t_non, t_bl, t_int, t_tup, t_rol, b_add, b_sub, b_mul, b_mod, b_fdiv, b_pow, b_addT, b_addS, b_mulT, b_mulSame, f_lenT, f_lenL, f_abs, f_max, f_min, f_int, f_intB, f_tupT, f_lstT, f_lstR, f_lenR, f_tupR, f_sum, f_all, f_any, f_anyT, f_allT, f_repr, x_tup, x_rol, x_ref, l_tup, l_ref, r_tup, m_app, m_ext, m_pop, m_cnt, p_app, p_ext, p_pop, p_cnt, s_tup, s_rol, s_ref, y_ii, y_ib, y_it, y_il, y_bi, y_bb, y_bt, y_tt, y_ti, y_tb, y_tl, y_ni, y_nt, x_set, a_add, a_sub, g_name, g_many, g_nil, g_cons, startP, wipeP, Tg.slots, List.map_cons, List.map_nil, List.length_cons, List.length_nil, List.replicate_succ, List.replicate_zero, List.cons_append, List.nil_append, List.getElem?_cons_zero, List.getElem?_cons_succ, Option.join_some, List.set_cons_zero, List.set_cons_succ, Bool.true_eq_false, reduceCtorEq, Option.map_some, Option.bind_some, Nat.reduceAdd, Nat.reduceSub, Nat.zero_add, Bool.not_true, Bool.not_false, Bool.false_eq_true, true_implies, false_implies, implies_true, and_true, true_and, not_true_eq_false, not_false_eq_true, decide_eq_true_eq, Bool.not_eq_true', Bool.not_eq_false', decide_eq_false_iff_not, iL_empty, eq_iT, gc_11, gc_0, gc_1, gc_12, getP_none, hm]
  refine sp_roll n k _ hd (by omega) (by omega) fun v h' a b hg hd' => ?_
  have lt : v.toNat < xs.length := by omega
  simp -implicitDefEqProofs only [w_cons, w_nil, w_set, w_asg, w_par2, w_par3, w_setix, w_aug, w_expr, w_ret, w_retN, w_ifs, w_brk, w_cnt, w_pass, w_raise, w_for, w_whl, e_v, e_gc, e_int, e_str, e_bl, e_non, e_neg, e_not, e_bin, e_cmp, e_chain, e_and1, e_and2, e_or1, e_or2, e_and, e_or, e_ite, e_T, e_call, e_callv, e_bi, e_isi, e_meth, e_ix, e_slF, e_slT, e_slB, e_slN, e_rev, e_tup, e_lst, e_lc, e_lcIf, es_nil, es_cons, i_val, i_rng1, i_rng2, i_zip, getP_some, getP_map, getP_bind, getP_ite, asI_int, asF_fn, asT_tup, wpE_ok, step_name, step_many, c_eq, c_ne, c_lt, c_le, c_gt, c_ge, c_is, c_isNot, eq_int, eq_bl, eq_str, is_bl, is_nn, is_in, is_bn, is_sn, is_tn, is_ln, is_rn, t_non, t_bl, t_int, t_tup, t_rol, b_add, b_sub, b_mul, b_mod, b_fdiv, b_pow, b_addT, b_addS, b_mulT, b_mulSame, f_lenT, f_lenL, f_abs, f_max, f_min, f_int, f_intB, f_tupT, f_lstT, f_lstR, f_lenR, f_tupR, f_sum, f_all, f_any, f_anyT, f_allT, f_repr, x_tup, x_rol, x_ref, l_tup, l_ref, r_tup, m_app, m_ext, m_pop, m_cnt, p_app, p_ext, p_pop, p_cnt, s_tup, s_rol, s_ref, y_ii, y_ib, y_it, y_il, y_bi, y_bb, y_bt, y_tt, y_ti, y_tb, y_tl, y_ni, y_nt, x_set, a_add, a_sub, g_name, g_many, g_nil, g_cons, startP, wipeP, Tg.slots, List.map_cons, List.map_nil, List.length_cons, List.length_nil, List.replicate_succ, List.replicate_zero, List.cons_append, List.nil_append, List.getElem?_cons_zero, List.getElem?_cons_succ, Option.join_some, List.set_cons_zero, List.set_cons_succ, Bool.true_eq_false, reduceCtorEq, Option.map_some, Option.bind_some, Nat.reduceAdd, Nat.reduceSub, Nat.zero_add, Bool.not_true, Bool.not_false, Bool.false_eq_true, true_implies, false_implies, implies_true, and_true, true_and, not_true_eq_false, not_false_eq_true, decide_eq_true_eq, Bool.not_eq_true', Bool.not_eq_false', decide_eq_false_iff_not, iL_empty, eq_iT, gc_11, gc_0, gc_1, gc_12, getP_none, hg.at hm (by simpa using hne), atN a (List.getElem?_eq_getElem lt)]
  exact hP _ _ _ (List.getElem?_eq_getElem lt) hg hd'
theorem sp_law_letters (r : Nat) (hr : r < 1000) (hP : ∀ m h', lstAt h' m = some (iL (lets r)) → h.length ≤ m → Gr [] h h' → P (.ref m) h') : wpE (run GT GC GF (d + 1) 39 [.int r] h) P := by
  rw [run_in (F := F39) rfl rfl]
  simp -implicitDefEqProofs only [F39, b39_0, b39_1, w_cons, w_nil, w_set, w_asg, w_par2, w_par3, w_setix, w_aug, w_expr, w_ret, w_retN, w_ifs, w_brk, w_cnt, w_pass, w_raise, w_for, w_whl, e_v, e_gc, e_int, e_str, e_bl, e_non, e_neg, e_not, e_bin, e_cmp, e_chain, e_and1, e_and2, e_or1, e_or2, e_and, e_or, e_ite, e_T, e_call, e_callv, e_bi, e_isi, e_meth, e_ix, e_slF, e_slT, e_slB, e_slN, e_rev, e_tup, e_lst, e_lc, e_lcIf, es_nil, es_cons, i_val, i_rng1, i_rng2, i_zip, getP_some, getP_map, getP_bind, getP_ite, asI_int, asF_fn, asT_tup, wpE_ok, step_name, step_many, c_eq, c_ne, c_lt, c_le, c_gt, c_ge, c_is, c_isNot, eq_int, eq_bl, eq_str, is_bl, is_nn, is_in, is_bn, is_sn, is_tn, is_ln, is_rn, t_non, t_bl, t_int, t_tup, t_rol, b_add, b_sub, b_mul, b_mod, b_fdiv, b_pow, b_addT, b_addS, b_mulT, b_mulSame, f_lenT, f_lenL, f_abs, f_max, f_min, f_int, f_intB, f_tupT, f_lstT, f_lstR, f_lenR, f_tupR, f_sum, f_all, f_any, f_anyT, f_allT, f_repr, x_tup, x_rol, x_ref, l_tup, l_ref, r_tup, m_app, m_ext, m_pop, m_cnt, p_app, p_ext, p_pop, p_cnt, s_tup, s_rol, s_ref, y_ii, y_ib, y_it, y_il, y_bi, y_bb, y_bt, y_tt, y_ti, y_tb, y_tl, y_ni, y_nt, x_set, a_add, a_sub, g_name, g_many, g_nil, g_cons, startP, wipeP, Tg.slots, List.map_cons, List.map_nil, List.length_cons, List.length_nil, List.replicate_succ, List.replicate_zero, List.cons_append, List.nil_append, List.getElem?_cons_zero, List.getElem?_cons_succ, Option.join_some, List.set_cons_zero, List.set_cons_succ, Bool.true_eq_false, reduceCtorEq, Option.map_some, Option.bind_some, Nat.reduceAdd, Nat.reduceSub, Nat.zero_add, Bool.not_true, Bool.not_false, Bool.false_eq_true, true_implies, false_implies, implies_true, and_true, true_and, not_true_eq_false, not_false_eq_true, decide_eq_true_eq, Bool.not_eq_true', Bool.not_eq_false', decide_eq_false_iff_not, iL_empty, eq_iT, gc_11, gc_0, gc_1, gc_12, getP_none]
  refine ⟨Nat.zero_le _, ⟨inr_small (by omega) (by omega), inr_small (by omega) (by omega)⟩, ?_⟩
  have e : ((r : Int) + 1 - 1).toNat = r := by omega
  rw [e]
  refine for_fix (fun i ρ h' => ∃ o m, ρ = [some (.int r), some (.ref m), o] ∧ lstAt h' m = some (iL (lets i)) ∧ h.length ≤ m ∧ Gr [] h h') ⟨none, _, rfl, lst_new, Nat.le_refl _, Gr.new .refl⟩ (fun i x ρ h' hx hI => ?_) (fun ρ h' hI => ?_) (gf (by rw [rngL_len]; omega))
  · obtain ⟨o, m, rfl, hs, hm, hg⟩ := hI
    obtain ⟨lt, rfl⟩ := rngL_get hx
    have hn := lstAt_lt hs
    have hs' : lstAt (h' ++ [.lst [.int (1 + (i : Int)), .int (0 - (1 + (i : Int)))]]) m = some (iL (lets i)) := by rw [lst_old hn]; exact hs
    simp -implicitDefEqProofs only [w_cons, w_nil, w_set, w_asg, w_par2, w_par3, w_setix, w_aug, w_expr, w_ret, w_retN, w_ifs, w_brk, w_cnt, w_pass, w_raise, w_for, w_whl, e_v, e_gc, e_int, e_str, e_bl, e_non, e_neg, e_not, e_bin, e_cmp, e_chain, e_and1, e_and2, e_or1, e_or2, e_and, e_or, e_ite, e_T, e_call, e_callv, e_bi, e_isi, e_meth, e_ix, e_slF, e_slT, e_slB, e_slN, e_rev, e_tup, e_lst, e_lc, e_lcIf, es_nil, es_cons, i_val, i_rng1, i_rng2, i_zip, getP_some, getP_map, getP_bind, getP_ite, asI_int, asF_fn, asT_tup, wpE_ok, step_name, step_many, c_eq, c_ne, c_lt, c_le, c_gt, c_ge, c_is, c_isNot, eq_int, eq_bl, eq_str, is_bl, is_nn, is_in, is_bn, is_sn, is_tn, is_ln, is_rn, t_non, t_bl, t_int, t_tup, t_rol, b_add, b_sub, b_mul, b_mod, b_fdiv, b_pow, b_addT, b_addS, b_mulT, b_mulSame, f_lenT, f_lenL, f_abs, f_max, f_min, f_int, f_intB, f_tupT, f_lstT, f_lstR, f_lenR, f_tupR, f_sum, f_all, f_any, f_anyT, f_allT, f_repr, x_tup, x_rol, x_ref, l_tup, l_ref, r_tup, m_app, m_ext, m_pop, m_cnt, p_app, p_ext, p_pop, p_cnt, s_tup, s_rol, s_ref, y_ii, y_ib, y_it, y_il, y_bi, y_bb, y_bt, y_tt, y_ti, y_tb, y_tl, y_ni, y_nt, x_set, a_add, a_sub, g_name, g_many, g_nil, g_cons, startP, wipeP, Tg.slots, List.map_cons, List.map_nil, List.length_cons, List.length_nil, List.replicate_succ, List.replicate_zero, List.cons_append, List.nil_append, List.getElem?_cons_zero, List.getElem?_cons_succ, Option.join_some, List.set_cons_zero, List.set_cons_succ, Bool.true_eq_false, reduceCtorEq, Option.map_some, Option.bind_some, Nat.reduceAdd, Nat.reduceSub, Nat.zero_add, Bool.not_true, Bool.not_false, Bool.false_eq_true, true_implies, false_implies, implies_true, and_true, true_and, not_true_eq_false, not_false_eq_true, decide_eq_true_eq, Bool.not_eq_true', Bool.not_eq_false', decide_eq_false_iff_not, iL_empty, eq_iT, gc_11, gc_0, gc_1, gc_12, getP_none, l39_0_0, binO, hs', lst_new]
    refine ⟨by decide, by rw [iL_len, lets_len]; exact sz (by simp; omega), ?_⟩
    refine ⟨_, _, rfl, ?_, Nat.le_trans hg.1 (by simp), hg.new.new⟩
    rw [lst_new, lets_succ, iL_app, Int.zero_sub]
    rfl
  · obtain ⟨o, m, rfl, hs, hm, hg⟩ := hI
    rw [rngL_len] at hs
    simp -implicitDefEqProofs only [b39_2, w_cons, w_nil, w_set, w_asg, w_par2, w_par3, w_setix, w_aug, w_expr, w_ret, w_retN, w_ifs, w_brk, w_cnt, w_pass, w_raise, w_for, w_whl, e_v, e_gc, e_int, e_str, e_bl, e_non, e_neg, e_not, e_bin, e_cmp, e_chain, e_and1, e_and2, e_or1, e_or2, e_and, e_or, e_ite, e_T, e_call, e_callv, e_bi, e_isi, e_meth, e_ix, e_slF, e_slT, e_slB, e_slN, e_rev, e_tup, e_lst, e_lc, e_lcIf, es_nil, es_cons, i_val, i_rng1, i_rng2, i_zip, getP_some, getP_map, getP_bind, getP_ite, asI_int, asF_fn, asT_tup, wpE_ok, step_name, step_many, c_eq, c_ne, c_lt, c_le, c_gt, c_ge, c_is, c_isNot, eq_int, eq_bl, eq_str, is_bl, is_nn, is_in, is_bn, is_sn, is_tn, is_ln, is_rn, t_non, t_bl, t_int, t_tup, t_rol, b_add, b_sub, b_mul, b_mod, b_fdiv, b_pow, b_addT, b_addS, b_mulT, b_mulSame, f_lenT, f_lenL, f_abs, f_max, f_min, f_int, f_intB, f_tupT, f_lstT, f_lstR, f_lenR, f_tupR, f_sum, f_all, f_any, f_anyT, f_allT, f_repr, x_tup, x_rol, x_ref, l_tup, l_ref, r_tup, m_app, m_ext, m_pop, m_cnt, p_app, p_ext, p_pop, p_cnt, s_tup, s_rol, s_ref, y_ii, y_ib, y_it, y_il, y_bi, y_bb, y_bt, y_tt, y_ti, y_tb, y_tl, y_ni, y_nt, x_set, a_add, a_sub, g_name, g_many, g_nil, g_cons, startP, wipeP, Tg.slots, List.map_cons, List.map_nil, List.length_cons, List.length_nil, List.replicate_succ, List.replicate_zero, List.cons_append, List.nil_append, List.getElem?_cons_zero, List.getElem?_cons_succ, Option.join_some, List.set_cons_zero, List.set_cons_succ, Bool.true_eq_false, reduceCtorEq, Option.map_some, Option.bind_some, Nat.reduceAdd, Nat.reduceSub, Nat.zero_add, Bool.not_true, Bool.not_false, Bool.false_eq_true, true_implies, false_implies, implies_true, and_true, true_and, not_true_eq_false, not_false_eq_true, decide_eq_true_eq, Bool.not_eq_true', Bool.not_eq_false', decide_eq_false_iff_not, iL_empty, eq_iT, gc_11, gc_0, gc_1, gc_12, getP_none]
    exact hP _ _ hs hm hg
/-- one letter goes on the list at n: as the law has it -/
theorem push_sub {C : Ctx} {N : PEnv → IH → Prop} {Rt : PV → IH → Prop} {B Ct : PEnv → IH → Prop} {ρ : PEnv} {h : IH} {i j n : Nat} {s : List Int} {x : Int} (hi : ρ[i]?.join = some (.ref n)) (hj : ρ[j]?.join = some (.int x)) (hs : lstAt h n = some (iL s.reverse)) (hl : s.length < 1000000)
    (hN : ∀ h', Gr [n] h h' → lstAt h' n = some (iL (push s x).reverse) → N ρ h') :
    wpS (exS C (.ifs (.and (.cons (.cmp .ne (.v i) (.lst .nil)) (.cons (.cmp .eq (.ix (.v i) (.neg (.int 1))) (.bin .sub (.int 0) (.v j))) .nil))) (.cons (.expr (.meth .pop (.v i) .nil)) .nil) (.cons (.expr (.meth .append (.v i) (.cons (.v j) .nil))) .nil)) ρ h) N Rt B Ct := by
  have hn : n < h.length := lstAt_lt hs
  have e0 : lstAt (h ++ [Cell.lst []]) n = some (iL s.reverse) := by rw [lst_old hn]; exact hs
  simp -implicitDefEqProofs only [w_cons, w_nil, w_set, w_asg, w_par2, w_par3, w_setix, w_aug, w_expr, w_ret, w_retN, w_ifs, w_brk, w_cnt, w_pass, w_raise, w_for, w_whl, e_v, e_gc, e_int, e_str, e_bl, e_non, e_neg, e_not, e_bin, e_cmp, e_chain, e_and1, e_and2, e_or1, e_or2, e_and, e_or, e_ite, e_T, e_call, e_callv, e_bi, e_isi, e_meth, e_ix, e_slF, e_slT, e_slB, e_slN, e_rev, e_tup, e_lst, e_lc, e_lcIf, es_nil, es_cons, i_val, i_rng1, i_rng2, i_zip, getP_some, getP_map, getP_bind, getP_ite, asI_int, asF_fn, asT_tup, wpE_ok, step_name, step_many, c_eq, c_ne, c_lt, c_le, c_gt, c_ge, c_is, c_isNot, eq_int, eq_bl, eq_str, is_bl, is_nn, is_in, is_bn, is_sn, is_tn, is_ln, is_rn, t_non, t_bl, t_int, t_tup, t_rol, b_add, b_sub, b_mul, b_mod, b_fdiv, b_pow, b_addT, b_addS, b_mulT, b_mulSame, f_lenT, f_lenL, f_abs, f_max, f_min, f_int, f_intB, f_tupT, f_lstT, f_lstR, f_lenR, f_tupR, f_sum, f_all, f_any, f_anyT, f_allT, f_repr, x_tup, x_rol, x_ref, l_tup, l_ref, r_tup, m_app, m_ext, m_pop, m_cnt, p_app, p_ext, p_pop, p_cnt, s_tup, s_rol, s_ref, y_ii, y_ib, y_it, y_il, y_bi, y_bb, y_bt, y_tt, y_ti, y_tb, y_tl, y_ni, y_nt, x_set, a_add, a_sub, g_name, g_many, g_nil, g_cons, startP, wipeP, Tg.slots, List.map_cons, List.map_nil, List.length_cons, List.length_nil, List.replicate_succ, List.replicate_zero, List.cons_append, List.nil_append, List.getElem?_cons_zero, List.getElem?_cons_succ, Option.join_some, List.set_cons_zero, List.set_cons_succ, Bool.true_eq_false, reduceCtorEq, Option.map_some, Option.bind_some, Nat.reduceAdd, Nat.reduceSub, Nat.zero_add, Bool.not_true, Bool.not_false, Bool.false_eq_true, true_implies, false_implies, implies_true, and_true, true_and, not_true_eq_false, not_false_eq_true, decide_eq_true_eq, Bool.not_eq_true', Bool.not_eq_false', decide_eq_false_iff_not, iL_empty, eq_iT, gc_11, gc_0, gc_1, gc_12, getP_none, hi, hj, e0, eq_lsts (w := []) e0 lst_new, Int.zero_sub]
  refine ⟨Nat.zero_le _, ?_⟩
  cases s with
  | nil =>
    simp -implicitDefEqProofs only [List.reverse_nil, decide_true, w_cons, w_nil, w_set, w_asg, w_par2, w_par3, w_setix, w_aug, w_expr, w_ret, w_retN, w_ifs, w_brk, w_cnt, w_pass, w_raise, w_for, w_whl, e_v, e_gc, e_int, e_str, e_bl, e_non, e_neg, e_not, e_bin, e_cmp, e_chain, e_and1, e_and2, e_or1, e_or2, e_and, e_or, e_ite, e_T, e_call, e_callv, e_bi, e_isi, e_meth, e_ix, e_slF, e_slT, e_slB, e_slN, e_rev, e_tup, e_lst, e_lc, e_lcIf, es_nil, es_cons, i_val, i_rng1, i_rng2, i_zip, getP_some, getP_map, getP_bind, getP_ite, asI_int, asF_fn, asT_tup, wpE_ok, step_name, step_many, c_eq, c_ne, c_lt, c_le, c_gt, c_ge, c_is, c_isNot, eq_int, eq_bl, eq_str, is_bl, is_nn, is_in, is_bn, is_sn, is_tn, is_ln, is_rn, t_non, t_bl, t_int, t_tup, t_rol, b_add, b_sub, b_mul, b_mod, b_fdiv, b_pow, b_addT, b_addS, b_mulT, b_mulSame, f_lenT, f_lenL, f_abs, f_max, f_min, f_int, f_intB, f_tupT, f_lstT, f_lstR, f_lenR, f_tupR, f_sum, f_all, f_any, f_anyT, f_allT, f_repr, x_tup, x_rol, x_ref, l_tup, l_ref, r_tup, m_app, m_ext, m_pop, m_cnt, p_app, p_ext, p_pop, p_cnt, s_tup, s_rol, s_ref, y_ii, y_ib, y_it, y_il, y_bi, y_bb, y_bt, y_tt, y_ti, y_tb, y_tl, y_ni, y_nt, x_set, a_add, a_sub, g_name, g_many, g_nil, g_cons, startP, wipeP, Tg.slots, List.map_cons, List.map_nil, List.length_cons, List.length_nil, List.replicate_succ, List.replicate_zero, List.cons_append, List.nil_append, List.getElem?_cons_zero, List.getElem?_cons_succ, Option.join_some, List.set_cons_zero, List.set_cons_succ, Bool.true_eq_false, reduceCtorEq, Option.map_some, Option.bind_some, Nat.reduceAdd, Nat.reduceSub, Nat.zero_add, Bool.not_true, Bool.not_false, Bool.false_eq_true, true_implies, false_implies, implies_true, and_true, true_and, not_true_eq_false, not_false_eq_true, decide_eq_true_eq, Bool.not_eq_true', Bool.not_eq_false', decide_eq_false_iff_not, iL_empty, eq_iT, gc_11, gc_0, gc_1, gc_12, getP_none]
    refine ⟨szl (by simp [iL]), hN _ (Gr.set_in (n := n) (Gr.new .refl) (by simp)) ?_⟩
    rw [lst_set (by simp; omega)]
    rfl
  | cons y s =>
    have e1 : iL (y :: s).reverse = iL s.reverse ++ [.int y] := by simp [iL]
    have ne : (y :: s).reverse ≠ [] := by simp
    simp -implicitDefEqProofs only [e1, L2.atI_last, w_cons, w_nil, w_set, w_asg, w_par2, w_par3, w_setix, w_aug, w_expr, w_ret, w_retN, w_ifs, w_brk, w_cnt, w_pass, w_raise, w_for, w_whl, e_v, e_gc, e_int, e_str, e_bl, e_non, e_neg, e_not, e_bin, e_cmp, e_chain, e_and1, e_and2, e_or1, e_or2, e_and, e_or, e_ite, e_T, e_call, e_callv, e_bi, e_isi, e_meth, e_ix, e_slF, e_slT, e_slB, e_slN, e_rev, e_tup, e_lst, e_lc, e_lcIf, es_nil, es_cons, i_val, i_rng1, i_rng2, i_zip, getP_some, getP_map, getP_bind, getP_ite, asI_int, asF_fn, asT_tup, wpE_ok, step_name, step_many, c_eq, c_ne, c_lt, c_le, c_gt, c_ge, c_is, c_isNot, eq_int, eq_bl, eq_str, is_bl, is_nn, is_in, is_bn, is_sn, is_tn, is_ln, is_rn, t_non, t_bl, t_int, t_tup, t_rol, b_add, b_sub, b_mul, b_mod, b_fdiv, b_pow, b_addT, b_addS, b_mulT, b_mulSame, f_lenT, f_lenL, f_abs, f_max, f_min, f_int, f_intB, f_tupT, f_lstT, f_lstR, f_lenR, f_tupR, f_sum, f_all, f_any, f_anyT, f_allT, f_repr, x_tup, x_rol, x_ref, l_tup, l_ref, r_tup, m_app, m_ext, m_pop, m_cnt, p_app, p_ext, p_pop, p_cnt, s_tup, s_rol, s_ref, y_ii, y_ib, y_it, y_il, y_bi, y_bb, y_bt, y_tt, y_ti, y_tb, y_tl, y_ni, y_nt, x_set, a_add, a_sub, g_name, g_many, g_nil, g_cons, startP, wipeP, Tg.slots, List.map_cons, List.map_nil, List.length_cons, List.length_nil, List.replicate_succ, List.replicate_zero, List.cons_append, List.nil_append, List.getElem?_cons_zero, List.getElem?_cons_succ, Option.join_some, List.set_cons_zero, List.set_cons_succ, Bool.true_eq_false, reduceCtorEq, Option.map_some, Option.bind_some, Nat.reduceAdd, Nat.reduceSub, Nat.zero_add, Bool.not_true, Bool.not_false, Bool.false_eq_true, true_implies, false_implies, implies_true, and_true, true_and, not_true_eq_false, not_false_eq_true, decide_eq_true_eq, Bool.not_eq_true', Bool.not_eq_false', decide_eq_false_iff_not, iL_empty, eq_iT, gc_11, gc_0, gc_1, gc_12, getP_none]
    by_cases hy : y = -x
    · refine ⟨fun _ => brY hy ?_, fun z => absurd z ne⟩
      simp -implicitDefEqProofs only [w_cons, w_nil, w_set, w_asg, w_par2, w_par3, w_setix, w_aug, w_expr, w_ret, w_retN, w_ifs, w_brk, w_cnt, w_pass, w_raise, w_for, w_whl, e_v, e_gc, e_int, e_str, e_bl, e_non, e_neg, e_not, e_bin, e_cmp, e_chain, e_and1, e_and2, e_or1, e_or2, e_and, e_or, e_ite, e_T, e_call, e_callv, e_bi, e_isi, e_meth, e_ix, e_slF, e_slT, e_slB, e_slN, e_rev, e_tup, e_lst, e_lc, e_lcIf, es_nil, es_cons, i_val, i_rng1, i_rng2, i_zip, getP_some, getP_map, getP_bind, getP_ite, asI_int, asF_fn, asT_tup, wpE_ok, step_name, step_many, c_eq, c_ne, c_lt, c_le, c_gt, c_ge, c_is, c_isNot, eq_int, eq_bl, eq_str, is_bl, is_nn, is_in, is_bn, is_sn, is_tn, is_ln, is_rn, t_non, t_bl, t_int, t_tup, t_rol, b_add, b_sub, b_mul, b_mod, b_fdiv, b_pow, b_addT, b_addS, b_mulT, b_mulSame, f_lenT, f_lenL, f_abs, f_max, f_min, f_int, f_intB, f_tupT, f_lstT, f_lstR, f_lenR, f_tupR, f_sum, f_all, f_any, f_anyT, f_allT, f_repr, x_tup, x_rol, x_ref, l_tup, l_ref, r_tup, m_app, m_ext, m_pop, m_cnt, p_app, p_ext, p_pop, p_cnt, s_tup, s_rol, s_ref, y_ii, y_ib, y_it, y_il, y_bi, y_bb, y_bt, y_tt, y_ti, y_tb, y_tl, y_ni, y_nt, x_set, a_add, a_sub, g_name, g_many, g_nil, g_cons, startP, wipeP, Tg.slots, List.map_cons, List.map_nil, List.length_cons, List.length_nil, List.replicate_succ, List.replicate_zero, List.cons_append, List.nil_append, List.getElem?_cons_zero, List.getElem?_cons_succ, Option.join_some, List.set_cons_zero, List.set_cons_succ, Bool.true_eq_false, reduceCtorEq, Option.map_some, Option.bind_some, Nat.reduceAdd, Nat.reduceSub, Nat.zero_add, Bool.not_true, Bool.not_false, Bool.false_eq_true, true_implies, false_implies, implies_true, and_true, true_and, not_true_eq_false, not_false_eq_true, decide_eq_true_eq, Bool.not_eq_true', Bool.not_eq_false', decide_eq_false_iff_not, iL_empty, eq_iT, gc_11, gc_0, gc_1, gc_12, getP_none, e0, e1, List.getLast?_append, List.getLast?_singleton, Option.some_or, List.dropLast_concat]
      refine hN _ (Gr.set_in (n := n) (Gr.new .refl) (by simp)) ?_
      rw [lst_set (by simp; omega)]
      simp [push, hy]
    · refine ⟨fun _ => brN hy ?_, fun z => absurd z ne⟩
      refine ⟨szl (by simp [iL] at hl ⊢; omega), hN _ (Gr.set_in (n := n) (Gr.new .refl) (by simp)) ?_⟩
      rw [lst_set (by simp; omega)]
      simp [push, hy, iL]
theorem sp_law_short (w : List Int) (hl : w.length < 1000000) (hP : ∀ h', Gr [] h h' → P (iT (sh w)) h') : wpE (run GT GC GF (d + 1) 40 [iT w] h) P := by
  rw [run_in (F := F40) rfl rfl]
  simp -implicitDefEqProofs only [F40, b40_0, b40_1, w_cons, w_nil, w_set, w_asg, w_par2, w_par3, w_setix, w_aug, w_expr, w_ret, w_retN, w_ifs, w_brk, w_cnt, w_pass, w_raise, w_for, w_whl, e_v, e_gc, e_int, e_str, e_bl, e_non, e_neg, e_not, e_bin, e_cmp, e_chain, e_and1, e_and2, e_or1, e_or2, e_and, e_or, e_ite, e_T, e_call, e_callv, e_bi, e_isi, e_meth, e_ix, e_slF, e_slT, e_slB, e_slN, e_rev, e_tup, e_lst, e_lc, e_lcIf, es_nil, es_cons, i_val, i_rng1, i_rng2, i_zip, getP_some, getP_map, getP_bind, getP_ite, asI_int, asF_fn, asT_tup, wpE_ok, step_name, step_many, c_eq, c_ne, c_lt, c_le, c_gt, c_ge, c_is, c_isNot, eq_int, eq_bl, eq_str, is_bl, is_nn, is_in, is_bn, is_sn, is_tn, is_ln, is_rn, t_non, t_bl, t_int, t_tup, t_rol, b_add, b_sub, b_mul, b_mod, b_fdiv, b_pow, b_addT, b_addS, b_mulT, b_mulSame, f_lenT, f_lenL, f_abs, f_max, f_min, f_int, f_intB, f_tupT, f_lstT, f_lstR, f_lenR, f_tupR, f_sum, f_all, f_any, f_anyT, f_allT, f_repr, x_tup, x_rol, x_ref, l_tup, l_ref, r_tup, m_app, m_ext, m_pop, m_cnt, p_app, p_ext, p_pop, p_cnt, s_tup, s_rol, s_ref, y_ii, y_ib, y_it, y_il, y_bi, y_bb, y_bt, y_tt, y_ti, y_tb, y_tl, y_ni, y_nt, x_set, a_add, a_sub, g_name, g_many, g_nil, g_cons, startP, wipeP, Tg.slots, List.map_cons, List.map_nil, List.length_cons, List.length_nil, List.replicate_succ, List.replicate_zero, List.cons_append, List.nil_append, List.getElem?_cons_zero, List.getElem?_cons_succ, Option.join_some, List.set_cons_zero, List.set_cons_succ, Bool.true_eq_false, reduceCtorEq, Option.map_some, Option.bind_some, Nat.reduceAdd, Nat.reduceSub, Nat.zero_add, Bool.not_true, Bool.not_false, Bool.false_eq_true, true_implies, false_implies, implies_true, and_true, true_and, not_true_eq_false, not_false_eq_true, decide_eq_true_eq, Bool.not_eq_true', Bool.not_eq_false', decide_eq_false_iff_not, iL_empty, eq_iT, gc_11, gc_0, gc_1, gc_12, getP_none]
  refine ⟨Nat.zero_le _, ?_⟩
  refine for_fix (fun i ρ h' => ∃ o, ρ = [some (iT w), some (.ref h.length), o] ∧ lstAt h' h.length = some (iL (st [] (w.take i)).reverse) ∧ Gr [] h h') ⟨none, rfl, lst_new, Gr.new .refl⟩ (fun i x ρ h' hx hI => ?_) (fun ρ h' hI => ?_) (gf (by rw [iL_len]; omega))
  · obtain ⟨o, rfl, hs, hg⟩ := hI
    obtain ⟨z, hz, rfl⟩ := iL_get hx
    have lt : i < w.length := (List.getElem?_eq_some_iff.mp hz).1
    simp only [g_name, getP_some, l40_0_0, w_cons, w_nil, List.set_cons_zero, List.set_cons_succ]
    refine push_sub (s := st [] (w.take i)) (x := z) (n := h.length) rfl rfl hs ?_ fun h'' hg' hs' => ?_
    · have := st_len (w.take i) []
      rw [List.length_take] at this
      simp at this
      omega
    · refine ⟨_, rfl, ?_, ⟨Nat.le_trans hg.1 hg'.1, fun k hk _ => by rw [hg'.2 k (Nat.lt_of_lt_of_le hk hg.1) (by simp; omega)]; exact hg.2 k hk (by simp)⟩⟩
      rw [List.take_add_one, hz, Option.toList, st_snoc]
      exact hs'
  · obtain ⟨o, rfl, hs, hg⟩ := hI
    rw [iL_len, List.take_length] at hs
    simp -implicitDefEqProofs only [b40_2, w_cons, w_nil, w_set, w_asg, w_par2, w_par3, w_setix, w_aug, w_expr, w_ret, w_retN, w_ifs, w_brk, w_cnt, w_pass, w_raise, w_for, w_whl, e_v, e_gc, e_int, e_str, e_bl, e_non, e_neg, e_not, e_bin, e_cmp, e_chain, e_and1, e_and2, e_or1, e_or2, e_and, e_or, e_ite, e_T, e_call, e_callv, e_bi, e_isi, e_meth, e_ix, e_slF, e_slT, e_slB, e_slN, e_rev, e_tup, e_lst, e_lc, e_lcIf, es_nil, es_cons, i_val, i_rng1, i_rng2, i_zip, getP_some, getP_map, getP_bind, getP_ite, asI_int, asF_fn, asT_tup, wpE_ok, step_name, step_many, c_eq, c_ne, c_lt, c_le, c_gt, c_ge, c_is, c_isNot, eq_int, eq_bl, eq_str, is_bl, is_nn, is_in, is_bn, is_sn, is_tn, is_ln, is_rn, t_non, t_bl, t_int, t_tup, t_rol, b_add, b_sub, b_mul, b_mod, b_fdiv, b_pow, b_addT, b_addS, b_mulT, b_mulSame, f_lenT, f_lenL, f_abs, f_max, f_min, f_int, f_intB, f_tupT, f_lstT, f_lstR, f_lenR, f_tupR, f_sum, f_all, f_any, f_anyT, f_allT, f_repr, x_tup, x_rol, x_ref, l_tup, l_ref, r_tup, m_app, m_ext, m_pop, m_cnt, p_app, p_ext, p_pop, p_cnt, s_tup, s_rol, s_ref, y_ii, y_ib, y_it, y_il, y_bi, y_bb, y_bt, y_tt, y_ti, y_tb, y_tl, y_ni, y_nt, x_set, a_add, a_sub, g_name, g_many, g_nil, g_cons, startP, wipeP, Tg.slots, List.map_cons, List.map_nil, List.length_cons, List.length_nil, List.replicate_succ, List.replicate_zero, List.cons_append, List.nil_append, List.getElem?_cons_zero, List.getElem?_cons_succ, Option.join_some, List.set_cons_zero, List.set_cons_succ, Bool.true_eq_false, reduceCtorEq, Option.map_some, Option.bind_some, Nat.reduceAdd, Nat.reduceSub, Nat.zero_add, Bool.not_true, Bool.not_false, Bool.false_eq_true, true_implies, false_implies, implies_true, and_true, true_and, not_true_eq_false, not_false_eq_true, decide_eq_true_eq, Bool.not_eq_true', Bool.not_eq_false', decide_eq_false_iff_not, iL_empty, eq_iT, gc_11, gc_0, gc_1, gc_12, getP_none, hs]
    exact hP _ hg
theorem sp_law_undone (w : List Int) (hl : w.length < 1000000) (hP : ∀ h', Gr [] h h' → P (iT (un w)) h') : wpE (run GT GC GF (d + 1) 41 [iT w] h) P := by
  rw [run_in (F := F41) rfl rfl]
  simp -implicitDefEqProofs only [F41, b41_0, w_cons, w_nil, w_set, w_asg, w_par2, w_par3, w_setix, w_aug, w_expr, w_ret, w_retN, w_ifs, w_brk, w_cnt, w_pass, w_raise, w_for, w_whl, e_v, e_gc, e_int, e_str, e_bl, e_non, e_neg, e_not, e_bin, e_cmp, e_chain, e_and1, e_and2, e_or1, e_or2, e_and, e_or, e_ite, e_T, e_call, e_callv, e_bi, e_isi, e_meth, e_ix, e_slF, e_slT, e_slB, e_slN, e_rev, e_tup, e_lst, e_lc, e_lcIf, es_nil, es_cons, i_val, i_rng1, i_rng2, i_zip, getP_some, getP_map, getP_bind, getP_ite, asI_int, asF_fn, asT_tup, wpE_ok, step_name, step_many, c_eq, c_ne, c_lt, c_le, c_gt, c_ge, c_is, c_isNot, eq_int, eq_bl, eq_str, is_bl, is_nn, is_in, is_bn, is_sn, is_tn, is_ln, is_rn, t_non, t_bl, t_int, t_tup, t_rol, b_add, b_sub, b_mul, b_mod, b_fdiv, b_pow, b_addT, b_addS, b_mulT, b_mulSame, f_lenT, f_lenL, f_abs, f_max, f_min, f_int, f_intB, f_tupT, f_lstT, f_lstR, f_lenR, f_tupR, f_sum, f_all, f_any, f_anyT, f_allT, f_repr, x_tup, x_rol, x_ref, l_tup, l_ref, r_tup, m_app, m_ext, m_pop, m_cnt, p_app, p_ext, p_pop, p_cnt, s_tup, s_rol, s_ref, y_ii, y_ib, y_it, y_il, y_bi, y_bb, y_bt, y_tt, y_ti, y_tb, y_tl, y_ni, y_nt, x_set, a_add, a_sub, g_name, g_many, g_nil, g_cons, startP, wipeP, Tg.slots, List.map_cons, List.map_nil, List.length_cons, List.length_nil, List.replicate_succ, List.replicate_zero, List.cons_append, List.nil_append, List.getElem?_cons_zero, List.getElem?_cons_succ, Option.join_some, List.set_cons_zero, List.set_cons_succ, Bool.true_eq_false, reduceCtorEq, Option.map_some, Option.bind_some, Nat.reduceAdd, Nat.reduceSub, Nat.zero_add, Bool.not_true, Bool.not_false, Bool.false_eq_true, true_implies, false_implies, implies_true, and_true, true_and, not_true_eq_false, not_false_eq_true, decide_eq_true_eq, Bool.not_eq_true', Bool.not_eq_false', decide_eq_false_iff_not, iL_empty, eq_iT, gc_11, gc_0, gc_1, gc_12, getP_none, iL_rev]
  refine lc_map (ys := iL (un w)) [] (by simp [iL_len, un]) (fun i x y h' hx hy hg => ?_) (fun h' hg => ?_) (by rw [iL_len]; exact sz (by simp; omega)) (gf (by rw [iL_len]; simp; omega))
  · obtain ⟨z, hz, rfl⟩ := iL_get hx
    rw [map_get hz hy]
    simp -implicitDefEqProofs only [w_cons, w_nil, w_set, w_asg, w_par2, w_par3, w_setix, w_aug, w_expr, w_ret, w_retN, w_ifs, w_brk, w_cnt, w_pass, w_raise, w_for, w_whl, e_v, e_gc, e_int, e_str, e_bl, e_non, e_neg, e_not, e_bin, e_cmp, e_chain, e_and1, e_and2, e_or1, e_or2, e_and, e_or, e_ite, e_T, e_call, e_callv, e_bi, e_isi, e_meth, e_ix, e_slF, e_slT, e_slB, e_slN, e_rev, e_tup, e_lst, e_lc, e_lcIf, es_nil, es_cons, i_val, i_rng1, i_rng2, i_zip, getP_some, getP_map, getP_bind, getP_ite, asI_int, asF_fn, asT_tup, wpE_ok, step_name, step_many, c_eq, c_ne, c_lt, c_le, c_gt, c_ge, c_is, c_isNot, eq_int, eq_bl, eq_str, is_bl, is_nn, is_in, is_bn, is_sn, is_tn, is_ln, is_rn, t_non, t_bl, t_int, t_tup, t_rol, b_add, b_sub, b_mul, b_mod, b_fdiv, b_pow, b_addT, b_addS, b_mulT, b_mulSame, f_lenT, f_lenL, f_abs, f_max, f_min, f_int, f_intB, f_tupT, f_lstT, f_lstR, f_lenR, f_tupR, f_sum, f_all, f_any, f_anyT, f_allT, f_repr, x_tup, x_rol, x_ref, l_tup, l_ref, r_tup, m_app, m_ext, m_pop, m_cnt, p_app, p_ext, p_pop, p_cnt, s_tup, s_rol, s_ref, y_ii, y_ib, y_it, y_il, y_bi, y_bb, y_bt, y_tt, y_ti, y_tb, y_tl, y_ni, y_nt, x_set, a_add, a_sub, g_name, g_many, g_nil, g_cons, startP, wipeP, Tg.slots, List.map_cons, List.map_nil, List.length_cons, List.length_nil, List.replicate_succ, List.replicate_zero, List.cons_append, List.nil_append, List.getElem?_cons_zero, List.getElem?_cons_succ, Option.join_some, List.set_cons_zero, List.set_cons_succ, Bool.true_eq_false, reduceCtorEq, Option.map_some, Option.bind_some, Nat.reduceAdd, Nat.reduceSub, Nat.zero_add, Bool.not_true, Bool.not_false, Bool.false_eq_true, true_implies, false_implies, implies_true, and_true, true_and, not_true_eq_false, not_false_eq_true, decide_eq_true_eq, Bool.not_eq_true', Bool.not_eq_false', decide_eq_false_iff_not, iL_empty, eq_iT, gc_11, gc_0, gc_1, gc_12, getP_none, Int.zero_sub]
    exact hg
  · simp -implicitDefEqProofs only [w_cons, w_nil, w_set, w_asg, w_par2, w_par3, w_setix, w_aug, w_expr, w_ret, w_retN, w_ifs, w_brk, w_cnt, w_pass, w_raise, w_for, w_whl, e_v, e_gc, e_int, e_str, e_bl, e_non, e_neg, e_not, e_bin, e_cmp, e_chain, e_and1, e_and2, e_or1, e_or2, e_and, e_or, e_ite, e_T, e_call, e_callv, e_bi, e_isi, e_meth, e_ix, e_slF, e_slT, e_slB, e_slN, e_rev, e_tup, e_lst, e_lc, e_lcIf, es_nil, es_cons, i_val, i_rng1, i_rng2, i_zip, getP_some, getP_map, getP_bind, getP_ite, asI_int, asF_fn, asT_tup, wpE_ok, step_name, step_many, c_eq, c_ne, c_lt, c_le, c_gt, c_ge, c_is, c_isNot, eq_int, eq_bl, eq_str, is_bl, is_nn, is_in, is_bn, is_sn, is_tn, is_ln, is_rn, t_non, t_bl, t_int, t_tup, t_rol, b_add, b_sub, b_mul, b_mod, b_fdiv, b_pow, b_addT, b_addS, b_mulT, b_mulSame, f_lenT, f_lenL, f_abs, f_max, f_min, f_int, f_intB, f_tupT, f_lstT, f_lstR, f_lenR, f_tupR, f_sum, f_all, f_any, f_anyT, f_allT, f_repr, x_tup, x_rol, x_ref, l_tup, l_ref, r_tup, m_app, m_ext, m_pop, m_cnt, p_app, p_ext, p_pop, p_cnt, s_tup, s_rol, s_ref, y_ii, y_ib, y_it, y_il, y_bi, y_bb, y_bt, y_tt, y_ti, y_tb, y_tl, y_ni, y_nt, x_set, a_add, a_sub, g_name, g_many, g_nil, g_cons, startP, wipeP, Tg.slots, List.map_cons, List.map_nil, List.length_cons, List.length_nil, List.replicate_succ, List.replicate_zero, List.cons_append, List.nil_append, List.getElem?_cons_zero, List.getElem?_cons_succ, Option.join_some, List.set_cons_zero, List.set_cons_succ, Bool.true_eq_false, reduceCtorEq, Option.map_some, Option.bind_some, Nat.reduceAdd, Nat.reduceSub, Nat.zero_add, Bool.not_true, Bool.not_false, Bool.false_eq_true, true_implies, false_implies, implies_true, and_true, true_and, not_true_eq_false, not_false_eq_true, decide_eq_true_eq, Bool.not_eq_true', Bool.not_eq_false', decide_eq_false_iff_not, iL_empty, eq_iT, gc_11, gc_0, gc_1, gc_12, getP_none, lst_new]
    exact hP _ hg.new
theorem sp_law_product (ws : List (List Int)) (hl : ws.flatten.length < 1000000) (hl2 : ws.length < 1000000) (hP : ∀ h', Gr [] h h' → P (iT (sh ws.flatten)) h') : wpE (run GT GC GF (d + 2) 42 [wT ws] h) P := by
  rw [run_in (F := F42) rfl rfl]
  simp -implicitDefEqProofs only [F42, b42_0, b42_1, w_cons, w_nil, w_set, w_asg, w_par2, w_par3, w_setix, w_aug, w_expr, w_ret, w_retN, w_ifs, w_brk, w_cnt, w_pass, w_raise, w_for, w_whl, e_v, e_gc, e_int, e_str, e_bl, e_non, e_neg, e_not, e_bin, e_cmp, e_chain, e_and1, e_and2, e_or1, e_or2, e_and, e_or, e_ite, e_T, e_call, e_callv, e_bi, e_isi, e_meth, e_ix, e_slF, e_slT, e_slB, e_slN, e_rev, e_tup, e_lst, e_lc, e_lcIf, es_nil, es_cons, i_val, i_rng1, i_rng2, i_zip, getP_some, getP_map, getP_bind, getP_ite, asI_int, asF_fn, asT_tup, wpE_ok, step_name, step_many, c_eq, c_ne, c_lt, c_le, c_gt, c_ge, c_is, c_isNot, eq_int, eq_bl, eq_str, is_bl, is_nn, is_in, is_bn, is_sn, is_tn, is_ln, is_rn, t_non, t_bl, t_int, t_tup, t_rol, b_add, b_sub, b_mul, b_mod, b_fdiv, b_pow, b_addT, b_addS, b_mulT, b_mulSame, f_lenT, f_lenL, f_abs, f_max, f_min, f_int, f_intB, f_tupT, f_lstT, f_lstR, f_lenR, f_tupR, f_sum, f_all, f_any, f_anyT, f_allT, f_repr, x_tup, x_rol, x_ref, l_tup, l_ref, r_tup, m_app, m_ext, m_pop, m_cnt, p_app, p_ext, p_pop, p_cnt, s_tup, s_rol, s_ref, y_ii, y_ib, y_it, y_il, y_bi, y_bb, y_bt, y_tt, y_ti, y_tb, y_tl, y_ni, y_nt, x_set, a_add, a_sub, g_name, g_many, g_nil, g_cons, startP, wipeP, Tg.slots, List.map_cons, List.map_nil, List.length_cons, List.length_nil, List.replicate_succ, List.replicate_zero, List.cons_append, List.nil_append, List.getElem?_cons_zero, List.getElem?_cons_succ, Option.join_some, List.set_cons_zero, List.set_cons_succ, Bool.true_eq_false, reduceCtorEq, Option.map_some, Option.bind_some, Nat.reduceAdd, Nat.reduceSub, Nat.zero_add, Bool.not_true, Bool.not_false, Bool.false_eq_true, true_implies, false_implies, implies_true, and_true, true_and, not_true_eq_false, not_false_eq_true, decide_eq_true_eq, Bool.not_eq_true', Bool.not_eq_false', decide_eq_false_iff_not, iL_empty, eq_iT, gc_11, gc_0, gc_1, gc_12, getP_none]
  refine ⟨Nat.zero_le _, ?_⟩
  refine for_fix (fun i ρ h' => ∃ o, ρ = [some (wT ws), some (iT (sh (ws.take i).flatten)), o] ∧ Gr [] h h') ⟨none, rfl, .refl⟩ (fun i x ρ h' hx hI => ?_) (fun ρ h' hI => ?_) (gf (by rw [wL_len]; omega))
  · obtain ⟨o, rfl, hg⟩ := hI
    obtain ⟨w, hw, rfl⟩ := wL_get hx
    have lt : i < ws.length := (List.getElem?_eq_some_iff.mp hw).1
    have e2 : (ws.take (i + 1)).flatten = (ws.take i).flatten ++ w := by rw [List.take_add_one, hw]; simp
    have el : (ws.take i).flatten.length + w.length ≤ ws.flatten.length := by
      have e1 : ws.flatten = (ws.take (i + 1)).flatten ++ (ws.drop (i + 1)).flatten := by rw [← List.flatten_append, List.take_append_drop]
      have := congrArg List.length e1
      rw [e2, List.length_append, List.length_append] at this
      omega
    have sl := sh_len (ws.take i).flatten
    simp -implicitDefEqProofs only [w_cons, w_nil, w_set, w_asg, w_par2, w_par3, w_setix, w_aug, w_expr, w_ret, w_retN, w_ifs, w_brk, w_cnt, w_pass, w_raise, w_for, w_whl, e_v, e_gc, e_int, e_str, e_bl, e_non, e_neg, e_not, e_bin, e_cmp, e_chain, e_and1, e_and2, e_or1, e_or2, e_and, e_or, e_ite, e_T, e_call, e_callv, e_bi, e_isi, e_meth, e_ix, e_slF, e_slT, e_slB, e_slN, e_rev, e_tup, e_lst, e_lc, e_lcIf, es_nil, es_cons, i_val, i_rng1, i_rng2, i_zip, getP_some, getP_map, getP_bind, getP_ite, asI_int, asF_fn, asT_tup, wpE_ok, step_name, step_many, c_eq, c_ne, c_lt, c_le, c_gt, c_ge, c_is, c_isNot, eq_int, eq_bl, eq_str, is_bl, is_nn, is_in, is_bn, is_sn, is_tn, is_ln, is_rn, t_non, t_bl, t_int, t_tup, t_rol, b_add, b_sub, b_mul, b_mod, b_fdiv, b_pow, b_addT, b_addS, b_mulT, b_mulSame, f_lenT, f_lenL, f_abs, f_max, f_min, f_int, f_intB, f_tupT, f_lstT, f_lstR, f_lenR, f_tupR, f_sum, f_all, f_any, f_anyT, f_allT, f_repr, x_tup, x_rol, x_ref, l_tup, l_ref, r_tup, m_app, m_ext, m_pop, m_cnt, p_app, p_ext, p_pop, p_cnt, s_tup, s_rol, s_ref, y_ii, y_ib, y_it, y_il, y_bi, y_bb, y_bt, y_tt, y_ti, y_tb, y_tl, y_ni, y_nt, x_set, a_add, a_sub, g_name, g_many, g_nil, g_cons, startP, wipeP, Tg.slots, List.map_cons, List.map_nil, List.length_cons, List.length_nil, List.replicate_succ, List.replicate_zero, List.cons_append, List.nil_append, List.getElem?_cons_zero, List.getElem?_cons_succ, Option.join_some, List.set_cons_zero, List.set_cons_succ, Bool.true_eq_false, reduceCtorEq, Option.map_some, Option.bind_some, Nat.reduceAdd, Nat.reduceSub, Nat.zero_add, Bool.not_true, Bool.not_false, Bool.false_eq_true, true_implies, false_implies, implies_true, and_true, true_and, not_true_eq_false, not_false_eq_true, decide_eq_true_eq, Bool.not_eq_true', Bool.not_eq_false', decide_eq_false_iff_not, iL_empty, eq_iT, gc_11, gc_0, gc_1, gc_12, getP_none, l42_0_0, ← iL_app]
    refine ⟨sz (by rw [iL_len, iL_len]; omega), sp_law_short _ (by rw [List.length_append]; omega) fun h'' hg' => ?_⟩
    rw [sh_app_l, ← e2]
    exact ⟨_, rfl, hg.trans hg'⟩
  · obtain ⟨o, rfl, hg⟩ := hI
    rw [wL_len, List.take_length]
    simp -implicitDefEqProofs only [b42_2, w_cons, w_nil, w_set, w_asg, w_par2, w_par3, w_setix, w_aug, w_expr, w_ret, w_retN, w_ifs, w_brk, w_cnt, w_pass, w_raise, w_for, w_whl, e_v, e_gc, e_int, e_str, e_bl, e_non, e_neg, e_not, e_bin, e_cmp, e_chain, e_and1, e_and2, e_or1, e_or2, e_and, e_or, e_ite, e_T, e_call, e_callv, e_bi, e_isi, e_meth, e_ix, e_slF, e_slT, e_slB, e_slN, e_rev, e_tup, e_lst, e_lc, e_lcIf, es_nil, es_cons, i_val, i_rng1, i_rng2, i_zip, getP_some, getP_map, getP_bind, getP_ite, asI_int, asF_fn, asT_tup, wpE_ok, step_name, step_many, c_eq, c_ne, c_lt, c_le, c_gt, c_ge, c_is, c_isNot, eq_int, eq_bl, eq_str, is_bl, is_nn, is_in, is_bn, is_sn, is_tn, is_ln, is_rn, t_non, t_bl, t_int, t_tup, t_rol, b_add, b_sub, b_mul, b_mod, b_fdiv, b_pow, b_addT, b_addS, b_mulT, b_mulSame, f_lenT, f_lenL, f_abs, f_max, f_min, f_int, f_intB, f_tupT, f_lstT, f_lstR, f_lenR, f_tupR, f_sum, f_all, f_any, f_anyT, f_allT, f_repr, x_tup, x_rol, x_ref, l_tup, l_ref, r_tup, m_app, m_ext, m_pop, m_cnt, p_app, p_ext, p_pop, p_cnt, s_tup, s_rol, s_ref, y_ii, y_ib, y_it, y_il, y_bi, y_bb, y_bt, y_tt, y_ti, y_tb, y_tl, y_ni, y_nt, x_set, a_add, a_sub, g_name, g_many, g_nil, g_cons, startP, wipeP, Tg.slots, List.map_cons, List.map_nil, List.length_cons, List.length_nil, List.replicate_succ, List.replicate_zero, List.cons_append, List.nil_append, List.getElem?_cons_zero, List.getElem?_cons_succ, Option.join_some, List.set_cons_zero, List.set_cons_succ, Bool.true_eq_false, reduceCtorEq, Option.map_some, Option.bind_some, Nat.reduceAdd, Nat.reduceSub, Nat.zero_add, Bool.not_true, Bool.not_false, Bool.false_eq_true, true_implies, false_implies, implies_true, and_true, true_and, not_true_eq_false, not_false_eq_true, decide_eq_true_eq, Bool.not_eq_true', Bool.not_eq_false', decide_eq_false_iff_not, iL_empty, eq_iT, gc_11, gc_0, gc_1, gc_12, getP_none]
    exact hP _ hg
/-- a drawn word -/
theorem sp_law_word (n k r m : Nat) (hd : Dice h n (k + m + 1)) (h1 : 1 ≤ r) (h2 : r < 1000) (hm : m < 1000) (hP : ∀ w h', Wd r w → w.length ≤ m → Gr [n] h h' → Dice h' n k → P (iT w) h') : wpE (run GT GC GF (d + 3) 43 [.ref n, .int r, .int m] h) P := by
  rw [run_in (F := F43) rfl rfl]
  simp -implicitDefEqProofs only [F43, b43_0, w_cons, w_nil, w_set, w_asg, w_par2, w_par3, w_setix, w_aug, w_expr, w_ret, w_retN, w_ifs, w_brk, w_cnt, w_pass, w_raise, w_for, w_whl, e_v, e_gc, e_int, e_str, e_bl, e_non, e_neg, e_not, e_bin, e_cmp, e_chain, e_and1, e_and2, e_or1, e_or2, e_and, e_or, e_ite, e_T, e_call, e_callv, e_bi, e_isi, e_meth, e_ix, e_slF, e_slT, e_slB, e_slN, e_rev, e_tup, e_lst, e_lc, e_lcIf, es_nil, es_cons, i_val, i_rng1, i_rng2, i_zip, getP_some, getP_map, getP_bind, getP_ite, asI_int, asF_fn, asT_tup, wpE_ok, step_name, step_many, c_eq, c_ne, c_lt, c_le, c_gt, c_ge, c_is, c_isNot, eq_int, eq_bl, eq_str, is_bl, is_nn, is_in, is_bn, is_sn, is_tn, is_ln, is_rn, t_non, t_bl, t_int, t_tup, t_rol, b_add, b_sub, b_mul, b_mod, b_fdiv, b_pow, b_addT, b_addS, b_mulT, b_mulSame, f_lenT, f_lenL, f_abs, f_max, f_min, f_int, f_intB, f_tupT, f_lstT, f_lstR, f_lenR, f_tupR, f_sum, f_all, f_any, f_anyT, f_allT, f_repr, x_tup, x_rol, x_ref, l_tup, l_ref, r_tup, m_app, m_ext, m_pop, m_cnt, p_app, p_ext, p_pop, p_cnt, s_tup, s_rol, s_ref, y_ii, y_ib, y_it, y_il, y_bi, y_bb, y_bt, y_tt, y_ti, y_tb, y_tl, y_ni, y_nt, x_set, a_add, a_sub, g_name, g_many, g_nil, g_cons, startP, wipeP, Tg.slots, List.map_cons, List.map_nil, List.length_cons, List.length_nil, List.replicate_succ, List.replicate_zero, List.cons_append, List.nil_append, List.getElem?_cons_zero, List.getElem?_cons_succ, Option.join_some, List.set_cons_zero, List.set_cons_succ, Bool.true_eq_false, reduceCtorEq, Option.map_some, Option.bind_some, Nat.reduceAdd, Nat.reduceSub, Nat.zero_add, Bool.not_true, Bool.not_false, Bool.false_eq_true, true_implies, false_implies, implies_true, and_true, true_and, not_true_eq_false, not_false_eq_true, decide_eq_true_eq, Bool.not_eq_true', Bool.not_eq_false', decide_eq_false_iff_not, iL_empty, eq_iT, gc_11, gc_0, gc_1, gc_12, getP_none]
  refine sp_roll n (k + m) _ hd (by omega) (by omega) fun v h' a b hg hd' => ?_
  obtain ⟨t, rfl⟩ := Int.eq_ofNat_of_zero_le a
  have ht : t ≤ m := by omega
  (try simp -implicitDefEqProofs only [w_cons, w_nil, w_set, w_asg, w_par2, w_par3, w_setix, w_aug, w_expr, w_ret, w_retN, w_ifs, w_brk, w_cnt, w_pass, w_raise, w_for, w_whl, e_v, e_gc, e_int, e_str, e_bl, e_non, e_neg, e_not, e_bin, e_cmp, e_chain, e_and1, e_and2, e_or1, e_or2, e_and, e_or, e_ite, e_T, e_call, e_callv, e_bi, e_isi, e_meth, e_ix, e_slF, e_slT, e_slB, e_slN, e_rev, e_tup, e_lst, e_lc, e_lcIf, es_nil, es_cons, i_val, i_rng1, i_rng2, i_zip, getP_some, getP_map, getP_bind, getP_ite, asI_int, asF_fn, asT_tup, wpE_ok, step_name, step_many, c_eq, c_ne, c_lt, c_le, c_gt, c_ge, c_is, c_isNot, eq_int, eq_bl, eq_str, is_bl, is_nn, is_in, is_bn, is_sn, is_tn, is_ln, is_rn, t_non, t_bl, t_int, t_tup, t_rol, b_add, b_sub, b_mul, b_mod, b_fdiv, b_pow, b_addT, b_addS, b_mulT, b_mulSame, f_lenT, f_lenL, f_abs, f_max, f_min, f_int, f_intB, f_tupT, f_lstT, f_lstR, f_lenR, f_tupR, f_sum, f_all, f_any, f_anyT, f_allT, f_repr, x_tup, x_rol, x_ref, l_tup, l_ref, r_tup, m_app, m_ext, m_pop, m_cnt, p_app, p_ext, p_pop, p_cnt, s_tup, s_rol, s_ref, y_ii, y_ib, y_it, y_il, y_bi, y_bb, y_bt, y_tt, y_ti, y_tb, y_tl, y_ni, y_nt, x_set, a_add, a_sub, g_name, g_many, g_nil, g_cons, startP, wipeP, Tg.slots, List.map_cons, List.map_nil, List.length_cons, List.length_nil, List.replicate_succ, List.replicate_zero, List.cons_append, List.nil_append, List.getElem?_cons_zero, List.getElem?_cons_succ, Option.join_some, List.set_cons_zero, List.set_cons_succ, Bool.true_eq_false, reduceCtorEq, Option.map_some, Option.bind_some, Nat.reduceAdd, Nat.reduceSub, Nat.zero_add, Bool.not_true, Bool.not_false, Bool.false_eq_true, true_implies, false_implies, implies_true, and_true, true_and, not_true_eq_false, not_false_eq_true, decide_eq_true_eq, Bool.not_eq_true', Bool.not_eq_false', decide_eq_false_iff_not, iL_empty, eq_iT, gc_11, gc_0, gc_1, gc_12, getP_none])
  refine ⟨inr_small (by omega) (by omega), ?_⟩
  rw [Int.toNat_natCast]
  refine lc_src (xs := rngL 0 t) (fun i acc h'' => ∃ w, acc = iL w ∧ Wd r w ∧ w.length = i ∧ Gr [n] h h'' ∧ Dice h'' n (k + (m - i))) ⟨[], rfl, by simp [Wd], rfl, hg, hd'⟩ (fun _ _ _ _ _ => rfl) (fun i x acc h'' hx _ hI => ?_) (fun acc h'' hI => ?_) (by rw [rngL_len]; exact sz (by omega)) (gf (by rw [rngL_len]; omega))
  · obtain ⟨w, rfl, hw, hl, hg2, hd2⟩ := hI
    obtain ⟨lt, rfl⟩ := rngL_get hx
    (try simp -implicitDefEqProofs only [w_cons, w_nil, w_set, w_asg, w_par2, w_par3, w_setix, w_aug, w_expr, w_ret, w_retN, w_ifs, w_brk, w_cnt, w_pass, w_raise, w_for, w_whl, e_v, e_gc, e_int, e_str, e_bl, e_non, e_neg, e_not, e_bin, e_cmp, e_chain, e_and1, e_and2, e_or1, e_or2, e_and, e_or, e_ite, e_T, e_call, e_callv, e_bi, e_isi, e_meth, e_ix, e_slF, e_slT, e_slB, e_slN, e_rev, e_tup, e_lst, e_lc, e_lcIf, es_nil, es_cons, i_val, i_rng1, i_rng2, i_zip, getP_some, getP_map, getP_bind, getP_ite, asI_int, asF_fn, asT_tup, wpE_ok, step_name, step_many, c_eq, c_ne, c_lt, c_le, c_gt, c_ge, c_is, c_isNot, eq_int, eq_bl, eq_str, is_bl, is_nn, is_in, is_bn, is_sn, is_tn, is_ln, is_rn, t_non, t_bl, t_int, t_tup, t_rol, b_add, b_sub, b_mul, b_mod, b_fdiv, b_pow, b_addT, b_addS, b_mulT, b_mulSame, f_lenT, f_lenL, f_abs, f_max, f_min, f_int, f_intB, f_tupT, f_lstT, f_lstR, f_lenR, f_tupR, f_sum, f_all, f_any, f_anyT, f_allT, f_repr, x_tup, x_rol, x_ref, l_tup, l_ref, r_tup, m_app, m_ext, m_pop, m_cnt, p_app, p_ext, p_pop, p_cnt, s_tup, s_rol, s_ref, y_ii, y_ib, y_it, y_il, y_bi, y_bb, y_bt, y_tt, y_ti, y_tb, y_tl, y_ni, y_nt, x_set, a_add, a_sub, g_name, g_many, g_nil, g_cons, startP, wipeP, Tg.slots, List.map_cons, List.map_nil, List.length_cons, List.length_nil, List.replicate_succ, List.replicate_zero, List.cons_append, List.nil_append, List.getElem?_cons_zero, List.getElem?_cons_succ, Option.join_some, List.set_cons_zero, List.set_cons_succ, Bool.true_eq_false, reduceCtorEq, Option.map_some, Option.bind_some, Nat.reduceAdd, Nat.reduceSub, Nat.zero_add, Bool.not_true, Bool.not_false, Bool.false_eq_true, true_implies, false_implies, implies_true, and_true, true_and, not_true_eq_false, not_false_eq_true, decide_eq_true_eq, Bool.not_eq_true', Bool.not_eq_false', decide_eq_false_iff_not, iL_empty, eq_iT, gc_11, gc_0, gc_1, gc_12, getP_none])
    refine sp_law_letters r h2 fun q h3 hq hq2 hg3 => ?_
    have d3 := hd2.keep hg3 (by simp)
    refine sp_pick n (k + (m - (i + 1))) q _ (d3.less (by omega)) hq (by have := hd2.lt; omega) (by rw [iL_len, lets_len]; omega) (by rw [iL_len, lets_len]; omega) fun v y h4 hy hg4 hd4 => ?_
    obtain ⟨z, hz, rfl⟩ := iL_get hy
    refine ⟨w ++ [z], by rw [iL_app]; rfl, fun x hx => ?_, by simp [hl], (hg2.trans hg3.any).trans hg4, hd4⟩
    rcases List.mem_append.mp hx with hx | hx
    · exact hw x hx
    · rw [List.mem_singleton.mp hx]; exact lets_mem (List.mem_of_getElem? hz)
  · obtain ⟨w, rfl, hw, hl, hg2, hd2⟩ := hI
    rw [rngL_len] at hl
    simp -implicitDefEqProofs only [w_cons, w_nil, w_set, w_asg, w_par2, w_par3, w_setix, w_aug, w_expr, w_ret, w_retN, w_ifs, w_brk, w_cnt, w_pass, w_raise, w_for, w_whl, e_v, e_gc, e_int, e_str, e_bl, e_non, e_neg, e_not, e_bin, e_cmp, e_chain, e_and1, e_and2, e_or1, e_or2, e_and, e_or, e_ite, e_T, e_call, e_callv, e_bi, e_isi, e_meth, e_ix, e_slF, e_slT, e_slB, e_slN, e_rev, e_tup, e_lst, e_lc, e_lcIf, es_nil, es_cons, i_val, i_rng1, i_rng2, i_zip, getP_some, getP_map, getP_bind, getP_ite, asI_int, asF_fn, asT_tup, wpE_ok, step_name, step_many, c_eq, c_ne, c_lt, c_le, c_gt, c_ge, c_is, c_isNot, eq_int, eq_bl, eq_str, is_bl, is_nn, is_in, is_bn, is_sn, is_tn, is_ln, is_rn, t_non, t_bl, t_int, t_tup, t_rol, b_add, b_sub, b_mul, b_mod, b_fdiv, b_pow, b_addT, b_addS, b_mulT, b_mulSame, f_lenT, f_lenL, f_abs, f_max, f_min, f_int, f_intB, f_tupT, f_lstT, f_lstR, f_lenR, f_tupR, f_sum, f_all, f_any, f_anyT, f_allT, f_repr, x_tup, x_rol, x_ref, l_tup, l_ref, r_tup, m_app, m_ext, m_pop, m_cnt, p_app, p_ext, p_pop, p_cnt, s_tup, s_rol, s_ref, y_ii, y_ib, y_it, y_il, y_bi, y_bb, y_bt, y_tt, y_ti, y_tb, y_tl, y_ni, y_nt, x_set, a_add, a_sub, g_name, g_many, g_nil, g_cons, startP, wipeP, Tg.slots, List.map_cons, List.map_nil, List.length_cons, List.length_nil, List.replicate_succ, List.replicate_zero, List.cons_append, List.nil_append, List.getElem?_cons_zero, List.getElem?_cons_succ, Option.join_some, List.set_cons_zero, List.set_cons_succ, Bool.true_eq_false, reduceCtorEq, Option.map_some, Option.bind_some, Nat.reduceAdd, Nat.reduceSub, Nat.zero_add, Bool.not_true, Bool.not_false, Bool.false_eq_true, true_implies, false_implies, implies_true, and_true, true_and, not_true_eq_false, not_false_eq_true, decide_eq_true_eq, Bool.not_eq_true', Bool.not_eq_false', decide_eq_false_iff_not, iL_empty, eq_iT, gc_11, gc_0, gc_1, gc_12, getP_none, lst_new]
    have g3 : Gr [] h'' (h'' ++ [.lst (iL w)]) := Gr.new .refl
    exact hP w _ hw (by omega) hg2.new ((hd2.keep g3 (by simp)).less (by omega))
end
end Pi

-- w_cons, w_nil, w_set, w_asg, w_par2, w_par3, w_setix, w_aug, w_expr, w_ret, w_retN, w_ifs, w_brk, w_cnt, w_pass, w_raise, w_for, w_whl, e_v, e_gc, e_int, e_str, e_bl, e_non, e_neg, e_not, e_bin, e_cmp, e_chain, e_and1, e_and2, e_or1, e_or2, e_and, e_or, e_ite, e_T, e_call, e_callv, e_bi, e_isi, e_meth, e_ix, e_slF, e_slT, e_slB, e_slN, e_rev, e_tup, e_lst, e_lc, e_lcIf, es_nil, es_cons, i_val, i_rng1, i_rng2, i_zip, getP_some, getP_map, getP_bind, getP_ite, asI_int, asF_fn, asT_tup, wpE_ok, step_name, step_many, c_eq, c_ne, c_lt, c_le, c_gt, c_ge, c_is, c_isNot, eq_int, eq_bl, eq_str, is_bl, is_nn, is_in, is_bn, is_sn, is_tn, is_ln, is_rn, t_non, t_bl, t_int, t_tup, t_rol, b_add, b_sub, b_mul, b_mod, b_fdiv, b_pow, b_addT, b_addS, b_mulT, b_mulSame, f_lenT, f_lenL, f_abs, f_max, f_min, f_int, f_intB, f_tupT, f_lstT, f_lstR, f_lenR, f_tupR, f_sum, f_all, f_any, f_anyT, f_allT, f_repr, x_tup, x_rol, x_ref, l_tup, l_ref, r_tup, m_app, m_ext, m_pop, m_cnt, p_app, p_ext, p_pop, p_cnt, s_tup, s_rol, s_ref, y_ii, y_ib, y_it, y_il, y_bi, y_bb, y_bt, y_tt, y_ti, y_tb, y_tl, y_ni, y_nt, x_set, a_add, a_sub, g_name, g_many, g_nil, g_cons, startP, wipeP, Tg.slots, List.map_cons, List.map_nil, List.length_cons, List.length_nil, List.replicate_succ, List.replicate_zero, List.cons_append, List.nil_append, List.getElem?_cons_zero, List.getElem?_cons_succ, Option.join_some, List.set_cons_zero, List.set_cons_succ, Bool.true_eq_false, reduceCtorEq, Option.map_some, Option.bind_some, Nat.reduceAdd, Nat.reduceSub, Nat.zero_add, Bool.not_true, Bool.not_false, Bool.false_eq_true, true_implies, false_implies, implies_true, and_true, true_and, not_true_eq_false, not_false_eq_true, decide_eq_true_eq, Bool.not_eq_true', Bool.not_eq_false', decide_eq_false_iff_not, iL_empty, eq_iT, gc_11, gc_0, gc_1, gc_12, getP_none+: gc_11 gc_0 gc_1 gc_12
set_option Elab.async false
set_option linter.all false
set_option maxRecDepth 100000
set_option maxHeartbeats 8000000
/-! runs: the law's words, loose and struck. -/
namespace Pi
open PySem Wm
section
variable {d : Nat} {h : IH} {P : PV → IH → Prop}
theorem cut_to {w : List Int} {a : Nat} (ha : a ≤ w.length) : cutP (iL w) none (some (a : Int)) = iL (w.take a) := by
  unfold cutP
  rw [iL_len, show HT.sIx w.length w.length (some (a : Int)) = min a w.length from HT.sIx_nat w.length w.length a, HT.sIx_none, Nat.min_eq_left ha]
  simp [iL_take]
theorem cut_from {w : List Int} {a : Nat} : cutP (iL w) (some (a : Int)) none = iL (w.drop a) := by
  unfold cutP
  rw [iL_len, show HT.sIx w.length 0 (some (a : Int)) = min a w.length from HT.sIx_nat w.length 0 a, HT.sIx_none, iL_drop, iL_take]
  by_cases ha : a ≤ w.length
  · rw [Nat.min_eq_left ha, List.take_of_length_le (by simp)]
  · rw [Nat.min_eq_right (by omega), List.drop_of_length_le (Nat.le_refl _), List.drop_of_length_le (by omega)]
    simp
theorem sp_law_words (n k r m q : Nat) (hd : Dice h n (k + q * (m + 1) + 1)) (h1 : 1 ≤ r) (h2 : r < 1000) (hm : m < 1000) (hq : q < 1000) (hP : ∀ ws h', (∀ w ∈ ws, Wd r w ∧ w.length ≤ m) → ws.length ≤ q → Gr [n] h h' → Dice h' n k → P (wT ws) h') : wpE (run GT GC GF (d + 4) 45 [.ref n, .int r, .int q, .int m] h) P := by
  rw [run_in (F := F45) rfl rfl]
  simp -implicitDefEqProofs only [F45, b45_0, w_cons, w_nil, w_set, w_asg, w_par2, w_par3, w_setix, w_aug, w_expr, w_ret, w_retN, w_ifs, w_brk, w_cnt, w_pass, w_raise, w_for, w_whl, e_v, e_gc, e_int, e_str, e_bl, e_non, e_neg, e_not, e_bin, e_cmp, e_chain, e_and1, e_and2, e_or1, e_or2, e_and, e_or, e_ite, e_T, e_call, e_callv, e_bi, e_isi, e_meth, e_ix, e_slF, e_slT, e_slB, e_slN, e_rev, e_tup, e_lst, e_lc, e_lcIf, es_nil, es_cons, i_val, i_rng1, i_rng2, i_zip, getP_some, getP_map, getP_bind, getP_ite, asI_int, asF_fn, asT_tup, wpE_ok, step_name, step_many, c_eq, c_ne, c_lt, c_le, c_gt, c_ge, c_is, c_isNot, eq_int, eq_bl, eq_str, is_bl, is_nn, is_in, is_bn, is_sn, is_tn, is_ln, is_rn, t_non, t_bl, t_int, t_tup, t_rol, b_add, b_sub, b_mul, b_mod, b_fdiv, b_pow, b_addT, b_addS, b_mulT, b_mulSame, f_lenT, f_lenL, f_abs, f_max, f_min, f_int, f_intB, f_tupT, f_lstT, f_lstR, f_lenR, f_tupR, f_sum, f_all, f_any, f_anyT, f_allT, f_repr, x_tup, x_rol, x_ref, l_tup, l_ref, r_tup, m_app, m_ext, m_pop, m_cnt, p_app, p_ext, p_pop, p_cnt, s_tup, s_rol, s_ref, y_ii, y_ib, y_it, y_il, y_bi, y_bb, y_bt, y_tt, y_ti, y_tb, y_tl, y_ni, y_nt, x_set, a_add, a_sub, g_name, g_many, g_nil, g_cons, startP, wipeP, Tg.slots, List.map_cons, List.map_nil, List.length_cons, List.length_nil, List.replicate_succ, List.replicate_zero, List.cons_append, List.nil_append, List.getElem?_cons_zero, List.getElem?_cons_succ, Option.join_some, List.set_cons_zero, List.set_cons_succ, Bool.true_eq_false, reduceCtorEq, Option.map_some, Option.bind_some, Nat.reduceAdd, Nat.reduceSub, Nat.zero_add, Bool.not_true, Bool.not_false, Bool.false_eq_true, true_implies, false_implies, implies_true, and_true, true_and, not_true_eq_false, not_false_eq_true, decide_eq_true_eq, Bool.not_eq_true', Bool.not_eq_false', decide_eq_false_iff_not, iL_empty, eq_iT, gc_11, gc_0, gc_1, gc_12, getP_none]
  refine sp_roll n (k + q * (m + 1)) _ hd (by omega) (by omega) fun v h' a b hg hd' => ?_
  obtain ⟨t, rfl⟩ := Int.eq_ofNat_of_zero_le a
  have ht : t ≤ q := by omega
  (try simp -implicitDefEqProofs only [w_cons, w_nil, w_set, w_asg, w_par2, w_par3, w_setix, w_aug, w_expr, w_ret, w_retN, w_ifs, w_brk, w_cnt, w_pass, w_raise, w_for, w_whl, e_v, e_gc, e_int, e_str, e_bl, e_non, e_neg, e_not, e_bin, e_cmp, e_chain, e_and1, e_and2, e_or1, e_or2, e_and, e_or, e_ite, e_T, e_call, e_callv, e_bi, e_isi, e_meth, e_ix, e_slF, e_slT, e_slB, e_slN, e_rev, e_tup, e_lst, e_lc, e_lcIf, es_nil, es_cons, i_val, i_rng1, i_rng2, i_zip, getP_some, getP_map, getP_bind, getP_ite, asI_int, asF_fn, asT_tup, wpE_ok, step_name, step_many, c_eq, c_ne, c_lt, c_le, c_gt, c_ge, c_is, c_isNot, eq_int, eq_bl, eq_str, is_bl, is_nn, is_in, is_bn, is_sn, is_tn, is_ln, is_rn, t_non, t_bl, t_int, t_tup, t_rol, b_add, b_sub, b_mul, b_mod, b_fdiv, b_pow, b_addT, b_addS, b_mulT, b_mulSame, f_lenT, f_lenL, f_abs, f_max, f_min, f_int, f_intB, f_tupT, f_lstT, f_lstR, f_lenR, f_tupR, f_sum, f_all, f_any, f_anyT, f_allT, f_repr, x_tup, x_rol, x_ref, l_tup, l_ref, r_tup, m_app, m_ext, m_pop, m_cnt, p_app, p_ext, p_pop, p_cnt, s_tup, s_rol, s_ref, y_ii, y_ib, y_it, y_il, y_bi, y_bb, y_bt, y_tt, y_ti, y_tb, y_tl, y_ni, y_nt, x_set, a_add, a_sub, g_name, g_many, g_nil, g_cons, startP, wipeP, Tg.slots, List.map_cons, List.map_nil, List.length_cons, List.length_nil, List.replicate_succ, List.replicate_zero, List.cons_append, List.nil_append, List.getElem?_cons_zero, List.getElem?_cons_succ, Option.join_some, List.set_cons_zero, List.set_cons_succ, Bool.true_eq_false, reduceCtorEq, Option.map_some, Option.bind_some, Nat.reduceAdd, Nat.reduceSub, Nat.zero_add, Bool.not_true, Bool.not_false, Bool.false_eq_true, true_implies, false_implies, implies_true, and_true, true_and, not_true_eq_false, not_false_eq_true, decide_eq_true_eq, Bool.not_eq_true', Bool.not_eq_false', decide_eq_false_iff_not, iL_empty, eq_iT, gc_11, gc_0, gc_1, gc_12, getP_none])
  refine ⟨inr_small (by omega) (by omega), ?_⟩
  rw [Int.toNat_natCast]
  refine lc_src (xs := rngL 0 t) (fun i acc h'' => ∃ ws, acc = wL ws ∧ (∀ w ∈ ws, Wd r w ∧ w.length ≤ m) ∧ ws.length = i ∧ Gr [n] h h'' ∧ Dice h'' n (k + (q - i) * (m + 1))) ⟨[], rfl, by simp, rfl, hg, by simpa using hd'⟩ (fun _ _ _ _ _ => rfl) (fun i x acc h'' hx _ hI => ?_) (fun acc h'' hI => ?_) (by rw [rngL_len]; exact sz (by omega)) (gf (by rw [rngL_len]; omega))
  · obtain ⟨ws, rfl, hw, hl, hg2, hd2⟩ := hI
    obtain ⟨lt, rfl⟩ := rngL_get hx
    (try simp -implicitDefEqProofs only [w_cons, w_nil, w_set, w_asg, w_par2, w_par3, w_setix, w_aug, w_expr, w_ret, w_retN, w_ifs, w_brk, w_cnt, w_pass, w_raise, w_for, w_whl, e_v, e_gc, e_int, e_str, e_bl, e_non, e_neg, e_not, e_bin, e_cmp, e_chain, e_and1, e_and2, e_or1, e_or2, e_and, e_or, e_ite, e_T, e_call, e_callv, e_bi, e_isi, e_meth, e_ix, e_slF, e_slT, e_slB, e_slN, e_rev, e_tup, e_lst, e_lc, e_lcIf, es_nil, es_cons, i_val, i_rng1, i_rng2, i_zip, getP_some, getP_map, getP_bind, getP_ite, asI_int, asF_fn, asT_tup, wpE_ok, step_name, step_many, c_eq, c_ne, c_lt, c_le, c_gt, c_ge, c_is, c_isNot, eq_int, eq_bl, eq_str, is_bl, is_nn, is_in, is_bn, is_sn, is_tn, is_ln, is_rn, t_non, t_bl, t_int, t_tup, t_rol, b_add, b_sub, b_mul, b_mod, b_fdiv, b_pow, b_addT, b_addS, b_mulT, b_mulSame, f_lenT, f_lenL, f_abs, f_max, f_min, f_int, f_intB, f_tupT, f_lstT, f_lstR, f_lenR, f_tupR, f_sum, f_all, f_any, f_anyT, f_allT, f_repr, x_tup, x_rol, x_ref, l_tup, l_ref, r_tup, m_app, m_ext, m_pop, m_cnt, p_app, p_ext, p_pop, p_cnt, s_tup, s_rol, s_ref, y_ii, y_ib, y_it, y_il, y_bi, y_bb, y_bt, y_tt, y_ti, y_tb, y_tl, y_ni, y_nt, x_set, a_add, a_sub, g_name, g_many, g_nil, g_cons, startP, wipeP, Tg.slots, List.map_cons, List.map_nil, List.length_cons, List.length_nil, List.replicate_succ, List.replicate_zero, List.cons_append, List.nil_append, List.getElem?_cons_zero, List.getElem?_cons_succ, Option.join_some, List.set_cons_zero, List.set_cons_succ, Bool.true_eq_false, reduceCtorEq, Option.map_some, Option.bind_some, Nat.reduceAdd, Nat.reduceSub, Nat.zero_add, Bool.not_true, Bool.not_false, Bool.false_eq_true, true_implies, false_implies, implies_true, and_true, true_and, not_true_eq_false, not_false_eq_true, decide_eq_true_eq, Bool.not_eq_true', Bool.not_eq_false', decide_eq_false_iff_not, iL_empty, eq_iT, gc_11, gc_0, gc_1, gc_12, getP_none])
    have e : (q - i) * (m + 1) = (q - (i + 1)) * (m + 1) + (m + 1) := by
      rw [show q - i = (q - (i + 1)) + 1 by omega, Nat.add_mul, Nat.one_mul]
    refine sp_law_word n (k + (q - (i + 1)) * (m + 1)) r m (hd2.less (by omega)) h1 h2 hm fun w h3 hw3 hl3 hg3 hd3 => ?_
    refine ⟨ws ++ [w], by simp [wL], fun x hx => ?_, by simp [hl], hg2.trans hg3, hd3⟩
    rcases List.mem_append.mp hx with hx | hx
    · exact hw x hx
    · rw [List.mem_singleton.mp hx]; exact ⟨hw3, hl3⟩
  · obtain ⟨ws, rfl, hw, hl, hg2, hd2⟩ := hI
    rw [rngL_len] at hl
    simp -implicitDefEqProofs only [w_cons, w_nil, w_set, w_asg, w_par2, w_par3, w_setix, w_aug, w_expr, w_ret, w_retN, w_ifs, w_brk, w_cnt, w_pass, w_raise, w_for, w_whl, e_v, e_gc, e_int, e_str, e_bl, e_non, e_neg, e_not, e_bin, e_cmp, e_chain, e_and1, e_and2, e_or1, e_or2, e_and, e_or, e_ite, e_T, e_call, e_callv, e_bi, e_isi, e_meth, e_ix, e_slF, e_slT, e_slB, e_slN, e_rev, e_tup, e_lst, e_lc, e_lcIf, es_nil, es_cons, i_val, i_rng1, i_rng2, i_zip, getP_some, getP_map, getP_bind, getP_ite, asI_int, asF_fn, asT_tup, wpE_ok, step_name, step_many, c_eq, c_ne, c_lt, c_le, c_gt, c_ge, c_is, c_isNot, eq_int, eq_bl, eq_str, is_bl, is_nn, is_in, is_bn, is_sn, is_tn, is_ln, is_rn, t_non, t_bl, t_int, t_tup, t_rol, b_add, b_sub, b_mul, b_mod, b_fdiv, b_pow, b_addT, b_addS, b_mulT, b_mulSame, f_lenT, f_lenL, f_abs, f_max, f_min, f_int, f_intB, f_tupT, f_lstT, f_lstR, f_lenR, f_tupR, f_sum, f_all, f_any, f_anyT, f_allT, f_repr, x_tup, x_rol, x_ref, l_tup, l_ref, r_tup, m_app, m_ext, m_pop, m_cnt, p_app, p_ext, p_pop, p_cnt, s_tup, s_rol, s_ref, y_ii, y_ib, y_it, y_il, y_bi, y_bb, y_bt, y_tt, y_ti, y_tb, y_tl, y_ni, y_nt, x_set, a_add, a_sub, g_name, g_many, g_nil, g_cons, startP, wipeP, Tg.slots, List.map_cons, List.map_nil, List.length_cons, List.length_nil, List.replicate_succ, List.replicate_zero, List.cons_append, List.nil_append, List.getElem?_cons_zero, List.getElem?_cons_succ, Option.join_some, List.set_cons_zero, List.set_cons_succ, Bool.true_eq_false, reduceCtorEq, Option.map_some, Option.bind_some, Nat.reduceAdd, Nat.reduceSub, Nat.zero_add, Bool.not_true, Bool.not_false, Bool.false_eq_true, true_implies, false_implies, implies_true, and_true, true_and, not_true_eq_false, not_false_eq_true, decide_eq_true_eq, Bool.not_eq_true', Bool.not_eq_false', decide_eq_false_iff_not, iL_empty, eq_iT, gc_11, gc_0, gc_1, gc_12, getP_none, lst_new]
    have g3 : Gr [] h'' (h'' ++ [.lst (wL ws)]) := Gr.new .refl
    exact hP ws _ hw (by omega) hg2.new ((hd2.keep g3 (by simp)).less (Nat.le_add_right _ _))
/-- pairs put into a word -/
theorem sp_law_loose_word (n k r : Nat) (w : List Int) (hd : Dice h n (k + 8)) (h1 : 1 ≤ r) (h2 : r < 1000) (hw : Wd r w) (hl : w.length < 100000) (hP : ∀ u h', Wd r u → u.length ≤ w.length + 4 → sh u = sh w → Gr [n] h h' → Dice h' n k → P (iT u) h') : wpE (run GT GC GF (d + 3) 44 [.ref n, .int r, iT w] h) P := by
  rw [run_in (F := F44) rfl rfl]
  simp -implicitDefEqProofs only [F44, b44_0, b44_1, w_cons, w_nil, w_set, w_asg, w_par2, w_par3, w_setix, w_aug, w_expr, w_ret, w_retN, w_ifs, w_brk, w_cnt, w_pass, w_raise, w_for, w_whl, e_v, e_gc, e_int, e_str, e_bl, e_non, e_neg, e_not, e_bin, e_cmp, e_chain, e_and1, e_and2, e_or1, e_or2, e_and, e_or, e_ite, e_T, e_call, e_callv, e_bi, e_isi, e_meth, e_ix, e_slF, e_slT, e_slB, e_slN, e_rev, e_tup, e_lst, e_lc, e_lcIf, es_nil, es_cons, i_val, i_rng1, i_rng2, i_zip, getP_some, getP_map, getP_bind, getP_ite, asI_int, asF_fn, asT_tup, wpE_ok, step_name, step_many, c_eq, c_ne, c_lt, c_le, c_gt, c_ge, c_is, c_isNot, eq_int, eq_bl, eq_str, is_bl, is_nn, is_in, is_bn, is_sn, is_tn, is_ln, is_rn, t_non, t_bl, t_int, t_tup, t_rol, b_add, b_sub, b_mul, b_mod, b_fdiv, b_pow, b_addT, b_addS, b_mulT, b_mulSame, f_lenT, f_lenL, f_abs, f_max, f_min, f_int, f_intB, f_tupT, f_lstT, f_lstR, f_lenR, f_tupR, f_sum, f_all, f_any, f_anyT, f_allT, f_repr, x_tup, x_rol, x_ref, l_tup, l_ref, r_tup, m_app, m_ext, m_pop, m_cnt, p_app, p_ext, p_pop, p_cnt, s_tup, s_rol, s_ref, y_ii, y_ib, y_it, y_il, y_bi, y_bb, y_bt, y_tt, y_ti, y_tb, y_tl, y_ni, y_nt, x_set, a_add, a_sub, g_name, g_many, g_nil, g_cons, startP, wipeP, Tg.slots, List.map_cons, List.map_nil, List.length_cons, List.length_nil, List.replicate_succ, List.replicate_zero, List.cons_append, List.nil_append, List.getElem?_cons_zero, List.getElem?_cons_succ, Option.join_some, List.set_cons_zero, List.set_cons_succ, Bool.true_eq_false, reduceCtorEq, Option.map_some, Option.bind_some, Nat.reduceAdd, Nat.reduceSub, Nat.zero_add, Bool.not_true, Bool.not_false, Bool.false_eq_true, true_implies, false_implies, implies_true, and_true, true_and, not_true_eq_false, not_false_eq_true, decide_eq_true_eq, Bool.not_eq_true', Bool.not_eq_false', decide_eq_false_iff_not, iL_empty, eq_iT, gc_11, gc_0, gc_1, gc_12, getP_none]
  have g0 : Gr [] h (h ++ [.lst (iL w)]) := Gr.new .refl
  have d0 := hd.keep g0 (by simp)
  refine sp_roll n (k + 7) _ (d0.less (by omega)) (by omega) (by omega) fun v h' a b hg hd' => ?_
  obtain ⟨t, rfl⟩ := Int.eq_ofNat_of_zero_le a
  have ht : t ≤ 2 := by omega
  (try simp -implicitDefEqProofs only [w_cons, w_nil, w_set, w_asg, w_par2, w_par3, w_setix, w_aug, w_expr, w_ret, w_retN, w_ifs, w_brk, w_cnt, w_pass, w_raise, w_for, w_whl, e_v, e_gc, e_int, e_str, e_bl, e_non, e_neg, e_not, e_bin, e_cmp, e_chain, e_and1, e_and2, e_or1, e_or2, e_and, e_or, e_ite, e_T, e_call, e_callv, e_bi, e_isi, e_meth, e_ix, e_slF, e_slT, e_slB, e_slN, e_rev, e_tup, e_lst, e_lc, e_lcIf, es_nil, es_cons, i_val, i_rng1, i_rng2, i_zip, getP_some, getP_map, getP_bind, getP_ite, asI_int, asF_fn, asT_tup, wpE_ok, step_name, step_many, c_eq, c_ne, c_lt, c_le, c_gt, c_ge, c_is, c_isNot, eq_int, eq_bl, eq_str, is_bl, is_nn, is_in, is_bn, is_sn, is_tn, is_ln, is_rn, t_non, t_bl, t_int, t_tup, t_rol, b_add, b_sub, b_mul, b_mod, b_fdiv, b_pow, b_addT, b_addS, b_mulT, b_mulSame, f_lenT, f_lenL, f_abs, f_max, f_min, f_int, f_intB, f_tupT, f_lstT, f_lstR, f_lenR, f_tupR, f_sum, f_all, f_any, f_anyT, f_allT, f_repr, x_tup, x_rol, x_ref, l_tup, l_ref, r_tup, m_app, m_ext, m_pop, m_cnt, p_app, p_ext, p_pop, p_cnt, s_tup, s_rol, s_ref, y_ii, y_ib, y_it, y_il, y_bi, y_bb, y_bt, y_tt, y_ti, y_tb, y_tl, y_ni, y_nt, x_set, a_add, a_sub, g_name, g_many, g_nil, g_cons, startP, wipeP, Tg.slots, List.map_cons, List.map_nil, List.length_cons, List.length_nil, List.replicate_succ, List.replicate_zero, List.cons_append, List.nil_append, List.getElem?_cons_zero, List.getElem?_cons_succ, Option.join_some, List.set_cons_zero, List.set_cons_succ, Bool.true_eq_false, reduceCtorEq, Option.map_some, Option.bind_some, Nat.reduceAdd, Nat.reduceSub, Nat.zero_add, Bool.not_true, Bool.not_false, Bool.false_eq_true, true_implies, false_implies, implies_true, and_true, true_and, not_true_eq_false, not_false_eq_true, decide_eq_true_eq, Bool.not_eq_true', Bool.not_eq_false', decide_eq_false_iff_not, iL_empty, eq_iT, gc_11, gc_0, gc_1, gc_12, getP_none])
  refine ⟨inr_small (by omega) (by omega), ?_⟩
  rw [Int.toNat_natCast]
  have nl := hd.lt
  refine for_fix (fun i ρ h'' => ∃ o4 o5 o6 m u, ρ = [some (.ref n), some (.int r), some (iT w), some (.ref m), o4, o5, o6] ∧ lstAt h'' m = some (iL u) ∧ m ≠ n ∧ Wd r u ∧ u.length = w.length + 2 * i ∧ sh u = sh w ∧ Gr [n] h h'' ∧ Dice h'' n (k + (7 - 2 * i)))
    ⟨none, none, none, h.length, w, rfl, hg.at lst_new (by simp; omega), by omega, hw, rfl, rfl, g0.any.trans hg, hd'⟩ (fun i x ρ h'' hx hI => ?_) (fun ρ h'' hI => ?_) (gf (by rw [rngL_len]; omega))
  · obtain ⟨o4, o5, o6, m, u, rfl, hs, hmn, hu, hul, hsh, hg2, hd2⟩ := hI
    obtain ⟨lt, rfl⟩ := rngL_get hx
    simp -implicitDefEqProofs only [w_cons, w_nil, w_set, w_asg, w_par2, w_par3, w_setix, w_aug, w_expr, w_ret, w_retN, w_ifs, w_brk, w_cnt, w_pass, w_raise, w_for, w_whl, e_v, e_gc, e_int, e_str, e_bl, e_non, e_neg, e_not, e_bin, e_cmp, e_chain, e_and1, e_and2, e_or1, e_or2, e_and, e_or, e_ite, e_T, e_call, e_callv, e_bi, e_isi, e_meth, e_ix, e_slF, e_slT, e_slB, e_slN, e_rev, e_tup, e_lst, e_lc, e_lcIf, es_nil, es_cons, i_val, i_rng1, i_rng2, i_zip, getP_some, getP_map, getP_bind, getP_ite, asI_int, asF_fn, asT_tup, wpE_ok, step_name, step_many, c_eq, c_ne, c_lt, c_le, c_gt, c_ge, c_is, c_isNot, eq_int, eq_bl, eq_str, is_bl, is_nn, is_in, is_bn, is_sn, is_tn, is_ln, is_rn, t_non, t_bl, t_int, t_tup, t_rol, b_add, b_sub, b_mul, b_mod, b_fdiv, b_pow, b_addT, b_addS, b_mulT, b_mulSame, f_lenT, f_lenL, f_abs, f_max, f_min, f_int, f_intB, f_tupT, f_lstT, f_lstR, f_lenR, f_tupR, f_sum, f_all, f_any, f_anyT, f_allT, f_repr, x_tup, x_rol, x_ref, l_tup, l_ref, r_tup, m_app, m_ext, m_pop, m_cnt, p_app, p_ext, p_pop, p_cnt, s_tup, s_rol, s_ref, y_ii, y_ib, y_it, y_il, y_bi, y_bb, y_bt, y_tt, y_ti, y_tb, y_tl, y_ni, y_nt, x_set, a_add, a_sub, g_name, g_many, g_nil, g_cons, startP, wipeP, Tg.slots, List.map_cons, List.map_nil, List.length_cons, List.length_nil, List.replicate_succ, List.replicate_zero, List.cons_append, List.nil_append, List.getElem?_cons_zero, List.getElem?_cons_succ, Option.join_some, List.set_cons_zero, List.set_cons_succ, Bool.true_eq_false, reduceCtorEq, Option.map_some, Option.bind_some, Nat.reduceAdd, Nat.reduceSub, Nat.zero_add, Bool.not_true, Bool.not_false, Bool.false_eq_true, true_implies, false_implies, implies_true, and_true, true_and, not_true_eq_false, not_false_eq_true, decide_eq_true_eq, Bool.not_eq_true', Bool.not_eq_false', decide_eq_false_iff_not, iL_empty, eq_iT, gc_11, gc_0, gc_1, gc_12, getP_none, l44_0_0, hs, iL_len]
    refine sp_roll n (k + (7 - 2 * i - 1)) _ (hd2.less (by omega)) (by omega) (by omega) fun v h3 a3 b3 hg3 hd3 => ?_
    obtain ⟨p, rfl⟩ := Int.eq_ofNat_of_zero_le a3
    have hp : p ≤ u.length := by omega
    (try simp -implicitDefEqProofs only [w_cons, w_nil, w_set, w_asg, w_par2, w_par3, w_setix, w_aug, w_expr, w_ret, w_retN, w_ifs, w_brk, w_cnt, w_pass, w_raise, w_for, w_whl, e_v, e_gc, e_int, e_str, e_bl, e_non, e_neg, e_not, e_bin, e_cmp, e_chain, e_and1, e_and2, e_or1, e_or2, e_and, e_or, e_ite, e_T, e_call, e_callv, e_bi, e_isi, e_meth, e_ix, e_slF, e_slT, e_slB, e_slN, e_rev, e_tup, e_lst, e_lc, e_lcIf, es_nil, es_cons, i_val, i_rng1, i_rng2, i_zip, getP_some, getP_map, getP_bind, getP_ite, asI_int, asF_fn, asT_tup, wpE_ok, step_name, step_many, c_eq, c_ne, c_lt, c_le, c_gt, c_ge, c_is, c_isNot, eq_int, eq_bl, eq_str, is_bl, is_nn, is_in, is_bn, is_sn, is_tn, is_ln, is_rn, t_non, t_bl, t_int, t_tup, t_rol, b_add, b_sub, b_mul, b_mod, b_fdiv, b_pow, b_addT, b_addS, b_mulT, b_mulSame, f_lenT, f_lenL, f_abs, f_max, f_min, f_int, f_intB, f_tupT, f_lstT, f_lstR, f_lenR, f_tupR, f_sum, f_all, f_any, f_anyT, f_allT, f_repr, x_tup, x_rol, x_ref, l_tup, l_ref, r_tup, m_app, m_ext, m_pop, m_cnt, p_app, p_ext, p_pop, p_cnt, s_tup, s_rol, s_ref, y_ii, y_ib, y_it, y_il, y_bi, y_bb, y_bt, y_tt, y_ti, y_tb, y_tl, y_ni, y_nt, x_set, a_add, a_sub, g_name, g_many, g_nil, g_cons, startP, wipeP, Tg.slots, List.map_cons, List.map_nil, List.length_cons, List.length_nil, List.replicate_succ, List.replicate_zero, List.cons_append, List.nil_append, List.getElem?_cons_zero, List.getElem?_cons_succ, Option.join_some, List.set_cons_zero, List.set_cons_succ, Bool.true_eq_false, reduceCtorEq, Option.map_some, Option.bind_some, Nat.reduceAdd, Nat.reduceSub, Nat.zero_add, Bool.not_true, Bool.not_false, Bool.false_eq_true, true_implies, false_implies, implies_true, and_true, true_and, not_true_eq_false, not_false_eq_true, decide_eq_true_eq, Bool.not_eq_true', Bool.not_eq_false', decide_eq_false_iff_not, iL_empty, eq_iT, gc_11, gc_0, gc_1, gc_12, getP_none])
    refine sp_law_letters r h2 fun q h4 hq hq2 hg4 => ?_
    have d4 := hd3.keep hg4 (by simp)
    (try simp -implicitDefEqProofs only [w_cons, w_nil, w_set, w_asg, w_par2, w_par3, w_setix, w_aug, w_expr, w_ret, w_retN, w_ifs, w_brk, w_cnt, w_pass, w_raise, w_for, w_whl, e_v, e_gc, e_int, e_str, e_bl, e_non, e_neg, e_not, e_bin, e_cmp, e_chain, e_and1, e_and2, e_or1, e_or2, e_and, e_or, e_ite, e_T, e_call, e_callv, e_bi, e_isi, e_meth, e_ix, e_slF, e_slT, e_slB, e_slN, e_rev, e_tup, e_lst, e_lc, e_lcIf, es_nil, es_cons, i_val, i_rng1, i_rng2, i_zip, getP_some, getP_map, getP_bind, getP_ite, asI_int, asF_fn, asT_tup, wpE_ok, step_name, step_many, c_eq, c_ne, c_lt, c_le, c_gt, c_ge, c_is, c_isNot, eq_int, eq_bl, eq_str, is_bl, is_nn, is_in, is_bn, is_sn, is_tn, is_ln, is_rn, t_non, t_bl, t_int, t_tup, t_rol, b_add, b_sub, b_mul, b_mod, b_fdiv, b_pow, b_addT, b_addS, b_mulT, b_mulSame, f_lenT, f_lenL, f_abs, f_max, f_min, f_int, f_intB, f_tupT, f_lstT, f_lstR, f_lenR, f_tupR, f_sum, f_all, f_any, f_anyT, f_allT, f_repr, x_tup, x_rol, x_ref, l_tup, l_ref, r_tup, m_app, m_ext, m_pop, m_cnt, p_app, p_ext, p_pop, p_cnt, s_tup, s_rol, s_ref, y_ii, y_ib, y_it, y_il, y_bi, y_bb, y_bt, y_tt, y_ti, y_tb, y_tl, y_ni, y_nt, x_set, a_add, a_sub, g_name, g_many, g_nil, g_cons, startP, wipeP, Tg.slots, List.map_cons, List.map_nil, List.length_cons, List.length_nil, List.replicate_succ, List.replicate_zero, List.cons_append, List.nil_append, List.getElem?_cons_zero, List.getElem?_cons_succ, Option.join_some, List.set_cons_zero, List.set_cons_succ, Bool.true_eq_false, reduceCtorEq, Option.map_some, Option.bind_some, Nat.reduceAdd, Nat.reduceSub, Nat.zero_add, Bool.not_true, Bool.not_false, Bool.false_eq_true, true_implies, false_implies, implies_true, and_true, true_and, not_true_eq_false, not_false_eq_true, decide_eq_true_eq, Bool.not_eq_true', Bool.not_eq_false', decide_eq_false_iff_not, iL_empty, eq_iT, gc_11, gc_0, gc_1, gc_12, getP_none])
    refine sp_pick n (k + (7 - 2 * i - 2)) q _ (d4.less (by omega)) hq (by have := hd3.lt; omega) (by rw [iL_len, lets_len]; omega) (by rw [iL_len, lets_len]; omega) fun v y h5 hy hg5 hd5 => ?_
    obtain ⟨z, hz, rfl⟩ := iL_get hy
    have hs5 : lstAt h5 m = some (iL u) := hg5.at (hg4.at (hg3.at hs (by simpa using hmn)) (by simp)) (by simpa using hmn)
    have ml := lstAt_lt hs5
    have nl5 := hd5.lt
    simp -implicitDefEqProofs only [w_cons, w_nil, w_set, w_asg, w_par2, w_par3, w_setix, w_aug, w_expr, w_ret, w_retN, w_ifs, w_brk, w_cnt, w_pass, w_raise, w_for, w_whl, e_v, e_gc, e_int, e_str, e_bl, e_non, e_neg, e_not, e_bin, e_cmp, e_chain, e_and1, e_and2, e_or1, e_or2, e_and, e_or, e_ite, e_T, e_call, e_callv, e_bi, e_isi, e_meth, e_ix, e_slF, e_slT, e_slB, e_slN, e_rev, e_tup, e_lst, e_lc, e_lcIf, es_nil, es_cons, i_val, i_rng1, i_rng2, i_zip, getP_some, getP_map, getP_bind, getP_ite, asI_int, asF_fn, asT_tup, wpE_ok, step_name, step_many, c_eq, c_ne, c_lt, c_le, c_gt, c_ge, c_is, c_isNot, eq_int, eq_bl, eq_str, is_bl, is_nn, is_in, is_bn, is_sn, is_tn, is_ln, is_rn, t_non, t_bl, t_int, t_tup, t_rol, b_add, b_sub, b_mul, b_mod, b_fdiv, b_pow, b_addT, b_addS, b_mulT, b_mulSame, f_lenT, f_lenL, f_abs, f_max, f_min, f_int, f_intB, f_tupT, f_lstT, f_lstR, f_lenR, f_tupR, f_sum, f_all, f_any, f_anyT, f_allT, f_repr, x_tup, x_rol, x_ref, l_tup, l_ref, r_tup, m_app, m_ext, m_pop, m_cnt, p_app, p_ext, p_pop, p_cnt, s_tup, s_rol, s_ref, y_ii, y_ib, y_it, y_il, y_bi, y_bb, y_bt, y_tt, y_ti, y_tb, y_tl, y_ni, y_nt, x_set, a_add, a_sub, g_name, g_many, g_nil, g_cons, startP, wipeP, Tg.slots, List.map_cons, List.map_nil, List.length_cons, List.length_nil, List.replicate_succ, List.replicate_zero, List.cons_append, List.nil_append, List.getElem?_cons_zero, List.getElem?_cons_succ, Option.join_some, List.set_cons_zero, List.set_cons_succ, Bool.true_eq_false, reduceCtorEq, Option.map_some, Option.bind_some, Nat.reduceAdd, Nat.reduceSub, Nat.zero_add, Bool.not_true, Bool.not_false, Bool.false_eq_true, true_implies, false_implies, implies_true, and_true, true_and, not_true_eq_false, not_false_eq_true, decide_eq_true_eq, Bool.not_eq_true', Bool.not_eq_false', decide_eq_false_iff_not, iL_empty, eq_iT, gc_11, gc_0, gc_1, gc_12, getP_none, l44_0_1, hs5]
    rw [cut_to hp]
    have s6 : ∀ c, lstAt (h5 ++ [c]) m = some (iL u) := fun c => by rw [lst_old ml]; exact hs5
    refine ⟨by decide, ?_⟩
    have s7 : ∀ c c', lstAt (h5 ++ [c] ++ [c']) m = some (iL u) := fun c c' => by rw [lst_old (by simp; omega)]; exact s6 c
    have s8 : lstAt (h5 ++ [.lst (iL (u.take p))] ++ [.lst [.int z, .int (0 - z)]]) h5.length = some (iL (u.take p)) := by rw [lst_old (by simp)]; exact lst_new
    simp -implicitDefEqProofs only [w_cons, w_nil, w_set, w_asg, w_par2, w_par3, w_setix, w_aug, w_expr, w_ret, w_retN, w_ifs, w_brk, w_cnt, w_pass, w_raise, w_for, w_whl, e_v, e_gc, e_int, e_str, e_bl, e_non, e_neg, e_not, e_bin, e_cmp, e_chain, e_and1, e_and2, e_or1, e_or2, e_and, e_or, e_ite, e_T, e_call, e_callv, e_bi, e_isi, e_meth, e_ix, e_slF, e_slT, e_slB, e_slN, e_rev, e_tup, e_lst, e_lc, e_lcIf, es_nil, es_cons, i_val, i_rng1, i_rng2, i_zip, getP_some, getP_map, getP_bind, getP_ite, asI_int, asF_fn, asT_tup, wpE_ok, step_name, step_many, c_eq, c_ne, c_lt, c_le, c_gt, c_ge, c_is, c_isNot, eq_int, eq_bl, eq_str, is_bl, is_nn, is_in, is_bn, is_sn, is_tn, is_ln, is_rn, t_non, t_bl, t_int, t_tup, t_rol, b_add, b_sub, b_mul, b_mod, b_fdiv, b_pow, b_addT, b_addS, b_mulT, b_mulSame, f_lenT, f_lenL, f_abs, f_max, f_min, f_int, f_intB, f_tupT, f_lstT, f_lstR, f_lenR, f_tupR, f_sum, f_all, f_any, f_anyT, f_allT, f_repr, x_tup, x_rol, x_ref, l_tup, l_ref, r_tup, m_app, m_ext, m_pop, m_cnt, p_app, p_ext, p_pop, p_cnt, s_tup, s_rol, s_ref, y_ii, y_ib, y_it, y_il, y_bi, y_bb, y_bt, y_tt, y_ti, y_tb, y_tl, y_ni, y_nt, x_set, a_add, a_sub, g_name, g_many, g_nil, g_cons, startP, wipeP, Tg.slots, List.map_cons, List.map_nil, List.length_cons, List.length_nil, List.replicate_succ, List.replicate_zero, List.cons_append, List.nil_append, List.getElem?_cons_zero, List.getElem?_cons_succ, Option.join_some, List.set_cons_zero, List.set_cons_succ, Bool.true_eq_false, reduceCtorEq, Option.map_some, Option.bind_some, Nat.reduceAdd, Nat.reduceSub, Nat.zero_add, Bool.not_true, Bool.not_false, Bool.false_eq_true, true_implies, false_implies, implies_true, and_true, true_and, not_true_eq_false, not_false_eq_true, decide_eq_true_eq, Bool.not_eq_true', Bool.not_eq_false', decide_eq_false_iff_not, iL_empty, eq_iT, gc_11, gc_0, gc_1, gc_12, getP_none, binO, s7, s8, lst_new]
    refine ⟨by rw [iL_len]; exact sz (by simp; omega), ?_⟩
    have ml9 : m < (h5 ++ [Cell.lst (iL (u.take p))] ++ [Cell.lst [.int z, .int (0 - z)]]).length := by simp; omega
    simp -implicitDefEqProofs only [w_cons, w_nil, w_set, w_asg, w_par2, w_par3, w_setix, w_aug, w_expr, w_ret, w_retN, w_ifs, w_brk, w_cnt, w_pass, w_raise, w_for, w_whl, e_v, e_gc, e_int, e_str, e_bl, e_non, e_neg, e_not, e_bin, e_cmp, e_chain, e_and1, e_and2, e_or1, e_or2, e_and, e_or, e_ite, e_T, e_call, e_callv, e_bi, e_isi, e_meth, e_ix, e_slF, e_slT, e_slB, e_slN, e_rev, e_tup, e_lst, e_lc, e_lcIf, es_nil, es_cons, i_val, i_rng1, i_rng2, i_zip, getP_some, getP_map, getP_bind, getP_ite, asI_int, asF_fn, asT_tup, wpE_ok, step_name, step_many, c_eq, c_ne, c_lt, c_le, c_gt, c_ge, c_is, c_isNot, eq_int, eq_bl, eq_str, is_bl, is_nn, is_in, is_bn, is_sn, is_tn, is_ln, is_rn, t_non, t_bl, t_int, t_tup, t_rol, b_add, b_sub, b_mul, b_mod, b_fdiv, b_pow, b_addT, b_addS, b_mulT, b_mulSame, f_lenT, f_lenL, f_abs, f_max, f_min, f_int, f_intB, f_tupT, f_lstT, f_lstR, f_lenR, f_tupR, f_sum, f_all, f_any, f_anyT, f_allT, f_repr, x_tup, x_rol, x_ref, l_tup, l_ref, r_tup, m_app, m_ext, m_pop, m_cnt, p_app, p_ext, p_pop, p_cnt, s_tup, s_rol, s_ref, y_ii, y_ib, y_it, y_il, y_bi, y_bb, y_bt, y_tt, y_ti, y_tb, y_tl, y_ni, y_nt, x_set, a_add, a_sub, g_name, g_many, g_nil, g_cons, startP, wipeP, Tg.slots, List.map_cons, List.map_nil, List.length_cons, List.length_nil, List.replicate_succ, List.replicate_zero, List.cons_append, List.nil_append, List.getElem?_cons_zero, List.getElem?_cons_succ, Option.join_some, List.set_cons_zero, List.set_cons_succ, Bool.true_eq_false, reduceCtorEq, Option.map_some, Option.bind_some, Nat.reduceAdd, Nat.reduceSub, Nat.zero_add, Bool.not_true, Bool.not_false, Bool.false_eq_true, true_implies, false_implies, implies_true, and_true, true_and, not_true_eq_false, not_false_eq_true, decide_eq_true_eq, Bool.not_eq_true', Bool.not_eq_false', decide_eq_false_iff_not, iL_empty, eq_iT, gc_11, gc_0, gc_1, gc_12, getP_none, lst_old ml9, s7]
    rw [cut_from]
    have s10 : lstAt (h5 ++ [Cell.lst (iL (u.take p))] ++ [Cell.lst [.int z, .int (0 - z)]] ++ [Cell.lst (iL (u.take p) ++ [.int z, .int (0 - z)])] ++ [Cell.lst (iL (u.drop p))]) (h5 ++ [Cell.lst (iL (u.take p))] ++ [Cell.lst [.int z, .int (0 - z)]]).length = some (iL (u.take p) ++ [.int z, .int (0 - z)]) := by
      rw [lst_old (by simp)]; exact lst_new
    simp -implicitDefEqProofs only [w_cons, w_nil, w_set, w_asg, w_par2, w_par3, w_setix, w_aug, w_expr, w_ret, w_retN, w_ifs, w_brk, w_cnt, w_pass, w_raise, w_for, w_whl, e_v, e_gc, e_int, e_str, e_bl, e_non, e_neg, e_not, e_bin, e_cmp, e_chain, e_and1, e_and2, e_or1, e_or2, e_and, e_or, e_ite, e_T, e_call, e_callv, e_bi, e_isi, e_meth, e_ix, e_slF, e_slT, e_slB, e_slN, e_rev, e_tup, e_lst, e_lc, e_lcIf, es_nil, es_cons, i_val, i_rng1, i_rng2, i_zip, getP_some, getP_map, getP_bind, getP_ite, asI_int, asF_fn, asT_tup, wpE_ok, step_name, step_many, c_eq, c_ne, c_lt, c_le, c_gt, c_ge, c_is, c_isNot, eq_int, eq_bl, eq_str, is_bl, is_nn, is_in, is_bn, is_sn, is_tn, is_ln, is_rn, t_non, t_bl, t_int, t_tup, t_rol, b_add, b_sub, b_mul, b_mod, b_fdiv, b_pow, b_addT, b_addS, b_mulT, b_mulSame, f_lenT, f_lenL, f_abs, f_max, f_min, f_int, f_intB, f_tupT, f_lstT, f_lstR, f_lenR, f_tupR, f_sum, f_all, f_any, f_anyT, f_allT, f_repr, x_tup, x_rol, x_ref, l_tup, l_ref, r_tup, m_app, m_ext, m_pop, m_cnt, p_app, p_ext, p_pop, p_cnt, s_tup, s_rol, s_ref, y_ii, y_ib, y_it, y_il, y_bi, y_bb, y_bt, y_tt, y_ti, y_tb, y_tl, y_ni, y_nt, x_set, a_add, a_sub, g_name, g_many, g_nil, g_cons, startP, wipeP, Tg.slots, List.map_cons, List.map_nil, List.length_cons, List.length_nil, List.replicate_succ, List.replicate_zero, List.cons_append, List.nil_append, List.getElem?_cons_zero, List.getElem?_cons_succ, Option.join_some, List.set_cons_zero, List.set_cons_succ, Bool.true_eq_false, reduceCtorEq, Option.map_some, Option.bind_some, Nat.reduceAdd, Nat.reduceSub, Nat.zero_add, Bool.not_true, Bool.not_false, Bool.false_eq_true, true_implies, false_implies, implies_true, and_true, true_and, not_true_eq_false, not_false_eq_true, decide_eq_true_eq, Bool.not_eq_true', Bool.not_eq_false', decide_eq_false_iff_not, iL_empty, eq_iT, gc_11, gc_0, gc_1, gc_12, getP_none, binO, s10, lst_new]
    refine ⟨by simp [iL_len]; exact sz (by omega), _, _, _, _, u.take p ++ [z, -z] ++ u.drop p, rfl, ?_, ?_, fun x hx => ?_, ?_, ?_, ?_, ?_⟩
    · rw [lst_new, Int.zero_sub, iL_app, iL_app]; rfl
    · simp; omega
    · have hzl := lets_mem (List.mem_of_getElem? hz)
      rcases List.mem_append.mp hx with hx | hx
      · rcases List.mem_append.mp hx with hx | hx
        · exact hu x (List.mem_of_mem_take hx)
        · simp at hx; rcases hx with rfl | rfl <;> omega
      · exact hu x (List.mem_of_mem_drop hx)
    · simp; omega
    · rw [sh_strike, List.take_append_drop]; exact hsh
    · exact ((((hg2.trans hg3).trans hg4.any).trans hg5).new.new.new.new).new
    · have : Gr [] h5 (h5 ++ [Cell.lst (iL (u.take p))] ++ [Cell.lst [.int z, .int (0 - z)]] ++ [Cell.lst (iL (u.take p) ++ [.int z, .int (0 - z)])] ++ [Cell.lst (iL (u.drop p))] ++ [Cell.lst (iL (u.take p) ++ [.int z, .int (0 - z)] ++ iL (u.drop p))]) := Gr.new (Gr.new (Gr.new (Gr.new (Gr.new .refl))))
      exact (hd5.keep this (by simp)).less (by omega)
  · obtain ⟨o4, o5, o6, m, u, rfl, hs, hmn, hu, hul, hsh, hg2, hd2⟩ := hI
    rw [rngL_len] at hul hd2
    simp -implicitDefEqProofs only [b44_2, w_cons, w_nil, w_set, w_asg, w_par2, w_par3, w_setix, w_aug, w_expr, w_ret, w_retN, w_ifs, w_brk, w_cnt, w_pass, w_raise, w_for, w_whl, e_v, e_gc, e_int, e_str, e_bl, e_non, e_neg, e_not, e_bin, e_cmp, e_chain, e_and1, e_and2, e_or1, e_or2, e_and, e_or, e_ite, e_T, e_call, e_callv, e_bi, e_isi, e_meth, e_ix, e_slF, e_slT, e_slB, e_slN, e_rev, e_tup, e_lst, e_lc, e_lcIf, es_nil, es_cons, i_val, i_rng1, i_rng2, i_zip, getP_some, getP_map, getP_bind, getP_ite, asI_int, asF_fn, asT_tup, wpE_ok, step_name, step_many, c_eq, c_ne, c_lt, c_le, c_gt, c_ge, c_is, c_isNot, eq_int, eq_bl, eq_str, is_bl, is_nn, is_in, is_bn, is_sn, is_tn, is_ln, is_rn, t_non, t_bl, t_int, t_tup, t_rol, b_add, b_sub, b_mul, b_mod, b_fdiv, b_pow, b_addT, b_addS, b_mulT, b_mulSame, f_lenT, f_lenL, f_abs, f_max, f_min, f_int, f_intB, f_tupT, f_lstT, f_lstR, f_lenR, f_tupR, f_sum, f_all, f_any, f_anyT, f_allT, f_repr, x_tup, x_rol, x_ref, l_tup, l_ref, r_tup, m_app, m_ext, m_pop, m_cnt, p_app, p_ext, p_pop, p_cnt, s_tup, s_rol, s_ref, y_ii, y_ib, y_it, y_il, y_bi, y_bb, y_bt, y_tt, y_ti, y_tb, y_tl, y_ni, y_nt, x_set, a_add, a_sub, g_name, g_many, g_nil, g_cons, startP, wipeP, Tg.slots, List.map_cons, List.map_nil, List.length_cons, List.length_nil, List.replicate_succ, List.replicate_zero, List.cons_append, List.nil_append, List.getElem?_cons_zero, List.getElem?_cons_succ, Option.join_some, List.set_cons_zero, List.set_cons_succ, Bool.true_eq_false, reduceCtorEq, Option.map_some, Option.bind_some, Nat.reduceAdd, Nat.reduceSub, Nat.zero_add, Bool.not_true, Bool.not_false, Bool.false_eq_true, true_implies, false_implies, implies_true, and_true, true_and, not_true_eq_false, not_false_eq_true, decide_eq_true_eq, Bool.not_eq_true', Bool.not_eq_false', decide_eq_false_iff_not, iL_empty, eq_iT, gc_11, gc_0, gc_1, gc_12, getP_none, hs]
    exact hP u _ hu (by omega) hsh hg2 (hd2.less (by omega))
theorem sp_law_counts (r : Nat) (w : List Int) (hr : r < 1000000) (hP : ∀ h', Gr [] h h' → P (iT (cts r w)) h') : wpE (run GT GC GF (d + 1) 47 [.int r, iT w] h) P := by
  rw [run_in (F := F47) rfl rfl]
  simp -implicitDefEqProofs only [F47, b47_0, w_cons, w_nil, w_set, w_asg, w_par2, w_par3, w_setix, w_aug, w_expr, w_ret, w_retN, w_ifs, w_brk, w_cnt, w_pass, w_raise, w_for, w_whl, e_v, e_gc, e_int, e_str, e_bl, e_non, e_neg, e_not, e_bin, e_cmp, e_chain, e_and1, e_and2, e_or1, e_or2, e_and, e_or, e_ite, e_T, e_call, e_callv, e_bi, e_isi, e_meth, e_ix, e_slF, e_slT, e_slB, e_slN, e_rev, e_tup, e_lst, e_lc, e_lcIf, es_nil, es_cons, i_val, i_rng1, i_rng2, i_zip, getP_some, getP_map, getP_bind, getP_ite, asI_int, asF_fn, asT_tup, wpE_ok, step_name, step_many, c_eq, c_ne, c_lt, c_le, c_gt, c_ge, c_is, c_isNot, eq_int, eq_bl, eq_str, is_bl, is_nn, is_in, is_bn, is_sn, is_tn, is_ln, is_rn, t_non, t_bl, t_int, t_tup, t_rol, b_add, b_sub, b_mul, b_mod, b_fdiv, b_pow, b_addT, b_addS, b_mulT, b_mulSame, f_lenT, f_lenL, f_abs, f_max, f_min, f_int, f_intB, f_tupT, f_lstT, f_lstR, f_lenR, f_tupR, f_sum, f_all, f_any, f_anyT, f_allT, f_repr, x_tup, x_rol, x_ref, l_tup, l_ref, r_tup, m_app, m_ext, m_pop, m_cnt, p_app, p_ext, p_pop, p_cnt, s_tup, s_rol, s_ref, y_ii, y_ib, y_it, y_il, y_bi, y_bb, y_bt, y_tt, y_ti, y_tb, y_tl, y_ni, y_nt, x_set, a_add, a_sub, g_name, g_many, g_nil, g_cons, startP, wipeP, Tg.slots, List.map_cons, List.map_nil, List.length_cons, List.length_nil, List.replicate_succ, List.replicate_zero, List.cons_append, List.nil_append, List.getElem?_cons_zero, List.getElem?_cons_succ, Option.join_some, List.set_cons_zero, List.set_cons_succ, Bool.true_eq_false, reduceCtorEq, Option.map_some, Option.bind_some, Nat.reduceAdd, Nat.reduceSub, Nat.zero_add, Bool.not_true, Bool.not_false, Bool.false_eq_true, true_implies, false_implies, implies_true, and_true, true_and, not_true_eq_false, not_false_eq_true, decide_eq_true_eq, Bool.not_eq_true', Bool.not_eq_false', decide_eq_false_iff_not, iL_empty, eq_iT, gc_11, gc_0, gc_1, gc_12, getP_none]
  refine ⟨⟨inr_small (by omega) (by omega), inr_small (by omega) (by omega)⟩, ?_⟩
  have e : ((r : Int) + 1 - 1).toNat = r := by omega
  rw [e]
  refine lc_map (ys := iL (cts r w)) [] (by simp [iL_len, cts, rngL_len]) (fun i x y h' hx hy hg => ?_) (fun h' hg => ?_) (by rw [rngL_len]; exact sz (by omega)) (gf (by rw [rngL_len]; omega))
  · obtain ⟨lt, rfl⟩ := rngL_get hx
    rw [cts_get hy]
    simp -implicitDefEqProofs only [w_cons, w_nil, w_set, w_asg, w_par2, w_par3, w_setix, w_aug, w_expr, w_ret, w_retN, w_ifs, w_brk, w_cnt, w_pass, w_raise, w_for, w_whl, e_v, e_gc, e_int, e_str, e_bl, e_non, e_neg, e_not, e_bin, e_cmp, e_chain, e_and1, e_and2, e_or1, e_or2, e_and, e_or, e_ite, e_T, e_call, e_callv, e_bi, e_isi, e_meth, e_ix, e_slF, e_slT, e_slB, e_slN, e_rev, e_tup, e_lst, e_lc, e_lcIf, es_nil, es_cons, i_val, i_rng1, i_rng2, i_zip, getP_some, getP_map, getP_bind, getP_ite, asI_int, asF_fn, asT_tup, wpE_ok, step_name, step_many, c_eq, c_ne, c_lt, c_le, c_gt, c_ge, c_is, c_isNot, eq_int, eq_bl, eq_str, is_bl, is_nn, is_in, is_bn, is_sn, is_tn, is_ln, is_rn, t_non, t_bl, t_int, t_tup, t_rol, b_add, b_sub, b_mul, b_mod, b_fdiv, b_pow, b_addT, b_addS, b_mulT, b_mulSame, f_lenT, f_lenL, f_abs, f_max, f_min, f_int, f_intB, f_tupT, f_lstT, f_lstR, f_lenR, f_tupR, f_sum, f_all, f_any, f_anyT, f_allT, f_repr, x_tup, x_rol, x_ref, l_tup, l_ref, r_tup, m_app, m_ext, m_pop, m_cnt, p_app, p_ext, p_pop, p_cnt, s_tup, s_rol, s_ref, y_ii, y_ib, y_it, y_il, y_bi, y_bb, y_bt, y_tt, y_ti, y_tb, y_tl, y_ni, y_nt, x_set, a_add, a_sub, g_name, g_many, g_nil, g_cons, startP, wipeP, Tg.slots, List.map_cons, List.map_nil, List.length_cons, List.length_nil, List.replicate_succ, List.replicate_zero, List.cons_append, List.nil_append, List.getElem?_cons_zero, List.getElem?_cons_succ, Option.join_some, List.set_cons_zero, List.set_cons_succ, Bool.true_eq_false, reduceCtorEq, Option.map_some, Option.bind_some, Nat.reduceAdd, Nat.reduceSub, Nat.zero_add, Bool.not_true, Bool.not_false, Bool.false_eq_true, true_implies, false_implies, implies_true, and_true, true_and, not_true_eq_false, not_false_eq_true, decide_eq_true_eq, Bool.not_eq_true', Bool.not_eq_false', decide_eq_false_iff_not, iL_empty, eq_iT, gc_11, gc_0, gc_1, gc_12, getP_none, iL_ints, Int.zero_sub]
    exact ⟨rfl, hg⟩
  · simp -implicitDefEqProofs only [w_cons, w_nil, w_set, w_asg, w_par2, w_par3, w_setix, w_aug, w_expr, w_ret, w_retN, w_ifs, w_brk, w_cnt, w_pass, w_raise, w_for, w_whl, e_v, e_gc, e_int, e_str, e_bl, e_non, e_neg, e_not, e_bin, e_cmp, e_chain, e_and1, e_and2, e_or1, e_or2, e_and, e_or, e_ite, e_T, e_call, e_callv, e_bi, e_isi, e_meth, e_ix, e_slF, e_slT, e_slB, e_slN, e_rev, e_tup, e_lst, e_lc, e_lcIf, es_nil, es_cons, i_val, i_rng1, i_rng2, i_zip, getP_some, getP_map, getP_bind, getP_ite, asI_int, asF_fn, asT_tup, wpE_ok, step_name, step_many, c_eq, c_ne, c_lt, c_le, c_gt, c_ge, c_is, c_isNot, eq_int, eq_bl, eq_str, is_bl, is_nn, is_in, is_bn, is_sn, is_tn, is_ln, is_rn, t_non, t_bl, t_int, t_tup, t_rol, b_add, b_sub, b_mul, b_mod, b_fdiv, b_pow, b_addT, b_addS, b_mulT, b_mulSame, f_lenT, f_lenL, f_abs, f_max, f_min, f_int, f_intB, f_tupT, f_lstT, f_lstR, f_lenR, f_tupR, f_sum, f_all, f_any, f_anyT, f_allT, f_repr, x_tup, x_rol, x_ref, l_tup, l_ref, r_tup, m_app, m_ext, m_pop, m_cnt, p_app, p_ext, p_pop, p_cnt, s_tup, s_rol, s_ref, y_ii, y_ib, y_it, y_il, y_bi, y_bb, y_bt, y_tt, y_ti, y_tb, y_tl, y_ni, y_nt, x_set, a_add, a_sub, g_name, g_many, g_nil, g_cons, startP, wipeP, Tg.slots, List.map_cons, List.map_nil, List.length_cons, List.length_nil, List.replicate_succ, List.replicate_zero, List.cons_append, List.nil_append, List.getElem?_cons_zero, List.getElem?_cons_succ, Option.join_some, List.set_cons_zero, List.set_cons_succ, Bool.true_eq_false, reduceCtorEq, Option.map_some, Option.bind_some, Nat.reduceAdd, Nat.reduceSub, Nat.zero_add, Bool.not_true, Bool.not_false, Bool.false_eq_true, true_implies, false_implies, implies_true, and_true, true_and, not_true_eq_false, not_false_eq_true, decide_eq_true_eq, Bool.not_eq_true', Bool.not_eq_false', decide_eq_false_iff_not, iL_empty, eq_iT, gc_11, gc_0, gc_1, gc_12, getP_none, lst_new]
    exact hP _ hg.new
end
end Pi

-- w_cons, w_nil, w_set, w_asg, w_par2, w_par3, w_setix, w_aug, w_expr, w_ret, w_retN, w_ifs, w_brk, w_cnt, w_pass, w_raise, w_for, w_whl, e_v, e_gc, e_int, e_str, e_bl, e_non, e_neg, e_not, e_bin, e_cmp, e_chain, e_and1, e_and2, e_or1, e_or2, e_and, e_or, e_ite, e_T, e_call, e_callv, e_bi, e_isi, e_meth, e_ix, e_slF, e_slT, e_slB, e_slN, e_rev, e_tup, e_lst, e_lc, e_lcIf, es_nil, es_cons, i_val, i_rng1, i_rng2, i_zip, getP_some, getP_map, getP_bind, getP_ite, asI_int, asF_fn, asT_tup, wpE_ok, step_name, step_many, c_eq, c_ne, c_lt, c_le, c_gt, c_ge, c_is, c_isNot, eq_int, eq_bl, eq_str, is_bl, is_nn, is_in, is_bn, is_sn, is_tn, is_ln, is_rn, t_non, t_bl, t_int, t_tup, t_rol, b_add, b_sub, b_mul, b_mod, b_fdiv, b_pow, b_addT, b_addS, b_mulT, b_mulSame, f_lenT, f_lenL, f_abs, f_max, f_min, f_int, f_intB, f_tupT, f_lstT, f_lstR, f_lenR, f_tupR, f_sum, f_all, f_any, f_anyT, f_allT, f_repr, x_tup, x_rol, x_ref, l_tup, l_ref, r_tup, m_app, m_ext, m_pop, m_cnt, p_app, p_ext, p_pop, p_cnt, s_tup, s_rol, s_ref, y_ii, y_ib, y_it, y_il, y_bi, y_bb, y_bt, y_tt, y_ti, y_tb, y_tl, y_ni, y_nt, x_set, a_add, a_sub, g_name, g_many, g_nil, g_cons, startP, wipeP, Tg.slots, List.map_cons, List.map_nil, List.length_cons, List.length_nil, List.replicate_succ, List.replicate_zero, List.cons_append, List.nil_append, List.getElem?_cons_zero, List.getElem?_cons_succ, Option.join_some, List.set_cons_zero, List.set_cons_succ, Bool.true_eq_false, reduceCtorEq, Option.map_some, Option.bind_some, Nat.reduceAdd, Nat.reduceSub, Nat.zero_add, Bool.not_true, Bool.not_false, Bool.false_eq_true, true_implies, false_implies, implies_true, and_true, true_and, not_true_eq_false, not_false_eq_true, decide_eq_true_eq, Bool.not_eq_true', Bool.not_eq_false', decide_eq_false_iff_not, iL_empty, eq_iT, gc_11, gc_0, gc_1, gc_12, getP_none+: gc_11 gc_0 gc_1 gc_12
set_option Elab.async false
set_option linter.all false
set_option maxRecDepth 100000
set_option maxHeartbeats 8000000
/-! runs: a word struck by and by. -/
namespace Pi
open PySem Wm
section
variable {d : Nat} {h : IH} {P : PV → IH → Prop}
def nbAt (u : List Int) (i : Nat) : Bool := decide (u.getD i 0 = -(u.getD (i + 1) 0))
/-- where two neighbours undo one another, below t -/
def nbs (u : List Int) (t : Nat) : List Int := ((List.range t).filter (nbAt u)).map fun (k : Nat) => (k : Int)
theorem nbs_succ (u : List Int) (t : Nat) : nbs u (t + 1) = nbs u t ++ (if nbAt u t = true then [(t : Int)] else []) := by
  unfold nbs
  rw [List.range_succ, List.filter_append, List.map_append]
  congr 1
  by_cases e : nbAt u t = true <;> simp [e]
theorem nbs_mem {u : List Int} {t : Nat} {x : Int} (h : x ∈ nbs u t) : ∃ k : Nat, x = k ∧ k < t ∧ nbAt u k = true := by
  unfold nbs at h
  obtain ⟨k, hk, rfl⟩ := List.mem_map.mp h
  obtain ⟨h1, h2⟩ := List.mem_filter.mp hk
  exact ⟨k, rfl, List.mem_range.mp h1, h2⟩
theorem nbs_red {u : List Int} (h : nbs u (u.length - 1) = []) : RedL u := by
  refine redL_of_nb fun i x y h1 h2 e => ?_
  have l2 := (List.getElem?_eq_some_iff.mp h2).1
  have q : nbAt u i = true := by
    unfold nbAt
    rw [List.getD_eq_getElem?_getD, List.getD_eq_getElem?_getD, h1, h2]
    simp [e]
  have : (i : Int) ∈ nbs u (u.length - 1) := List.mem_map.mpr ⟨i, List.mem_filter.mpr ⟨List.mem_range.mpr (by omega), q⟩, rfl⟩
  rw [h] at this
  cases this
theorem nbs_strike {u : List Int} {k : Nat} (hk : k < u.length - 1) (h : nbAt u k = true) : sh (u.take k ++ u.drop (k + 2)) = sh u := by
  have l1 : k < u.length := by omega
  have l2 : k + 1 < u.length := by omega
  unfold nbAt at h
  rw [List.getD_eq_getElem?_getD, List.getD_eq_getElem?_getD, List.getElem?_eq_getElem l1, List.getElem?_eq_getElem l2] at h
  have h := of_decide_eq_true h
  simp only [Option.getD_some] at h
  have e : u = u.take k ++ [-u[k + 1], - -u[k + 1]] ++ u.drop (k + 2) := by
    conv => lhs; rw [← List.take_append_drop k u, List.drop_eq_getElem_cons l1, List.drop_eq_getElem_cons l2, h]
    simp
  conv => rhs; rw [e]
  rw [sh_strike]
theorem atNat {w : List Int} {i : Nat} (hi : i < w.length) : L2.atI (iL w) (i : Int) = some (.int w[i]) := L2.atI_nat (iL_at (List.getElem?_eq_getElem hi))
theorem sp_law_struck (n k : Nat) (w : List Int) (hd : Dice h n (k + w.length)) (hl : w.length < 100000) (hP : ∀ h', Gr [n] h h' → Dice h' n k → P (iT (sh w)) h') : wpE (run GT GC GF (d + 3) 46 [.ref n, iT w] h) P := by
  rw [run_in (F := F46) rfl rfl]
  simp -implicitDefEqProofs only [F46, b46_0, b46_1, w_cons, w_nil, w_set, w_asg, w_par2, w_par3, w_setix, w_aug, w_expr, w_ret, w_retN, w_ifs, w_brk, w_cnt, w_pass, w_raise, w_for, w_whl, e_v, e_gc, e_int, e_str, e_bl, e_non, e_neg, e_not, e_bin, e_cmp, e_chain, e_and1, e_and2, e_or1, e_or2, e_and, e_or, e_ite, e_T, e_call, e_callv, e_bi, e_isi, e_meth, e_ix, e_slF, e_slT, e_slB, e_slN, e_rev, e_tup, e_lst, e_lc, e_lcIf, es_nil, es_cons, i_val, i_rng1, i_rng2, i_zip, getP_some, getP_map, getP_bind, getP_ite, asI_int, asF_fn, asT_tup, wpE_ok, step_name, step_many, c_eq, c_ne, c_lt, c_le, c_gt, c_ge, c_is, c_isNot, eq_int, eq_bl, eq_str, is_bl, is_nn, is_in, is_bn, is_sn, is_tn, is_ln, is_rn, t_non, t_bl, t_int, t_tup, t_rol, b_add, b_sub, b_mul, b_mod, b_fdiv, b_pow, b_addT, b_addS, b_mulT, b_mulSame, f_lenT, f_lenL, f_abs, f_max, f_min, f_int, f_intB, f_tupT, f_lstT, f_lstR, f_lenR, f_tupR, f_sum, f_all, f_any, f_anyT, f_allT, f_repr, x_tup, x_rol, x_ref, l_tup, l_ref, r_tup, m_app, m_ext, m_pop, m_cnt, p_app, p_ext, p_pop, p_cnt, s_tup, s_rol, s_ref, y_ii, y_ib, y_it, y_il, y_bi, y_bb, y_bt, y_tt, y_ti, y_tb, y_tl, y_ni, y_nt, x_set, a_add, a_sub, g_name, g_many, g_nil, g_cons, startP, wipeP, Tg.slots, List.map_cons, List.map_nil, List.length_cons, List.length_nil, List.replicate_succ, List.replicate_zero, List.cons_append, List.nil_append, List.getElem?_cons_zero, List.getElem?_cons_succ, Option.join_some, List.set_cons_zero, List.set_cons_succ, Bool.true_eq_false, reduceCtorEq, Option.map_some, Option.bind_some, Nat.reduceAdd, Nat.reduceSub, Nat.zero_add, Bool.not_true, Bool.not_false, Bool.false_eq_true, true_implies, false_implies, implies_true, and_true, true_and, not_true_eq_false, not_false_eq_true, decide_eq_true_eq, Bool.not_eq_true', Bool.not_eq_false', decide_eq_false_iff_not, iL_empty, eq_iT, gc_11, gc_0, gc_1, gc_12, getP_none, iL_len]
  refine ⟨inr_small (by omega) (by omega), ?_⟩
  rw [Int.toNat_natCast]
  have g0 : Gr [] h (h ++ [.lst (iL w)]) := Gr.new .refl
  have d0 := hd.keep g0 (by simp)
  have nl := hd.lt
  refine for_fix (fun i ρ h'' => ∃ o3 o4 o5 m u, ρ = [some (.ref n), some (iT w), some (.ref m), o3, o4, o5] ∧ lstAt h'' m = some (iL u) ∧ m ≠ n ∧ u.length ≤ w.length ∧ sh u = sh w ∧ (nbs u (u.length - 1) = [] ∨ u.length + 2 * i ≤ w.length) ∧ Gr [n] h h'' ∧ Dice h'' n (k + (w.length - i)))
    ⟨none, none, none, h.length, w, rfl, lst_new, by omega, Nat.le_refl _, rfl, .inr (by omega), g0.any, d0⟩ (fun i x ρ h'' hx hI => ?_) (fun ρ h'' hI => ?_) (gf (by rw [rngL_len]; omega))
  · obtain ⟨o3, o4, o5, m, u, rfl, hs, hmn, hul, hsh, hnb, hg, hd2⟩ := hI
    obtain ⟨lt, rfl⟩ := rngL_get hx
    have ml := lstAt_lt hs
    have nl2 := hd2.lt
    simp -implicitDefEqProofs only [w_cons, w_nil, w_set, w_asg, w_par2, w_par3, w_setix, w_aug, w_expr, w_ret, w_retN, w_ifs, w_brk, w_cnt, w_pass, w_raise, w_for, w_whl, e_v, e_gc, e_int, e_str, e_bl, e_non, e_neg, e_not, e_bin, e_cmp, e_chain, e_and1, e_and2, e_or1, e_or2, e_and, e_or, e_ite, e_T, e_call, e_callv, e_bi, e_isi, e_meth, e_ix, e_slF, e_slT, e_slB, e_slN, e_rev, e_tup, e_lst, e_lc, e_lcIf, es_nil, es_cons, i_val, i_rng1, i_rng2, i_zip, getP_some, getP_map, getP_bind, getP_ite, asI_int, asF_fn, asT_tup, wpE_ok, step_name, step_many, c_eq, c_ne, c_lt, c_le, c_gt, c_ge, c_is, c_isNot, eq_int, eq_bl, eq_str, is_bl, is_nn, is_in, is_bn, is_sn, is_tn, is_ln, is_rn, t_non, t_bl, t_int, t_tup, t_rol, b_add, b_sub, b_mul, b_mod, b_fdiv, b_pow, b_addT, b_addS, b_mulT, b_mulSame, f_lenT, f_lenL, f_abs, f_max, f_min, f_int, f_intB, f_tupT, f_lstT, f_lstR, f_lenR, f_tupR, f_sum, f_all, f_any, f_anyT, f_allT, f_repr, x_tup, x_rol, x_ref, l_tup, l_ref, r_tup, m_app, m_ext, m_pop, m_cnt, p_app, p_ext, p_pop, p_cnt, s_tup, s_rol, s_ref, y_ii, y_ib, y_it, y_il, y_bi, y_bb, y_bt, y_tt, y_ti, y_tb, y_tl, y_ni, y_nt, x_set, a_add, a_sub, g_name, g_many, g_nil, g_cons, startP, wipeP, Tg.slots, List.map_cons, List.map_nil, List.length_cons, List.length_nil, List.replicate_succ, List.replicate_zero, List.cons_append, List.nil_append, List.getElem?_cons_zero, List.getElem?_cons_succ, Option.join_some, List.set_cons_zero, List.set_cons_succ, Bool.true_eq_false, reduceCtorEq, Option.map_some, Option.bind_some, Nat.reduceAdd, Nat.reduceSub, Nat.zero_add, Bool.not_true, Bool.not_false, Bool.false_eq_true, true_implies, false_implies, implies_true, and_true, true_and, not_true_eq_false, not_false_eq_true, decide_eq_true_eq, Bool.not_eq_true', Bool.not_eq_false', decide_eq_false_iff_not, iL_empty, eq_iT, gc_11, gc_0, gc_1, gc_12, getP_none, l46_0_0, hs, iL_len]
    refine ⟨inr_small (by omega) (by omega), ?_⟩
    have et : ((u.length : Int) - 1).toNat = u.length - 1 := by omega
    rw [et]
    refine lc_src (xs := rngL 0 (u.length - 1)) (fun j acc h3 => acc = iL (nbs u j) ∧ h3 = h'') ⟨rfl, rfl⟩ (fun _ _ _ _ _ => rfl) (fun j x acc h3 hx _ hI => ?_) (fun acc h3 hI => ?_) (by rw [rngL_len]; exact sz (by omega)) (gf (by rw [rngL_len]; omega))
    · obtain ⟨rfl, rfl⟩ := hI
      obtain ⟨lt, rfl⟩ := rngL_get hx
      have q1 : L2.atI (iL u) ((0 : Int) + (j : Int)) = some (.int u[j]) := by rw [Int.zero_add]; exact atNat (by omega)
      have q2 : L2.atI (iL u) ((0 : Int) + (j : Int) + 1) = some (.int (u[j + 1])) := by
        rw [show (0 : Int) + (j : Int) + 1 = ((j + 1 : Nat) : Int) by omega]; exact atNat (by omega)
      simp -implicitDefEqProofs only [w_cons, w_nil, w_set, w_asg, w_par2, w_par3, w_setix, w_aug, w_expr, w_ret, w_retN, w_ifs, w_brk, w_cnt, w_pass, w_raise, w_for, w_whl, e_v, e_gc, e_int, e_str, e_bl, e_non, e_neg, e_not, e_bin, e_cmp, e_chain, e_and1, e_and2, e_or1, e_or2, e_and, e_or, e_ite, e_T, e_call, e_callv, e_bi, e_isi, e_meth, e_ix, e_slF, e_slT, e_slB, e_slN, e_rev, e_tup, e_lst, e_lc, e_lcIf, es_nil, es_cons, i_val, i_rng1, i_rng2, i_zip, getP_some, getP_map, getP_bind, getP_ite, asI_int, asF_fn, asT_tup, wpE_ok, step_name, step_many, c_eq, c_ne, c_lt, c_le, c_gt, c_ge, c_is, c_isNot, eq_int, eq_bl, eq_str, is_bl, is_nn, is_in, is_bn, is_sn, is_tn, is_ln, is_rn, t_non, t_bl, t_int, t_tup, t_rol, b_add, b_sub, b_mul, b_mod, b_fdiv, b_pow, b_addT, b_addS, b_mulT, b_mulSame, f_lenT, f_lenL, f_abs, f_max, f_min, f_int, f_intB, f_tupT, f_lstT, f_lstR, f_lenR, f_tupR, f_sum, f_all, f_any, f_anyT, f_allT, f_repr, x_tup, x_rol, x_ref, l_tup, l_ref, r_tup, m_app, m_ext, m_pop, m_cnt, p_app, p_ext, p_pop, p_cnt, s_tup, s_rol, s_ref, y_ii, y_ib, y_it, y_il, y_bi, y_bb, y_bt, y_tt, y_ti, y_tb, y_tl, y_ni, y_nt, x_set, a_add, a_sub, g_name, g_many, g_nil, g_cons, startP, wipeP, Tg.slots, List.map_cons, List.map_nil, List.length_cons, List.length_nil, List.replicate_succ, List.replicate_zero, List.cons_append, List.nil_append, List.getElem?_cons_zero, List.getElem?_cons_succ, Option.join_some, List.set_cons_zero, List.set_cons_succ, Bool.true_eq_false, reduceCtorEq, Option.map_some, Option.bind_some, Nat.reduceAdd, Nat.reduceSub, Nat.zero_add, Bool.not_true, Bool.not_false, Bool.false_eq_true, true_implies, false_implies, implies_true, and_true, true_and, not_true_eq_false, not_false_eq_true, decide_eq_true_eq, Bool.not_eq_true', Bool.not_eq_false', decide_eq_false_iff_not, iL_empty, eq_iT, gc_11, gc_0, gc_1, gc_12, getP_none, hs, q1, q2, Int.zero_sub]
      have q3 : nbAt u j = decide (u[j] = -u[j + 1]) := by
        unfold nbAt
        rw [List.getD_eq_getElem?_getD, List.getD_eq_getElem?_getD, List.getElem?_eq_getElem (show j < u.length by omega), List.getElem?_eq_getElem (show j + 1 < u.length by omega)]
        rfl
      refine ⟨fun e => ?_, fun e => ?_⟩
      · rw [nbs_succ, q3, decide_eq_true e, if_pos rfl, iL_app, Int.zero_add]; rfl
      · rw [nbs_succ, q3, decide_eq_false e, if_neg Bool.false_ne_true, List.append_nil]
    · obtain ⟨rfl, rfl⟩ := hI
      rw [rngL_len]
      have q1 : lstAt (h3 ++ [.lst (iL (nbs u (u.length - 1)))] ++ [.lst []]) h3.length = some (iL (nbs u (u.length - 1))) := by rw [lst_old (by simp)]; exact lst_new
      simp -implicitDefEqProofs only [w_cons, w_nil, w_set, w_asg, w_par2, w_par3, w_setix, w_aug, w_expr, w_ret, w_retN, w_ifs, w_brk, w_cnt, w_pass, w_raise, w_for, w_whl, e_v, e_gc, e_int, e_str, e_bl, e_non, e_neg, e_not, e_bin, e_cmp, e_chain, e_and1, e_and2, e_or1, e_or2, e_and, e_or, e_ite, e_T, e_call, e_callv, e_bi, e_isi, e_meth, e_ix, e_slF, e_slT, e_slB, e_slN, e_rev, e_tup, e_lst, e_lc, e_lcIf, es_nil, es_cons, i_val, i_rng1, i_rng2, i_zip, getP_some, getP_map, getP_bind, getP_ite, asI_int, asF_fn, asT_tup, wpE_ok, step_name, step_many, c_eq, c_ne, c_lt, c_le, c_gt, c_ge, c_is, c_isNot, eq_int, eq_bl, eq_str, is_bl, is_nn, is_in, is_bn, is_sn, is_tn, is_ln, is_rn, t_non, t_bl, t_int, t_tup, t_rol, b_add, b_sub, b_mul, b_mod, b_fdiv, b_pow, b_addT, b_addS, b_mulT, b_mulSame, f_lenT, f_lenL, f_abs, f_max, f_min, f_int, f_intB, f_tupT, f_lstT, f_lstR, f_lenR, f_tupR, f_sum, f_all, f_any, f_anyT, f_allT, f_repr, x_tup, x_rol, x_ref, l_tup, l_ref, r_tup, m_app, m_ext, m_pop, m_cnt, p_app, p_ext, p_pop, p_cnt, s_tup, s_rol, s_ref, y_ii, y_ib, y_it, y_il, y_bi, y_bb, y_bt, y_tt, y_ti, y_tb, y_tl, y_ni, y_nt, x_set, a_add, a_sub, g_name, g_many, g_nil, g_cons, startP, wipeP, Tg.slots, List.map_cons, List.map_nil, List.length_cons, List.length_nil, List.replicate_succ, List.replicate_zero, List.cons_append, List.nil_append, List.getElem?_cons_zero, List.getElem?_cons_succ, Option.join_some, List.set_cons_zero, List.set_cons_succ, Bool.true_eq_false, reduceCtorEq, Option.map_some, Option.bind_some, Nat.reduceAdd, Nat.reduceSub, Nat.zero_add, Bool.not_true, Bool.not_false, Bool.false_eq_true, true_implies, false_implies, implies_true, and_true, true_and, not_true_eq_false, not_false_eq_true, decide_eq_true_eq, Bool.not_eq_true', Bool.not_eq_false', decide_eq_false_iff_not, iL_empty, eq_iT, gc_11, gc_0, gc_1, gc_12, getP_none, l46_0_1, eq_lsts (w := []) q1 lst_new]
      have g2 : Gr [] h3 (h3 ++ [.lst (iL (nbs u (u.length - 1)))] ++ [.lst []]) := Gr.new (Gr.new .refl)
      have d2 := hd2.keep g2 (by simp)
      have s2 : lstAt (h3 ++ [.lst (iL (nbs u (u.length - 1)))] ++ [.lst []]) m = some (iL u) := g2.at hs (by simp)
      refine ⟨Nat.zero_le _, fun e => ?_, fun e => ?_⟩
      · refine sp_pick n (k + (w.length - (i + 1))) h3.length _ (d2.less (by omega)) q1 (by omega) ?_ ?_ fun v y h4 hy hg4 hd4 => ?_
        · rw [iL_len]; exact List.length_pos_iff.mpr e
        · rw [iL_len]
          have : (nbs u (u.length - 1)).length ≤ u.length - 1 := by
            unfold nbs
            rw [List.length_map]
            exact Nat.le_trans (List.length_filter_le _ _) (by simp)
          omega
        · obtain ⟨z, hz, rfl⟩ := iL_get hy
          obtain ⟨p, rfl, hp, hpn⟩ := nbs_mem (List.mem_of_getElem? hz)
          have s4 := hg4.at s2 (by simpa using hmn)
          have ml4 := lstAt_lt s4
          have nl4 := hd4.lt
          simp -implicitDefEqProofs only [w_cons, w_nil, w_set, w_asg, w_par2, w_par3, w_setix, w_aug, w_expr, w_ret, w_retN, w_ifs, w_brk, w_cnt, w_pass, w_raise, w_for, w_whl, e_v, e_gc, e_int, e_str, e_bl, e_non, e_neg, e_not, e_bin, e_cmp, e_chain, e_and1, e_and2, e_or1, e_or2, e_and, e_or, e_ite, e_T, e_call, e_callv, e_bi, e_isi, e_meth, e_ix, e_slF, e_slT, e_slB, e_slN, e_rev, e_tup, e_lst, e_lc, e_lcIf, es_nil, es_cons, i_val, i_rng1, i_rng2, i_zip, getP_some, getP_map, getP_bind, getP_ite, asI_int, asF_fn, asT_tup, wpE_ok, step_name, step_many, c_eq, c_ne, c_lt, c_le, c_gt, c_ge, c_is, c_isNot, eq_int, eq_bl, eq_str, is_bl, is_nn, is_in, is_bn, is_sn, is_tn, is_ln, is_rn, t_non, t_bl, t_int, t_tup, t_rol, b_add, b_sub, b_mul, b_mod, b_fdiv, b_pow, b_addT, b_addS, b_mulT, b_mulSame, f_lenT, f_lenL, f_abs, f_max, f_min, f_int, f_intB, f_tupT, f_lstT, f_lstR, f_lenR, f_tupR, f_sum, f_all, f_any, f_anyT, f_allT, f_repr, x_tup, x_rol, x_ref, l_tup, l_ref, r_tup, m_app, m_ext, m_pop, m_cnt, p_app, p_ext, p_pop, p_cnt, s_tup, s_rol, s_ref, y_ii, y_ib, y_it, y_il, y_bi, y_bb, y_bt, y_tt, y_ti, y_tb, y_tl, y_ni, y_nt, x_set, a_add, a_sub, g_name, g_many, g_nil, g_cons, startP, wipeP, Tg.slots, List.map_cons, List.map_nil, List.length_cons, List.length_nil, List.replicate_succ, List.replicate_zero, List.cons_append, List.nil_append, List.getElem?_cons_zero, List.getElem?_cons_succ, Option.join_some, List.set_cons_zero, List.set_cons_succ, Bool.true_eq_false, reduceCtorEq, Option.map_some, Option.bind_some, Nat.reduceAdd, Nat.reduceSub, Nat.zero_add, Bool.not_true, Bool.not_false, Bool.false_eq_true, true_implies, false_implies, implies_true, and_true, true_and, not_true_eq_false, not_false_eq_true, decide_eq_true_eq, Bool.not_eq_true', Bool.not_eq_false', decide_eq_false_iff_not, iL_empty, eq_iT, gc_11, gc_0, gc_1, gc_12, getP_none, s4]
          rw [cut_to (by omega)]
          have s5 : ∀ c, lstAt (h4 ++ [c]) m = some (iL u) := fun c => by rw [lst_old ml4]; exact s4
          simp -implicitDefEqProofs only [w_cons, w_nil, w_set, w_asg, w_par2, w_par3, w_setix, w_aug, w_expr, w_ret, w_retN, w_ifs, w_brk, w_cnt, w_pass, w_raise, w_for, w_whl, e_v, e_gc, e_int, e_str, e_bl, e_non, e_neg, e_not, e_bin, e_cmp, e_chain, e_and1, e_and2, e_or1, e_or2, e_and, e_or, e_ite, e_T, e_call, e_callv, e_bi, e_isi, e_meth, e_ix, e_slF, e_slT, e_slB, e_slN, e_rev, e_tup, e_lst, e_lc, e_lcIf, es_nil, es_cons, i_val, i_rng1, i_rng2, i_zip, getP_some, getP_map, getP_bind, getP_ite, asI_int, asF_fn, asT_tup, wpE_ok, step_name, step_many, c_eq, c_ne, c_lt, c_le, c_gt, c_ge, c_is, c_isNot, eq_int, eq_bl, eq_str, is_bl, is_nn, is_in, is_bn, is_sn, is_tn, is_ln, is_rn, t_non, t_bl, t_int, t_tup, t_rol, b_add, b_sub, b_mul, b_mod, b_fdiv, b_pow, b_addT, b_addS, b_mulT, b_mulSame, f_lenT, f_lenL, f_abs, f_max, f_min, f_int, f_intB, f_tupT, f_lstT, f_lstR, f_lenR, f_tupR, f_sum, f_all, f_any, f_anyT, f_allT, f_repr, x_tup, x_rol, x_ref, l_tup, l_ref, r_tup, m_app, m_ext, m_pop, m_cnt, p_app, p_ext, p_pop, p_cnt, s_tup, s_rol, s_ref, y_ii, y_ib, y_it, y_il, y_bi, y_bb, y_bt, y_tt, y_ti, y_tb, y_tl, y_ni, y_nt, x_set, a_add, a_sub, g_name, g_many, g_nil, g_cons, startP, wipeP, Tg.slots, List.map_cons, List.map_nil, List.length_cons, List.length_nil, List.replicate_succ, List.replicate_zero, List.cons_append, List.nil_append, List.getElem?_cons_zero, List.getElem?_cons_succ, Option.join_some, List.set_cons_zero, List.set_cons_succ, Bool.true_eq_false, reduceCtorEq, Option.map_some, Option.bind_some, Nat.reduceAdd, Nat.reduceSub, Nat.zero_add, Bool.not_true, Bool.not_false, Bool.false_eq_true, true_implies, false_implies, implies_true, and_true, true_and, not_true_eq_false, not_false_eq_true, decide_eq_true_eq, Bool.not_eq_true', Bool.not_eq_false', decide_eq_false_iff_not, iL_empty, eq_iT, gc_11, gc_0, gc_1, gc_12, getP_none, s5]
          rw [show (p : Int) + 2 = ((p + 2 : Nat) : Int) by omega, cut_from]
          have s6 : lstAt (h4 ++ [.lst (iL (u.take p))] ++ [.lst (iL (u.drop (p + 2)))]) h4.length = some (iL (u.take p)) := by rw [lst_old (by simp)]; exact lst_new
          simp -implicitDefEqProofs only [w_cons, w_nil, w_set, w_asg, w_par2, w_par3, w_setix, w_aug, w_expr, w_ret, w_retN, w_ifs, w_brk, w_cnt, w_pass, w_raise, w_for, w_whl, e_v, e_gc, e_int, e_str, e_bl, e_non, e_neg, e_not, e_bin, e_cmp, e_chain, e_and1, e_and2, e_or1, e_or2, e_and, e_or, e_ite, e_T, e_call, e_callv, e_bi, e_isi, e_meth, e_ix, e_slF, e_slT, e_slB, e_slN, e_rev, e_tup, e_lst, e_lc, e_lcIf, es_nil, es_cons, i_val, i_rng1, i_rng2, i_zip, getP_some, getP_map, getP_bind, getP_ite, asI_int, asF_fn, asT_tup, wpE_ok, step_name, step_many, c_eq, c_ne, c_lt, c_le, c_gt, c_ge, c_is, c_isNot, eq_int, eq_bl, eq_str, is_bl, is_nn, is_in, is_bn, is_sn, is_tn, is_ln, is_rn, t_non, t_bl, t_int, t_tup, t_rol, b_add, b_sub, b_mul, b_mod, b_fdiv, b_pow, b_addT, b_addS, b_mulT, b_mulSame, f_lenT, f_lenL, f_abs, f_max, f_min, f_int, f_intB, f_tupT, f_lstT, f_lstR, f_lenR, f_tupR, f_sum, f_all, f_any, f_anyT, f_allT, f_repr, x_tup, x_rol, x_ref, l_tup, l_ref, r_tup, m_app, m_ext, m_pop, m_cnt, p_app, p_ext, p_pop, p_cnt, s_tup, s_rol, s_ref, y_ii, y_ib, y_it, y_il, y_bi, y_bb, y_bt, y_tt, y_ti, y_tb, y_tl, y_ni, y_nt, x_set, a_add, a_sub, g_name, g_many, g_nil, g_cons, startP, wipeP, Tg.slots, List.map_cons, List.map_nil, List.length_cons, List.length_nil, List.replicate_succ, List.replicate_zero, List.cons_append, List.nil_append, List.getElem?_cons_zero, List.getElem?_cons_succ, Option.join_some, List.set_cons_zero, List.set_cons_succ, Bool.true_eq_false, reduceCtorEq, Option.map_some, Option.bind_some, Nat.reduceAdd, Nat.reduceSub, Nat.zero_add, Bool.not_true, Bool.not_false, Bool.false_eq_true, true_implies, false_implies, implies_true, and_true, true_and, not_true_eq_false, not_false_eq_true, decide_eq_true_eq, Bool.not_eq_true', Bool.not_eq_false', decide_eq_false_iff_not, iL_empty, eq_iT, gc_11, gc_0, gc_1, gc_12, getP_none, binO, s6, lst_new]
          refine ⟨by simp [iL_len]; exact sz (by omega), _, _, _, _, u.take p ++ u.drop (p + 2), rfl, ?_, ?_, ?_, ?_, ?_, ?_, ?_⟩
          · rw [lst_new, iL_app]
          · simp; omega
          · simp; omega
          · rw [nbs_strike hp hpn]; exact hsh
          · rcases hnb with hnb | hnb
            · exact absurd hnb e
            · right; simp; omega
          · exact (((hg.trans g2.any).trans hg4).new.new).new
          · have : Gr [] h4 (h4 ++ [.lst (iL (u.take p))] ++ [.lst (iL (u.drop (p + 2)))] ++ [.lst (iL (u.take p) ++ iL (u.drop (p + 2)))]) := Gr.new (Gr.new (Gr.new .refl))
            exact hd4.keep this (by simp)
      · exact ⟨_, _, _, m, u, rfl, s2, hmn, hul, hsh, .inl (by simpa using e), hg.trans g2.any, d2.less (by omega)⟩
  · obtain ⟨o3, o4, o5, m, u, rfl, hs, hmn, hul, hsh, hnb, hg, hd2⟩ := hI
    rw [rngL_len] at hnb hd2
    simp -implicitDefEqProofs only [b46_2, w_cons, w_nil, w_set, w_asg, w_par2, w_par3, w_setix, w_aug, w_expr, w_ret, w_retN, w_ifs, w_brk, w_cnt, w_pass, w_raise, w_for, w_whl, e_v, e_gc, e_int, e_str, e_bl, e_non, e_neg, e_not, e_bin, e_cmp, e_chain, e_and1, e_and2, e_or1, e_or2, e_and, e_or, e_ite, e_T, e_call, e_callv, e_bi, e_isi, e_meth, e_ix, e_slF, e_slT, e_slB, e_slN, e_rev, e_tup, e_lst, e_lc, e_lcIf, es_nil, es_cons, i_val, i_rng1, i_rng2, i_zip, getP_some, getP_map, getP_bind, getP_ite, asI_int, asF_fn, asT_tup, wpE_ok, step_name, step_many, c_eq, c_ne, c_lt, c_le, c_gt, c_ge, c_is, c_isNot, eq_int, eq_bl, eq_str, is_bl, is_nn, is_in, is_bn, is_sn, is_tn, is_ln, is_rn, t_non, t_bl, t_int, t_tup, t_rol, b_add, b_sub, b_mul, b_mod, b_fdiv, b_pow, b_addT, b_addS, b_mulT, b_mulSame, f_lenT, f_lenL, f_abs, f_max, f_min, f_int, f_intB, f_tupT, f_lstT, f_lstR, f_lenR, f_tupR, f_sum, f_all, f_any, f_anyT, f_allT, f_repr, x_tup, x_rol, x_ref, l_tup, l_ref, r_tup, m_app, m_ext, m_pop, m_cnt, p_app, p_ext, p_pop, p_cnt, s_tup, s_rol, s_ref, y_ii, y_ib, y_it, y_il, y_bi, y_bb, y_bt, y_tt, y_ti, y_tb, y_tl, y_ni, y_nt, x_set, a_add, a_sub, g_name, g_many, g_nil, g_cons, startP, wipeP, Tg.slots, List.map_cons, List.map_nil, List.length_cons, List.length_nil, List.replicate_succ, List.replicate_zero, List.cons_append, List.nil_append, List.getElem?_cons_zero, List.getElem?_cons_succ, Option.join_some, List.set_cons_zero, List.set_cons_succ, Bool.true_eq_false, reduceCtorEq, Option.map_some, Option.bind_some, Nat.reduceAdd, Nat.reduceSub, Nat.zero_add, Bool.not_true, Bool.not_false, Bool.false_eq_true, true_implies, false_implies, implies_true, and_true, true_and, not_true_eq_false, not_false_eq_true, decide_eq_true_eq, Bool.not_eq_true', Bool.not_eq_false', decide_eq_false_iff_not, iL_empty, eq_iT, gc_11, gc_0, gc_1, gc_12, getP_none, hs]
    have hr : nbs u (u.length - 1) = [] := by
      rcases hnb with q | q
      · exact q
      · have : u.length - 1 = 0 := by omega
        rw [this]; rfl
    have : u = sh w := by rw [← hsh, sh_red (nbs_red hr)]
    rw [this]
    exact hP _ hg (hd2.less (by omega))
end
end Pi

set_option Elab.async false
set_option linter.all false
set_option maxRecDepth 100000
set_option maxHeartbeats 8000000
/-! texts of plain data. -/
namespace Pi
open PySem Wm
mutual
def wid : PyData → Nat
  | .none => 4
  | .bool _ => 5
  | .int i => i.natAbs.log2 + 2
  | .str _ => 0
  | .list xs => widAll xs + 2
  | .tuple xs => widAll xs + 3
  | .dict _ => 0
def widAll : List PyData → Nat
  | [] => 0
  | x :: xs => wid x + 2 + widAll xs
end
mutual
/-- no texts, no dicts; whole numbers that can be shown -/
def plainD : PyData → Bool
  | .none => true
  | .bool _ => true
  | .int i => decide (i.natAbs.log2 < 1920)
  | .str _ => false
  | .list xs => plainAll xs
  | .tuple xs => plainAll xs
  | .dict _ => false
def plainAll : List PyData → Bool
  | [] => true
  | x :: xs => plainD x && plainAll xs
end
theorem int_len (i : Int) : (toString i).length ≤ i.natAbs.log2 + 2 := by
  have h0 : ∀ n : Nat, (Nat.repr n).length ≤ n.log2 + 1 := fun n => nat_repr_length_le (by omega) Nat.lt_log2_self
  cases i with
  | ofNat n =>
    have := h0 n
    show (Nat.repr n).length ≤ n.log2 + 2
    omega
  | negSucc n =>
    have := h0 (n + 1)
    show (("-" : String) ++ Nat.repr (n + 1)).length ≤ (n + 1).log2 + 2
    rw [String.length_append]
    have : ("-" : String).length = 1 := rfl
    omega
mutual
theorem showable_plain : ∀ d : PyData, plainD d = true → d.showable = true
  | .none, _ => by simp [PyData.showable]
  | .bool _, _ => by simp [PyData.showable]
  | .int i, h => by simpa [PyData.showable, plainD] using h
  | .str _, h => by simp [plainD] at h
  | .list xs, h => by simp only [PyData.showable]; exact showable_plainAll xs (by simpa [plainD] using h)
  | .tuple xs, h => by simp only [PyData.showable]; exact showable_plainAll xs (by simpa [plainD] using h)
  | .dict _, h => by simp [plainD] at h
theorem showable_plainAll : ∀ xs : List PyData, plainAll xs = true → PyData.showableAll xs = true
  | [], _ => by simp [PyData.showableAll]
  | x :: xs, h => by
    simp only [plainAll, Bool.and_eq_true] at h
    simp only [PyData.showableAll, showable_plain x h.1, showable_plainAll xs h.2, Bool.and_self]
end
theorem join_len (ts : List Str) : (Str.join ", " ts).length ≤ piled ts := by
  cases ts with
  | nil => exact Nat.zero_le _
  | cons t ts => have := join_length_add (t :: ts) (by simp); omega
mutual
theorem shown_len : ∀ d : PyData, plainD d = true → d.shown.length ≤ wid d
  | .none, _ => by simp only [PyData.shown, wid]; rw [ofString_length]; decide
  | .bool b, _ => by
    simp only [PyData.shown, wid]
    cases b <;> decide
  | .int i, _ => by
    simp only [PyData.shown, wid]
    rw [ofString_length]
    exact int_len i
  | .str _, h => by simp [plainD] at h
  | .list xs, h => by
    have ih := shown_lenAll xs (by simpa [plainD] using h)
    rw [PyData.shown_list, strLen_append, strLen_append, ofString_length, ofString_length]
    have := join_len (PyData.shownAll xs)
    have e1 : ("[" : String).length = 1 := rfl
    have e2 : ("]" : String).length = 1 := rfl
    simp only [wid]
    omega
  | .tuple xs, h => by
    have ih := shown_lenAll xs (by simpa [plainD] using h)
    rw [PyData.shown_tuple, strLen_append, strLen_append, ofString_length, ofString_length]
    have := join_len (PyData.shownAll xs)
    have e1 : ("(" : String).length = 1 := rfl
    have e2 : (if xs.length == 1 then ",)" else ")" : String).length ≤ 2 := by split <;> decide
    simp only [wid]
    omega
  | .dict _, h => by simp [plainD] at h
theorem shown_lenAll : ∀ xs : List PyData, plainAll xs = true → piled (PyData.shownAll xs) ≤ widAll xs
  | [], _ => by simp [PyData.shownAll, piled, widAll]
  | x :: xs, h => by
    simp only [plainAll, Bool.and_eq_true] at h
    have h1 := shown_len x h.1
    have h2 := shown_lenAll xs h.2
    simp only [PyData.shownAll, piled_cons, widAll]
    omega
end
theorem repr_of {h : IH} {p : PV} {d : PyData} (e : toD h dMost p = some d) (hp : plainD d = true) (hw : wid d ≤ 16777216) (hd : d.depth ≤ 64) : reprO h p = some d.shown := by
  unfold reprO
  rw [e]
  simp only
  rw [if_pos ⟨showable_plain d hp, Nat.le_trans (shown_len d hp) (sz hw), hd⟩]
/-- small letters -/
def Sm (w : List Int) : Prop := w.length ≤ 100000 ∧ ∀ x ∈ w, -1000000 ≤ x ∧ x ≤ 1000000
theorem plain_dI : ∀ w : List Int, (∀ x ∈ w, -1000000 ≤ x ∧ x ≤ 1000000) → plainAll (dI w) = true ∧ widAll (dI w) ≤ 24 * w.length
  | [], _ => ⟨rfl, by simp [dI, widAll]⟩
  | x :: w, h => by
    obtain ⟨h1, h2⟩ := plain_dI w fun y hy => h y (List.mem_cons_of_mem _ hy)
    have hx := h x List.mem_cons_self
    have lx : x.natAbs.log2 < 20 := log2_lt (by omega) (by omega) (by omega)
    refine ⟨?_, ?_⟩
    · show (plainD (.int x) && plainAll (dI w)) = true
      rw [h1]
      simp only [plainD, Bool.and_true, decide_eq_true_eq]
      omega
    · show wid (.int x) + 2 + widAll (dI w) ≤ 24 * (w.length + 1)
      simp only [wid]
      omega
def rT (w : List Int) : Str := (PyData.tuple (dI w)).shown
theorem repr_iT {h : IH} {w : List Int} (hw : Sm w) : reprO h (iT w) = some (rT w) := by
  obtain ⟨h1, h2⟩ := plain_dI w hw.2
  have := depth_dI w
  have hl := hw.1
  refine repr_of (toD_iT h 59 w) (by simpa [plainD] using h1) ?_ ?_
  · simp only [wid]; omega
  · show PyData.depthAll (dI w) + 1 ≤ 64; omega
def rI (i : Int) : Str := (PyData.int i).shown
theorem repr_int {h : IH} {i : Int} (h1 : -(2 ^ 1000) < i) (h2 : i < 2 ^ 1000) : reprO h (.int i) = some (rI i) := by
  have l := log2_lt h1 h2 (by omega)
  refine repr_of (d := .int i) (by simp [toD]) (by simp [plainD]; omega) (by simp only [wid]; omega) (by simp [PyData.depth])
def rB (b : Bool) : Str := (PyData.bool b).shown
theorem repr_bl {h : IH} {b : Bool} : reprO h (.bl b) = some (rB b) := repr_of (d := .bool b) (by simp [toD]) (by simp [plainD]) (by simp [wid]) (by simp [PyData.depth])
theorem Wd.sh {r : Int} {w : List Int} (h : Wd r w) : Wd r (sh w) := fun x hx => h x (mem_sh hx)
theorem Wd.un {r : Int} {w : List Int} (h : Wd r w) : Wd r (un w) := fun x hx => by
  unfold Wm.un at hx
  obtain ⟨y, hy, rfl⟩ := List.mem_map.mp hx
  have := h y (List.mem_reverse.mp hy)
  omega
theorem Wd.app {r : Int} {v w : List Int} (h : Wd r v) (k : Wd r w) : Wd r (v ++ w) := fun x hx => (List.mem_append.mp hx).elim (h x) (k x)
theorem Wd.sm {r : Int} {w : List Int} (h : Wd r w) (hr : r ≤ 1000) (hl : w.length ≤ 100000) : Sm w := ⟨hl, fun x hx => by have := h x hx; omega⟩
theorem cts_sh (r : Nat) (w : List Int) : cts r (sh w) = cts r w := by
  unfold cts
  refine List.map_congr_left fun k _ => ?_
  exact cnt_sh (by omega) w
theorem cts_sm {r : Nat} {w : List Int} (hr : r ≤ 1000) (hl : w.length ≤ 100000) : Sm (cts r w) := by
  refine ⟨by simp [cts]; omega, fun x hx => ?_⟩
  unfold cts at hx
  obtain ⟨k, _, rfl⟩ := List.mem_map.mp hx
  unfold cnt
  have h1 : List.count (1 + (k : Int)) w ≤ w.length := List.count_le_length
  have h2 : List.count (-(1 + (k : Int))) w ≤ w.length := List.count_le_length
  omega
theorem lets_sm {r : Nat} (hr : r ≤ 1000) : Sm (lets r) := ⟨by rw [lets_len]; omega, fun x hx => by have := lets_mem hx; omega⟩
theorem un_sh_nil (w : List Int) : sh (w ++ un w) = [] := by
  unfold Wm.sh
  rw [st_app, st_un red_nil]
  rfl
theorem eq_tnil (h : IH) (w : List Int) : eqO h (.tup (iL w)) (.tup []) = some (decide (w = [])) := eq_iT h w []
theorem sh_len_un (w : List Int) : (sh (un w)).length = (sh w).length := by rw [sh_un, un_len]
end Pi

-- w_cons, w_nil, w_set, w_asg, w_par2, w_par3, w_setix, w_aug, w_expr, w_ret, w_retN, w_ifs, w_brk, w_cnt, w_pass, w_raise, w_for, w_whl, e_v, e_gc, e_int, e_str, e_bl, e_non, e_neg, e_not, e_bin, e_cmp, e_chain, e_and1, e_and2, e_or1, e_or2, e_and, e_or, e_ite, e_T, e_call, e_callv, e_bi, e_isi, e_meth, e_ix, e_slF, e_slT, e_slB, e_slN, e_rev, e_tup, e_lst, e_lc, e_lcIf, es_nil, es_cons, i_val, i_rng1, i_rng2, i_zip, getP_some, getP_map, getP_bind, getP_ite, asI_int, asF_fn, asT_tup, wpE_ok, step_name, step_many, c_eq, c_ne, c_lt, c_le, c_gt, c_ge, c_is, c_isNot, eq_int, eq_bl, eq_str, is_bl, is_nn, is_in, is_bn, is_sn, is_tn, is_ln, is_rn, t_non, t_bl, t_int, t_tup, t_rol, b_add, b_sub, b_mul, b_mod, b_fdiv, b_pow, b_addT, b_addS, b_mulT, b_mulSame, f_lenT, f_lenL, f_abs, f_max, f_min, f_int, f_intB, f_tupT, f_lstT, f_lstR, f_lenR, f_tupR, f_sum, f_all, f_any, f_anyT, f_allT, f_repr, x_tup, x_rol, x_ref, l_tup, l_ref, r_tup, m_app, m_ext, m_pop, m_cnt, p_app, p_ext, p_pop, p_cnt, s_tup, s_rol, s_ref, y_ii, y_ib, y_it, y_il, y_bi, y_bb, y_bt, y_tt, y_ti, y_tb, y_tl, y_ni, y_nt, x_set, a_add, a_sub, g_name, g_many, g_nil, g_cons, startP, wipeP, Tg.slots, List.map_cons, List.map_nil, List.length_cons, List.length_nil, List.replicate_succ, List.replicate_zero, List.cons_append, List.nil_append, List.getElem?_cons_zero, List.getElem?_cons_succ, Option.join_some, List.set_cons_zero, List.set_cons_succ, Bool.true_eq_false, reduceCtorEq, Option.map_some, Option.bind_some, Nat.reduceAdd, Nat.reduceSub, Nat.zero_add, Bool.not_true, Bool.not_false, Bool.false_eq_true, true_implies, false_implies, implies_true, and_true, true_and, not_true_eq_false, not_false_eq_true, decide_eq_true_eq, Bool.not_eq_true', Bool.not_eq_false', decide_eq_false_iff_not, iL_empty, eq_iT, gc_11, gc_0, gc_1, gc_12, getP_none+: gc_11 gc_0 gc_1 gc_12
set_option Elab.async false
set_option linter.all false
set_option maxRecDepth 100000
set_option maxHeartbeats 8000000
set_option exponentiation.threshold 400
/-! runs: the law's dice, made. -/
namespace Pi
open PySem Wm
section
variable {d : Nat} {h : IH} {P : PV → IH → Prop}
theorem log2_1 : (1152921504606846869 : Int).natAbs.log2 < 100 := by decide
theorem sp_law_dice (ns : List Int) (spot : Nat) (hs : spot < 1000) (hP : ∀ n h', Dice h' n (2 ^ 299) → h.length ≤ n → Gr [] h h' → P (.ref n) h') : wpE (run GT GC GF (d + 1) 0 [.rol (iL ns), .int spot] h) P := by
  rw [run_in (F := F0) rfl rfl]
  simp -implicitDefEqProofs only [F0, b0_0, w_cons, w_nil, w_set, w_asg, w_par2, w_par3, w_setix, w_aug, w_expr, w_ret, w_retN, w_ifs, w_brk, w_cnt, w_pass, w_raise, w_for, w_whl, e_v, e_gc, e_int, e_str, e_bl, e_non, e_neg, e_not, e_bin, e_cmp, e_chain, e_and1, e_and2, e_or1, e_or2, e_and, e_or, e_ite, e_T, e_call, e_callv, e_bi, e_isi, e_meth, e_ix, e_slF, e_slT, e_slB, e_slN, e_rev, e_tup, e_lst, e_lc, e_lcIf, es_nil, es_cons, i_val, i_rng1, i_rng2, i_zip, getP_some, getP_map, getP_bind, getP_ite, asI_int, asF_fn, asT_tup, wpE_ok, step_name, step_many, c_eq, c_ne, c_lt, c_le, c_gt, c_ge, c_is, c_isNot, eq_int, eq_bl, eq_str, is_bl, is_nn, is_in, is_bn, is_sn, is_tn, is_ln, is_rn, t_non, t_bl, t_int, t_tup, t_rol, b_add, b_sub, b_mul, b_mod, b_fdiv, b_pow, b_addT, b_addS, b_mulT, b_mulSame, f_lenT, f_lenL, f_abs, f_max, f_min, f_int, f_intB, f_tupT, f_lstT, f_lstR, f_lenR, f_tupR, f_sum, f_all, f_any, f_anyT, f_allT, f_repr, x_tup, x_rol, x_ref, l_tup, l_ref, r_tup, m_app, m_ext, m_pop, m_cnt, p_app, p_ext, p_pop, p_cnt, s_tup, s_rol, s_ref, y_ii, y_ib, y_it, y_il, y_bi, y_bb, y_bt, y_tt, y_ti, y_tb, y_tl, y_ni, y_nt, x_set, a_add, a_sub, g_name, g_many, g_nil, g_cons, startP, wipeP, Tg.slots, List.map_cons, List.map_nil, List.length_cons, List.length_nil, List.replicate_succ, List.replicate_zero, List.cons_append, List.nil_append, List.getElem?_cons_zero, List.getElem?_cons_succ, Option.join_some, List.set_cons_zero, List.set_cons_succ, Bool.true_eq_false, reduceCtorEq, Option.map_some, Option.bind_some, Nat.reduceAdd, Nat.reduceSub, Nat.zero_add, Bool.not_true, Bool.not_false, Bool.false_eq_true, true_implies, false_implies, implies_true, and_true, true_and, not_true_eq_false, not_false_eq_true, decide_eq_true_eq, Bool.not_eq_true', Bool.not_eq_false', decide_eq_false_iff_not, iL_empty, eq_iT, gc_11, gc_0, gc_1, gc_12, getP_none, f_lenL, x_rol, iL_len]
  have fin : ∀ (c : Int), wpS (exSs { call := run GT GC GF d, con := GC, fuel := GF } b0_1 [some (.rol (iL ns)), some (.int spot), some (.int c), none] h) (fun x h => P PV.non h) P (fun x x_1 => False) (fun x x_1 => False) := by
    intro c
    have m : ∀ x : Int, 0 ≤ x % 1152921504606846869 ∧ x % 1152921504606846869 < 1152921504606846869 := fun x => ⟨Int.emod_nonneg _ (by omega), Int.emod_lt_of_pos _ (by omega)⟩
    have l1 : ∀ x : Int, (x % 1152921504606846869).natAbs.log2 < 62 := fun x => log2_lt (by have := m x; omega) (by have := m x; omega) (by omega)
    have l2 : (37 : Int).natAbs.log2 < 10 := by decide
    have l3 : (953 : Int).natAbs.log2 < 10 := by decide
    have l4 : (spot : Int).natAbs.log2 < 20 := log2_lt (by omega) (by omega) (by omega)
    have l5 : (29 : Int).natAbs.log2 < 10 := by decide
    have l6 : (if c < 0 then (1 : Int) else 0).natAbs.log2 < 20 := log2_lt (by split <;> omega) (by split <;> omega) (by omega)
    have p1 : (0 : Int) ≤ 16 ∧ (16 : Int) ≤ 1000000 ∧ (10 : Int).natAbs < 2 ^ 64 := by decide
    have p2 : (0 : Int) ≤ 60 ∧ (60 : Int) ≤ 1000000 ∧ (10 : Int).natAbs < 2 ^ 64 := by decide
    have p3 : ((10 : Int) ^ (60 : Int).toNat).natAbs.log2 + ((10 : Int) ^ (60 : Int).toNat).natAbs.log2 < 1000000 := by decide +kernel
    have p4 : (0 : Int) < (10 : Int) ^ (60 : Int).toNat * (10 : Int) ^ (60 : Int).toNat := by decide +kernel
    simp -implicitDefEqProofs only [w_cons, w_nil, w_set, w_asg, w_par2, w_par3, w_setix, w_aug, w_expr, w_ret, w_retN, w_ifs, w_brk, w_cnt, w_pass, w_raise, w_for, w_whl, e_v, e_gc, e_int, e_str, e_bl, e_non, e_neg, e_not, e_bin, e_cmp, e_chain, e_and1, e_and2, e_or1, e_or2, e_and, e_or, e_ite, e_T, e_call, e_callv, e_bi, e_isi, e_meth, e_ix, e_slF, e_slT, e_slB, e_slN, e_rev, e_tup, e_lst, e_lc, e_lcIf, es_nil, es_cons, i_val, i_rng1, i_rng2, i_zip, getP_some, getP_map, getP_bind, getP_ite, asI_int, asF_fn, asT_tup, wpE_ok, step_name, step_many, c_eq, c_ne, c_lt, c_le, c_gt, c_ge, c_is, c_isNot, eq_int, eq_bl, eq_str, is_bl, is_nn, is_in, is_bn, is_sn, is_tn, is_ln, is_rn, t_non, t_bl, t_int, t_tup, t_rol, b_add, b_sub, b_mul, b_mod, b_fdiv, b_pow, b_addT, b_addS, b_mulT, b_mulSame, f_lenT, f_lenL, f_abs, f_max, f_min, f_int, f_intB, f_tupT, f_lstT, f_lstR, f_lenR, f_tupR, f_sum, f_all, f_any, f_anyT, f_allT, f_repr, x_tup, x_rol, x_ref, l_tup, l_ref, r_tup, m_app, m_ext, m_pop, m_cnt, p_app, p_ext, p_pop, p_cnt, s_tup, s_rol, s_ref, y_ii, y_ib, y_it, y_il, y_bi, y_bb, y_bt, y_tt, y_ti, y_tb, y_tl, y_ni, y_nt, x_set, a_add, a_sub, g_name, g_many, g_nil, g_cons, startP, wipeP, Tg.slots, List.map_cons, List.map_nil, List.length_cons, List.length_nil, List.replicate_succ, List.replicate_zero, List.cons_append, List.nil_append, List.getElem?_cons_zero, List.getElem?_cons_succ, Option.join_some, List.set_cons_zero, List.set_cons_succ, Bool.true_eq_false, reduceCtorEq, Option.map_some, Option.bind_some, Nat.reduceAdd, Nat.reduceSub, Nat.zero_add, Bool.not_true, Bool.not_false, Bool.false_eq_true, true_implies, false_implies, implies_true, and_true, true_and, not_true_eq_false, not_false_eq_true, decide_eq_true_eq, Bool.not_eq_true', Bool.not_eq_false', decide_eq_false_iff_not, iL_empty, eq_iT, gc_11, gc_0, gc_1, gc_12, getP_none, b0_1, b0_2]
    refine ⟨p1, p2, p2, p3, p4, ?_⟩
    have := l1 (if c < 0 then -c else c)
    refine ⟨by omega, by omega, by omega, ?_, by decide, ?_⟩
    · exact Nat.lt_of_le_of_lt (Nat.add_le_add (Nat.le_of_lt l5) (Nat.le_of_lt l6)) (by omega)
    · exact hP _ _ ⟨_, _, _, lst_new, by omega, by decide⟩ (Nat.le_refl _) (Gr.new .refl)
  refine ⟨fun lt => ?_, fun ge => ?_⟩
  · have lt' : spot < ns.length := by omega
    simp -implicitDefEqProofs only [w_cons, w_nil, w_set, w_asg, w_par2, w_par3, w_setix, w_aug, w_expr, w_ret, w_retN, w_ifs, w_brk, w_cnt, w_pass, w_raise, w_for, w_whl, e_v, e_gc, e_int, e_str, e_bl, e_non, e_neg, e_not, e_bin, e_cmp, e_chain, e_and1, e_and2, e_or1, e_or2, e_and, e_or, e_ite, e_T, e_call, e_callv, e_bi, e_isi, e_meth, e_ix, e_slF, e_slT, e_slB, e_slN, e_rev, e_tup, e_lst, e_lc, e_lcIf, es_nil, es_cons, i_val, i_rng1, i_rng2, i_zip, getP_some, getP_map, getP_bind, getP_ite, asI_int, asF_fn, asT_tup, wpE_ok, step_name, step_many, c_eq, c_ne, c_lt, c_le, c_gt, c_ge, c_is, c_isNot, eq_int, eq_bl, eq_str, is_bl, is_nn, is_in, is_bn, is_sn, is_tn, is_ln, is_rn, t_non, t_bl, t_int, t_tup, t_rol, b_add, b_sub, b_mul, b_mod, b_fdiv, b_pow, b_addT, b_addS, b_mulT, b_mulSame, f_lenT, f_lenL, f_abs, f_max, f_min, f_int, f_intB, f_tupT, f_lstT, f_lstR, f_lenR, f_tupR, f_sum, f_all, f_any, f_anyT, f_allT, f_repr, x_tup, x_rol, x_ref, l_tup, l_ref, r_tup, m_app, m_ext, m_pop, m_cnt, p_app, p_ext, p_pop, p_cnt, s_tup, s_rol, s_ref, y_ii, y_ib, y_it, y_il, y_bi, y_bb, y_bt, y_tt, y_ti, y_tb, y_tl, y_ni, y_nt, x_set, a_add, a_sub, g_name, g_many, g_nil, g_cons, startP, wipeP, Tg.slots, List.map_cons, List.map_nil, List.length_cons, List.length_nil, List.replicate_succ, List.replicate_zero, List.cons_append, List.nil_append, List.getElem?_cons_zero, List.getElem?_cons_succ, Option.join_some, List.set_cons_zero, List.set_cons_succ, Bool.true_eq_false, reduceCtorEq, Option.map_some, Option.bind_some, Nat.reduceAdd, Nat.reduceSub, Nat.zero_add, Bool.not_true, Bool.not_false, Bool.false_eq_true, true_implies, false_implies, implies_true, and_true, true_and, not_true_eq_false, not_false_eq_true, decide_eq_true_eq, Bool.not_eq_true', Bool.not_eq_false', decide_eq_false_iff_not, iL_empty, eq_iT, gc_11, gc_0, gc_1, gc_12, getP_none, show L2.atI (iL ns) (spot : Int) = some (.int ns[spot]) from atNat lt', f_int]
    exact fin _
  · refine ⟨?_, fin _⟩
    have l4 : (spot : Int).natAbs.log2 < 20 := log2_lt (by omega) (by omega) (by omega)
    have l5 : (101 : Int).natAbs.log2 < 10 := by decide
    omega
end
end Pi

set_option Elab.async false
set_option linter.all false
set_option maxRecDepth 100000
set_option maxHeartbeats 8000000
/-! identities of words, by words of letters. -/
namespace Wm
theorem un_app (v w : List Int) : un (v ++ w) = un w ++ un v := by simp [un]
theorem sh_cancel (a p b : List Int) : sh (a ++ (p ++ (un p ++ b))) = sh (a ++ b) := by
  unfold sh
  rw [st_app, st_app, st_app, st_un (red_nil.st a), ← st_app]
theorem sh_cancel' (a p b : List Int) : sh (a ++ (un p ++ (p ++ b))) = sh (a ++ b) := by
  have := sh_cancel a (un p) b
  rwa [un_un] at this
/-- the same word -/
def Eqv (v w : List Int) : Prop := sh v = sh w
theorem Eqv.refl (v : List Int) : Eqv v v := rfl
theorem Eqv.symm {v w : List Int} (h : Eqv v w) : Eqv w v := Eq.symm h
theorem Eqv.trans {u v w : List Int} (h : Eqv u v) (k : Eqv v w) : Eqv u w := Eq.trans h k
theorem Eqv.sh (v : List Int) : Eqv (sh v) v := sh_sh v
theorem Eqv.app {v v' w w' : List Int} (h : Eqv v v') (k : Eqv w w') : Eqv (v ++ w) (v' ++ w') := by
  unfold Eqv at *
  rw [← sh_app_l, ← sh_app_r, h, k, sh_app_r, sh_app_l]
theorem Eqv.un {v w : List Int} (h : Eqv v w) : Eqv (un v) (un w) := by
  unfold Eqv at *
  rw [sh_un, sh_un, h]
/-- a letter's word -/
def lt (φ : Nat → List Int) (x : Int) : List Int := if 0 < x then φ x.toNat else if x < 0 then un (φ (-x).toNat) else []
def sub (φ : Nat → List Int) : List Int → List Int
  | [] => []
  | x :: w => lt φ x ++ sub φ w
theorem sub_app (φ : Nat → List Int) (v w : List Int) : sub φ (v ++ w) = sub φ v ++ sub φ w := by
  induction v with
  | nil => rfl
  | cons x v ih => show lt φ x ++ sub φ (v ++ w) = lt φ x ++ sub φ v ++ sub φ w; rw [ih, List.append_assoc]
theorem lt_neg (φ : Nat → List Int) (x : Int) : lt φ (-x) = un (lt φ x) := by
  unfold lt
  by_cases h1 : 0 < x
  · rw [if_neg (by omega), if_pos (by omega), if_pos h1, Int.neg_neg]
  · by_cases h2 : x < 0
    · rw [if_pos (by omega), if_neg h1, if_pos h2, un_un]
    · rw [if_neg (by omega), if_neg (by omega), if_neg h1, if_neg h2]; rfl
theorem sub_push (φ : Nat → List Int) (s : List Int) (x : Int) (r : List Int) : sh (sub φ (push s x).reverse ++ r) = sh (sub φ (s.reverse ++ [x]) ++ r) := by
  cases s with
  | nil => rfl
  | cons y s =>
    by_cases e : y = -x
    · subst e
      have e1 : push (-x :: s) x = s := by simp [push]
      rw [e1, List.reverse_cons, sub_app, sub_app]
      show _ = sh (sub φ s.reverse ++ (lt φ (-x) ++ []) ++ (lt φ x ++ []) ++ r)
      rw [lt_neg, List.append_nil, List.append_nil, List.append_assoc, List.append_assoc, sh_cancel']
    · have e1 : push (y :: s) x = x :: y :: s := by simp [push, e]
      rw [e1, List.reverse_cons]
/-- what is struck of a word of letters is struck of the words -/
theorem sub_sh (φ : Nat → List Int) (w : List Int) : Eqv (sub φ (sh w)) (sub φ w) := by
  have gen : ∀ w s : List Int, sh (sub φ (st s w).reverse) = sh (sub φ (s.reverse ++ w)) := by
    intro w
    induction w with
    | nil => intro s; rw [List.append_nil]; rfl
    | cons x w ih =>
      intro s
      rw [st_cons, ih, sub_app, sub_push, ← sub_app, List.append_assoc]
      rfl
  exact gen w []
theorem sub_eqv {φ : Nat → List Int} {v w : List Int} (h : sh v = sh w) : Eqv (sub φ v) (sub φ w) := by
  have := sub_sh φ v
  rw [h] at this
  exact this.symm.trans (sub_sh φ w)
/-- three words as letters -/
def v3 (x y z : List Int) (n : Nat) : List Int := if n = 1 then x else if n = 2 then y else z
theorem v3_1 (x y z : List Int) : lt (v3 x y z) 1 = x := rfl
theorem v3_2 (x y z : List Int) : lt (v3 x y z) 2 = y := rfl
theorem v3_3 (x y z : List Int) : lt (v3 x y z) 3 = z := rfl
theorem v3_m1 (x y z : List Int) : lt (v3 x y z) (-1) = un x := rfl
theorem v3_m2 (x y z : List Int) : lt (v3 x y z) (-2) = un y := rfl
theorem v3_m3 (x y z : List Int) : lt (v3 x y z) (-3) = un z := rfl
/-- the bracket, a word turned about -/
def br (x y : List Int) : List Int := sh (x ++ y ++ un x ++ un y)
def cj (w u : List Int) : List Int := sh (u ++ w ++ un u)
def pb (x y : List Int) : List Int := sh (un x ++ un y ++ x ++ y)
def rp (x y z : List Int) : List Int := sh (un y ++ pb (pb x (un y)) z ++ y)
theorem br_un (x y : List Int) : br y x = un (br x y) := by
  unfold br
  rw [← sh_un]
  simp only [un_app, un_un, List.append_assoc]
theorem eqv_nil_iff {u v : List Int} : sh (u ++ un v) = [] ↔ sh u = sh v := by
  constructor
  · intro h
    have e1 : Eqv (u ++ un v ++ v) ([] ++ v) := Eqv.app (show Eqv (u ++ un v) [] from h) (.refl v)
    have e2 : sh (u ++ (un v ++ (v ++ []))) = sh (u ++ []) := sh_cancel' u v []
    simp only [List.append_nil] at e2
    have e3 : sh (u ++ un v ++ v) = sh v := e1
    rw [← e3, List.append_assoc, e2]
  · intro h
    have e1 : Eqv (u ++ un v) (v ++ un v) := Eqv.app h (.refl _)
    have e2 : sh ([] ++ (v ++ (un v ++ []))) = sh ([] ++ []) := sh_cancel [] v []
    rw [List.append_nil, List.nil_append] at e2
    exact Eq.trans e1 e2
theorem br_nil_iff (x y : List Int) : br x y = [] ↔ sh (x ++ y) = sh (y ++ x) := by
  rw [← eqv_nil_iff]
  unfold br
  rw [un_app]
  simp only [List.append_assoc]
theorem br_self (x : List Int) : br x (x ++ x) = [] := by
  have h : sh [1, 1, 1, -1, -1, -1] = sh [] := by decide
  have := sub_eqv (φ := v3 x x x) h
  simp only [sub, v3_1, v3_m1, List.append_nil] at this
  unfold br
  simp only [un_app, List.append_assoc]
  exact this
theorem br_eqv {x x' y y' : List Int} (h : Eqv x x') (k : Eqv y y') : br x y = br x' y' := (((h.app k).app h.un).app k.un)
theorem cj_eqv {x x' y y' : List Int} (h : Eqv x x') (k : Eqv y y') : cj x y = cj x' y' := ((k.app h).app k.un)
theorem pb_eqv {x x' y y' : List Int} (h : Eqv x x') (k : Eqv y y') : pb x y = pb x' y' := (((h.un.app k.un).app h).app k)
theorem br_cj (x y z : List Int) : br (cj x z) (cj y z) = cj (br x y) z := by
  rw [show br (cj x z) (cj y z) = br (z ++ x ++ un z) (z ++ y ++ un z) from br_eqv (Eqv.sh _) (Eqv.sh _), show cj (br x y) z = cj (x ++ y ++ un x ++ un y) z from cj_eqv (Eqv.sh _) (.refl _)]
  have h : sh [3, 1, -3, 3, 2, -3, 3, -1, -3, 3, -2, -3] = sh [3, 1, 2, -1, -2, -3] := by decide
  have := sub_eqv (φ := v3 x y z) h
  simp only [sub, v3_1, v3_2, v3_3, v3_m1, v3_m2, v3_m3, List.append_nil] at this
  unfold br cj
  simp only [un_app, un_un, List.append_assoc]
  exact this
theorem br_app (x y z : List Int) : br x (y ++ z) = sh (br x y ++ cj (br x z) y) := by
  have e : Eqv (br x y ++ cj (br x z) y) ((x ++ y ++ un x ++ un y) ++ (y ++ (x ++ z ++ un x ++ un z) ++ un y)) := Eqv.app (Eqv.sh _) ((Eqv.sh _).trans (((Eqv.refl _).app (Eqv.sh _)).app (.refl _)))
  rw [show sh (br x y ++ cj (br x z) y) = _ from e]
  have h : sh [1, 2, 3, -1, -3, -2] = sh [1, 2, -1, -2, 2, 1, 3, -1, -3, -2] := by decide
  have := sub_eqv (φ := v3 x y z) h
  simp only [sub, v3_1, v3_2, v3_3, v3_m1, v3_m2, v3_m3, List.append_nil] at this
  unfold br
  simp only [un_app, un_un, List.append_assoc]
  exact this
def rpw (x y z : List Int) : List Int := un y ++ (un (un x ++ y ++ x ++ un y) ++ un z ++ (un x ++ y ++ x ++ un y) ++ z) ++ y
theorem rp_eqv (x y z : List Int) : Eqv (rp x y z) (rpw x y z) := by
  refine (Eqv.sh _).trans (((Eqv.refl _).app ?_).app (.refl _))
  have e1 : Eqv (pb x (un y)) (un x ++ y ++ x ++ un y) := by
    have := Eqv.sh (un x ++ un (un y) ++ x ++ un y)
    unfold pb
    rwa [un_un] at this ⊢
  exact (Eqv.sh _).trans (((e1.un.app (.refl _)).app e1).app (.refl _))
theorem round_nil (x y z : List Int) : sh (rp x y z ++ rp y z x ++ rp z x y) = [] := by
  have e : Eqv (rp x y z ++ rp y z x ++ rp z x y) (rpw x y z ++ rpw y z x ++ rpw z x y) := ((rp_eqv x y z).app (rp_eqv y z x)).app (rp_eqv z x y)
  have h : sh (([-2, 2, -1, -2, 1, -3, -1, 2, 1, -2, 3, 2] ++ [-3, 3, -2, -3, 2, -1, -2, 3, 2, -3, 1, 3]) ++ [-1, 1, -3, -1, 3, -2, -3, 1, 3, -1, 2, 1]) = sh [] := by decide
  have := sub_eqv (φ := v3 x y z) h
  simp only [List.cons_append, List.nil_append, sub, v3_1, v3_2, v3_3, v3_m1, v3_m2, v3_m3, List.append_nil] at this
  refine Eq.trans e ?_
  unfold rpw
  simp only [un_app, un_un, List.append_assoc]
  exact this
theorem cnt_app (a : Int) (v w : List Int) : cnt a (v ++ w) = cnt a v + cnt a w := by
  unfold cnt
  rw [List.count_append, List.count_append]
  omega
theorem cnt_un (a : Int) (w : List Int) : cnt a (un w) = -cnt a w := by
  have h : ∀ (a : Int) (w : List Int), (w.map (- ·)).count a = w.count (-a) := by
    intro a w
    induction w with
    | nil => rfl
    | cons x w ih =>
      rw [List.map_cons, List.count_cons, List.count_cons, ih]
      by_cases e : x = -a
      · subst e; simp
      · have : ¬ (-x = a) := by omega
        simp [e, this]
  unfold cnt un
  rw [h, h, List.count_reverse, List.count_reverse, Int.neg_neg]
  omega
theorem cnt_br {a : Int} (ha : a ≠ 0) (x y : List Int) : cnt a (br x y) = 0 := by
  unfold br
  rw [cnt_sh ha, cnt_app, cnt_app, cnt_app, cnt_un, cnt_un]
  omega
end Wm

-- w_cons, w_nil, w_set, w_asg, w_par2, w_par3, w_setix, w_aug, w_expr, w_ret, w_retN, w_ifs, w_brk, w_cnt, w_pass, w_raise, w_for, w_whl, e_v, e_gc, e_int, e_str, e_bl, e_non, e_neg, e_not, e_bin, e_cmp, e_chain, e_and1, e_and2, e_or1, e_or2, e_and, e_or, e_ite, e_T, e_call, e_callv, e_bi, e_isi, e_meth, e_ix, e_slF, e_slT, e_slB, e_slN, e_rev, e_tup, e_lst, e_lc, e_lcIf, es_nil, es_cons, i_val, i_rng1, i_rng2, i_zip, getP_some, getP_map, getP_bind, getP_ite, asI_int, asF_fn, asT_tup, wpE_ok, step_name, step_many, c_eq, c_ne, c_lt, c_le, c_gt, c_ge, c_is, c_isNot, eq_int, eq_bl, eq_str, is_bl, is_nn, is_in, is_bn, is_sn, is_tn, is_ln, is_rn, t_non, t_bl, t_int, t_tup, t_rol, b_add, b_sub, b_mul, b_mod, b_fdiv, b_pow, b_addT, b_addS, b_mulT, b_mulSame, f_lenT, f_lenL, f_abs, f_max, f_min, f_int, f_intB, f_tupT, f_lstT, f_lstR, f_lenR, f_tupR, f_sum, f_all, f_any, f_anyT, f_allT, f_repr, x_tup, x_rol, x_ref, l_tup, l_ref, r_tup, m_app, m_ext, m_pop, m_cnt, p_app, p_ext, p_pop, p_cnt, s_tup, s_rol, s_ref, y_ii, y_ib, y_it, y_il, y_bi, y_bb, y_bt, y_tt, y_ti, y_tb, y_tl, y_ni, y_nt, x_set, a_add, a_sub, g_name, g_many, g_nil, g_cons, startP, wipeP, Tg.slots, List.map_cons, List.map_nil, List.length_cons, List.length_nil, List.replicate_succ, List.replicate_zero, List.cons_append, List.nil_append, List.getElem?_cons_zero, List.getElem?_cons_succ, Option.join_some, List.set_cons_zero, List.set_cons_succ, Bool.true_eq_false, reduceCtorEq, Option.map_some, Option.bind_some, Nat.reduceAdd, Nat.reduceSub, Nat.zero_add, Bool.not_true, Bool.not_false, Bool.false_eq_true, true_implies, false_implies, implies_true, and_true, true_and, not_true_eq_false, not_false_eq_true, decide_eq_true_eq, Bool.not_eq_true', Bool.not_eq_false', decide_eq_false_iff_not, iL_empty, eq_iT, gc_11, gc_0, gc_1, gc_12, gc_1202, gc_1203, getP_none+: gc_11 gc_0 gc_1 gc_12 gc_1202 gc_1203
set_option Elab.async false
set_option linter.all false
set_option maxRecDepth 100000
set_option maxHeartbeats 8000000
/-! runs: brackets. -/
namespace Pi
open PySem Wm
section
variable {d : Nat} {h : IH} {P : PV → IH → Prop}
theorem sp_product_inR (m : Nat) (ws : List (List Int)) (hm : lstAt h m = some (wL ws)) (hl : ws.flatten.length < 1000000) (hl2 : ws.length < 1000000) (hP : ∀ h', Gr [] h h' → P (iT (sh ws.flatten)) h') : wpE (run GT GC GF (d + 1) 22 [.ref m] h) P := by
  rw [run_in (F := F22) rfl rfl]
  simp -implicitDefEqProofs only [F22, b22_0, b22_1, w_cons, w_nil, w_set, w_asg, w_par2, w_par3, w_setix, w_aug, w_expr, w_ret, w_retN, w_ifs, w_brk, w_cnt, w_pass, w_raise, w_for, w_whl, e_v, e_gc, e_int, e_str, e_bl, e_non, e_neg, e_not, e_bin, e_cmp, e_chain, e_and1, e_and2, e_or1, e_or2, e_and, e_or, e_ite, e_T, e_call, e_callv, e_bi, e_isi, e_meth, e_ix, e_slF, e_slT, e_slB, e_slN, e_rev, e_tup, e_lst, e_lc, e_lcIf, es_nil, es_cons, i_val, i_rng1, i_rng2, i_zip, getP_some, getP_map, getP_bind, getP_ite, asI_int, asF_fn, asT_tup, wpE_ok, step_name, step_many, c_eq, c_ne, c_lt, c_le, c_gt, c_ge, c_is, c_isNot, eq_int, eq_bl, eq_str, is_bl, is_nn, is_in, is_bn, is_sn, is_tn, is_ln, is_rn, t_non, t_bl, t_int, t_tup, t_rol, b_add, b_sub, b_mul, b_mod, b_fdiv, b_pow, b_addT, b_addS, b_mulT, b_mulSame, f_lenT, f_lenL, f_abs, f_max, f_min, f_int, f_intB, f_tupT, f_lstT, f_lstR, f_lenR, f_tupR, f_sum, f_all, f_any, f_anyT, f_allT, f_repr, x_tup, x_rol, x_ref, l_tup, l_ref, r_tup, m_app, m_ext, m_pop, m_cnt, p_app, p_ext, p_pop, p_cnt, s_tup, s_rol, s_ref, y_ii, y_ib, y_it, y_il, y_bi, y_bb, y_bt, y_tt, y_ti, y_tb, y_tl, y_ni, y_nt, x_set, a_add, a_sub, g_name, g_many, g_nil, g_cons, startP, wipeP, Tg.slots, List.map_cons, List.map_nil, List.length_cons, List.length_nil, List.replicate_succ, List.replicate_zero, List.cons_append, List.nil_append, List.getElem?_cons_zero, List.getElem?_cons_succ, Option.join_some, List.set_cons_zero, List.set_cons_succ, Bool.true_eq_false, reduceCtorEq, Option.map_some, Option.bind_some, Nat.reduceAdd, Nat.reduceSub, Nat.zero_add, Bool.not_true, Bool.not_false, Bool.false_eq_true, true_implies, false_implies, implies_true, and_true, true_and, not_true_eq_false, not_false_eq_true, decide_eq_true_eq, Bool.not_eq_true', Bool.not_eq_false', decide_eq_false_iff_not, iL_empty, eq_iT, gc_11, gc_0, gc_1, gc_12, gc_1202, gc_1203, getP_none, show lstAt (h ++ [Cell.lst []]) m = some (wL ws) by rw [lst_old (lstAt_lt hm)]; exact hm]
  refine ⟨Nat.zero_le _, ?_⟩
  refine for_lst (xs := wL ws) (fun i ρ h' => ∃ o o', ρ = [some (.ref m), some (.ref h.length), o, o'] ∧ lstAt h' h.length = some (iL (st [] (ws.take i).flatten).reverse) ∧ Gr [] h h') ⟨none, none, rfl, lst_new, Gr.new .refl⟩ (fun i ρ h' hI => by obtain ⟨_, _, _, _, hg⟩ := hI; exact hg.at hm (by simp)) (fun i x ρ h' hx hI => ?_) (fun ρ h' hI => ?_) (gf (by rw [wL_len]; omega))
  · obtain ⟨o, o', rfl, hs, hg⟩ := hI
    obtain ⟨w, hw, rfl⟩ := wL_get hx
    have lt : i < ws.length := (List.getElem?_eq_some_iff.mp hw).1
    have el : ∀ j, (ws.take i).flatten.length + (w.take j).length ≤ ws.flatten.length := fun j => by
      have e1 : ws = ws.take i ++ w :: ws.drop (i + 1) := by
        conv => lhs; rw [← List.take_append_drop i ws, List.drop_eq_getElem_cons lt]
        rw [(List.getElem?_eq_some_iff.mp hw).2]
      have e2 : ws.flatten.length = (ws.take i).flatten.length + w.length + (ws.drop (i + 1)).flatten.length := by
        conv => lhs; rw [e1]
        simp [Nat.add_assoc]
      rw [List.length_take] at *
      omega
    simp -implicitDefEqProofs only [w_cons, w_nil, w_set, w_asg, w_par2, w_par3, w_setix, w_aug, w_expr, w_ret, w_retN, w_ifs, w_brk, w_cnt, w_pass, w_raise, w_for, w_whl, e_v, e_gc, e_int, e_str, e_bl, e_non, e_neg, e_not, e_bin, e_cmp, e_chain, e_and1, e_and2, e_or1, e_or2, e_and, e_or, e_ite, e_T, e_call, e_callv, e_bi, e_isi, e_meth, e_ix, e_slF, e_slT, e_slB, e_slN, e_rev, e_tup, e_lst, e_lc, e_lcIf, es_nil, es_cons, i_val, i_rng1, i_rng2, i_zip, getP_some, getP_map, getP_bind, getP_ite, asI_int, asF_fn, asT_tup, wpE_ok, step_name, step_many, c_eq, c_ne, c_lt, c_le, c_gt, c_ge, c_is, c_isNot, eq_int, eq_bl, eq_str, is_bl, is_nn, is_in, is_bn, is_sn, is_tn, is_ln, is_rn, t_non, t_bl, t_int, t_tup, t_rol, b_add, b_sub, b_mul, b_mod, b_fdiv, b_pow, b_addT, b_addS, b_mulT, b_mulSame, f_lenT, f_lenL, f_abs, f_max, f_min, f_int, f_intB, f_tupT, f_lstT, f_lstR, f_lenR, f_tupR, f_sum, f_all, f_any, f_anyT, f_allT, f_repr, x_tup, x_rol, x_ref, l_tup, l_ref, r_tup, m_app, m_ext, m_pop, m_cnt, p_app, p_ext, p_pop, p_cnt, s_tup, s_rol, s_ref, y_ii, y_ib, y_it, y_il, y_bi, y_bb, y_bt, y_tt, y_ti, y_tb, y_tl, y_ni, y_nt, x_set, a_add, a_sub, g_name, g_many, g_nil, g_cons, startP, wipeP, Tg.slots, List.map_cons, List.map_nil, List.length_cons, List.length_nil, List.replicate_succ, List.replicate_zero, List.cons_append, List.nil_append, List.getElem?_cons_zero, List.getElem?_cons_succ, Option.join_some, List.set_cons_zero, List.set_cons_succ, Bool.true_eq_false, reduceCtorEq, Option.map_some, Option.bind_some, Nat.reduceAdd, Nat.reduceSub, Nat.zero_add, Bool.not_true, Bool.not_false, Bool.false_eq_true, true_implies, false_implies, implies_true, and_true, true_and, not_true_eq_false, not_false_eq_true, decide_eq_true_eq, Bool.not_eq_true', Bool.not_eq_false', decide_eq_false_iff_not, iL_empty, eq_iT, gc_11, gc_0, gc_1, gc_12, gc_1202, gc_1203, getP_none, l22_0_0]
    refine for_fix (fun j ρ h'' => ∃ o', ρ = [some (.ref m), some (.ref h.length), some (iT w), o'] ∧ lstAt h'' h.length = some (iL (st [] ((ws.take i).flatten ++ w.take j)).reverse) ∧ Gr [] h h'') ⟨o', rfl, by simpa using hs, hg⟩ (fun j x ρ h'' hx hI => ?_) (fun ρ h'' hI => ?_) (gf (by rw [iL_len]; have := el w.length; rw [List.take_length] at this; omega))
    · obtain ⟨o', rfl, hs, hg⟩ := hI
      obtain ⟨z, hz, rfl⟩ := iL_get hx
      simp only [g_name, getP_some, l22_1_0, w_cons, w_nil, List.set_cons_zero, List.set_cons_succ]
      refine push_neg (s := st [] ((ws.take i).flatten ++ w.take j)) (x := z) (n := h.length) rfl rfl hs ?_ fun h3 hg' hs' => ?_
      · have := st_len ((ws.take i).flatten ++ w.take j) []
        have := el j
        simp only [List.length_append, List.length_nil] at *
        omega
      · refine ⟨_, rfl, ?_, ⟨Nat.le_trans hg.1 hg'.1, fun k hk _ => by rw [hg'.2 k (Nat.lt_of_lt_of_le hk hg.1) (by simp; omega)]; exact hg.2 k hk (by simp)⟩⟩
        rw [List.take_add_one, hz, Option.toList, ← List.append_assoc, st_snoc]
        exact hs'
    · obtain ⟨o', rfl, hs, hg⟩ := hI
      rw [iL_len, List.take_length] at hs
      refine ⟨_, _, rfl, ?_, hg⟩
      rw [List.take_add_one, hw, Option.toList, List.flatten_append]
      simpa using hs
  · obtain ⟨o, o', rfl, hs, hg⟩ := hI
    rw [wL_len, List.take_length] at hs
    simp -implicitDefEqProofs only [b22_2, w_cons, w_nil, w_set, w_asg, w_par2, w_par3, w_setix, w_aug, w_expr, w_ret, w_retN, w_ifs, w_brk, w_cnt, w_pass, w_raise, w_for, w_whl, e_v, e_gc, e_int, e_str, e_bl, e_non, e_neg, e_not, e_bin, e_cmp, e_chain, e_and1, e_and2, e_or1, e_or2, e_and, e_or, e_ite, e_T, e_call, e_callv, e_bi, e_isi, e_meth, e_ix, e_slF, e_slT, e_slB, e_slN, e_rev, e_tup, e_lst, e_lc, e_lcIf, es_nil, es_cons, i_val, i_rng1, i_rng2, i_zip, getP_some, getP_map, getP_bind, getP_ite, asI_int, asF_fn, asT_tup, wpE_ok, step_name, step_many, c_eq, c_ne, c_lt, c_le, c_gt, c_ge, c_is, c_isNot, eq_int, eq_bl, eq_str, is_bl, is_nn, is_in, is_bn, is_sn, is_tn, is_ln, is_rn, t_non, t_bl, t_int, t_tup, t_rol, b_add, b_sub, b_mul, b_mod, b_fdiv, b_pow, b_addT, b_addS, b_mulT, b_mulSame, f_lenT, f_lenL, f_abs, f_max, f_min, f_int, f_intB, f_tupT, f_lstT, f_lstR, f_lenR, f_tupR, f_sum, f_all, f_any, f_anyT, f_allT, f_repr, x_tup, x_rol, x_ref, l_tup, l_ref, r_tup, m_app, m_ext, m_pop, m_cnt, p_app, p_ext, p_pop, p_cnt, s_tup, s_rol, s_ref, y_ii, y_ib, y_it, y_il, y_bi, y_bb, y_bt, y_tt, y_ti, y_tb, y_tl, y_ni, y_nt, x_set, a_add, a_sub, g_name, g_many, g_nil, g_cons, startP, wipeP, Tg.slots, List.map_cons, List.map_nil, List.length_cons, List.length_nil, List.replicate_succ, List.replicate_zero, List.cons_append, List.nil_append, List.getElem?_cons_zero, List.getElem?_cons_succ, Option.join_some, List.set_cons_zero, List.set_cons_succ, Bool.true_eq_false, reduceCtorEq, Option.map_some, Option.bind_some, Nat.reduceAdd, Nat.reduceSub, Nat.zero_add, Bool.not_true, Bool.not_false, Bool.false_eq_true, true_implies, false_implies, implies_true, and_true, true_and, not_true_eq_false, not_false_eq_true, decide_eq_true_eq, Bool.not_eq_true', Bool.not_eq_false', decide_eq_false_iff_not, iL_empty, eq_iT, gc_11, gc_0, gc_1, gc_12, gc_1202, gc_1203, getP_none, hs]
    exact hP _ hg
theorem sp_law_productR (m : Nat) (ws : List (List Int)) (hm : lstAt h m = some (wL ws)) (hl : ws.flatten.length < 1000000) (hl2 : ws.length < 1000000) (hP : ∀ h', Gr [] h h' → P (iT (sh ws.flatten)) h') : wpE (run GT GC GF (d + 2) 42 [.ref m] h) P := by
  rw [run_in (F := F42) rfl rfl]
  simp -implicitDefEqProofs only [F42, b42_0, b42_1, w_cons, w_nil, w_set, w_asg, w_par2, w_par3, w_setix, w_aug, w_expr, w_ret, w_retN, w_ifs, w_brk, w_cnt, w_pass, w_raise, w_for, w_whl, e_v, e_gc, e_int, e_str, e_bl, e_non, e_neg, e_not, e_bin, e_cmp, e_chain, e_and1, e_and2, e_or1, e_or2, e_and, e_or, e_ite, e_T, e_call, e_callv, e_bi, e_isi, e_meth, e_ix, e_slF, e_slT, e_slB, e_slN, e_rev, e_tup, e_lst, e_lc, e_lcIf, es_nil, es_cons, i_val, i_rng1, i_rng2, i_zip, getP_some, getP_map, getP_bind, getP_ite, asI_int, asF_fn, asT_tup, wpE_ok, step_name, step_many, c_eq, c_ne, c_lt, c_le, c_gt, c_ge, c_is, c_isNot, eq_int, eq_bl, eq_str, is_bl, is_nn, is_in, is_bn, is_sn, is_tn, is_ln, is_rn, t_non, t_bl, t_int, t_tup, t_rol, b_add, b_sub, b_mul, b_mod, b_fdiv, b_pow, b_addT, b_addS, b_mulT, b_mulSame, f_lenT, f_lenL, f_abs, f_max, f_min, f_int, f_intB, f_tupT, f_lstT, f_lstR, f_lenR, f_tupR, f_sum, f_all, f_any, f_anyT, f_allT, f_repr, x_tup, x_rol, x_ref, l_tup, l_ref, r_tup, m_app, m_ext, m_pop, m_cnt, p_app, p_ext, p_pop, p_cnt, s_tup, s_rol, s_ref, y_ii, y_ib, y_it, y_il, y_bi, y_bb, y_bt, y_tt, y_ti, y_tb, y_tl, y_ni, y_nt, x_set, a_add, a_sub, g_name, g_many, g_nil, g_cons, startP, wipeP, Tg.slots, List.map_cons, List.map_nil, List.length_cons, List.length_nil, List.replicate_succ, List.replicate_zero, List.cons_append, List.nil_append, List.getElem?_cons_zero, List.getElem?_cons_succ, Option.join_some, List.set_cons_zero, List.set_cons_succ, Bool.true_eq_false, reduceCtorEq, Option.map_some, Option.bind_some, Nat.reduceAdd, Nat.reduceSub, Nat.zero_add, Bool.not_true, Bool.not_false, Bool.false_eq_true, true_implies, false_implies, implies_true, and_true, true_and, not_true_eq_false, not_false_eq_true, decide_eq_true_eq, Bool.not_eq_true', Bool.not_eq_false', decide_eq_false_iff_not, iL_empty, eq_iT, gc_11, gc_0, gc_1, gc_12, gc_1202, gc_1203, getP_none, hm]
  refine ⟨Nat.zero_le _, ?_⟩
  refine for_lst (xs := wL ws) (fun i ρ h' => ∃ o, ρ = [some (.ref m), some (iT (sh (ws.take i).flatten)), o] ∧ Gr [] h h') ⟨none, rfl, .refl⟩ (fun i ρ h' hI => by obtain ⟨_, _, hg⟩ := hI; exact hg.at hm (by simp)) (fun i x ρ h' hx hI => ?_) (fun ρ h' hI => ?_) (gf (by rw [wL_len]; omega))
  · obtain ⟨o, rfl, hg⟩ := hI
    obtain ⟨w, hw, rfl⟩ := wL_get hx
    have lt : i < ws.length := (List.getElem?_eq_some_iff.mp hw).1
    have e2 : (ws.take (i + 1)).flatten = (ws.take i).flatten ++ w := by rw [List.take_add_one, hw]; simp
    have el : (ws.take i).flatten.length + w.length ≤ ws.flatten.length := by
      have e1 : ws.flatten = (ws.take (i + 1)).flatten ++ (ws.drop (i + 1)).flatten := by rw [← List.flatten_append, List.take_append_drop]
      have := congrArg List.length e1
      rw [e2, List.length_append, List.length_append] at this
      omega
    have sl := sh_len (ws.take i).flatten
    simp -implicitDefEqProofs only [w_cons, w_nil, w_set, w_asg, w_par2, w_par3, w_setix, w_aug, w_expr, w_ret, w_retN, w_ifs, w_brk, w_cnt, w_pass, w_raise, w_for, w_whl, e_v, e_gc, e_int, e_str, e_bl, e_non, e_neg, e_not, e_bin, e_cmp, e_chain, e_and1, e_and2, e_or1, e_or2, e_and, e_or, e_ite, e_T, e_call, e_callv, e_bi, e_isi, e_meth, e_ix, e_slF, e_slT, e_slB, e_slN, e_rev, e_tup, e_lst, e_lc, e_lcIf, es_nil, es_cons, i_val, i_rng1, i_rng2, i_zip, getP_some, getP_map, getP_bind, getP_ite, asI_int, asF_fn, asT_tup, wpE_ok, step_name, step_many, c_eq, c_ne, c_lt, c_le, c_gt, c_ge, c_is, c_isNot, eq_int, eq_bl, eq_str, is_bl, is_nn, is_in, is_bn, is_sn, is_tn, is_ln, is_rn, t_non, t_bl, t_int, t_tup, t_rol, b_add, b_sub, b_mul, b_mod, b_fdiv, b_pow, b_addT, b_addS, b_mulT, b_mulSame, f_lenT, f_lenL, f_abs, f_max, f_min, f_int, f_intB, f_tupT, f_lstT, f_lstR, f_lenR, f_tupR, f_sum, f_all, f_any, f_anyT, f_allT, f_repr, x_tup, x_rol, x_ref, l_tup, l_ref, r_tup, m_app, m_ext, m_pop, m_cnt, p_app, p_ext, p_pop, p_cnt, s_tup, s_rol, s_ref, y_ii, y_ib, y_it, y_il, y_bi, y_bb, y_bt, y_tt, y_ti, y_tb, y_tl, y_ni, y_nt, x_set, a_add, a_sub, g_name, g_many, g_nil, g_cons, startP, wipeP, Tg.slots, List.map_cons, List.map_nil, List.length_cons, List.length_nil, List.replicate_succ, List.replicate_zero, List.cons_append, List.nil_append, List.getElem?_cons_zero, List.getElem?_cons_succ, Option.join_some, List.set_cons_zero, List.set_cons_succ, Bool.true_eq_false, reduceCtorEq, Option.map_some, Option.bind_some, Nat.reduceAdd, Nat.reduceSub, Nat.zero_add, Bool.not_true, Bool.not_false, Bool.false_eq_true, true_implies, false_implies, implies_true, and_true, true_and, not_true_eq_false, not_false_eq_true, decide_eq_true_eq, Bool.not_eq_true', Bool.not_eq_false', decide_eq_false_iff_not, iL_empty, eq_iT, gc_11, gc_0, gc_1, gc_12, gc_1202, gc_1203, getP_none, l42_0_0, ← iL_app]
    refine ⟨sz (by rw [iL_len, iL_len]; omega), sp_law_short _ (by rw [List.length_append]; omega) fun h'' hg' => ?_⟩
    rw [sh_app_l, ← e2]
    exact ⟨_, rfl, hg.trans hg'⟩
  · obtain ⟨o, rfl, hg⟩ := hI
    rw [wL_len, List.take_length]
    simp -implicitDefEqProofs only [b42_2, w_cons, w_nil, w_set, w_asg, w_par2, w_par3, w_setix, w_aug, w_expr, w_ret, w_retN, w_ifs, w_brk, w_cnt, w_pass, w_raise, w_for, w_whl, e_v, e_gc, e_int, e_str, e_bl, e_non, e_neg, e_not, e_bin, e_cmp, e_chain, e_and1, e_and2, e_or1, e_or2, e_and, e_or, e_ite, e_T, e_call, e_callv, e_bi, e_isi, e_meth, e_ix, e_slF, e_slT, e_slB, e_slN, e_rev, e_tup, e_lst, e_lc, e_lcIf, es_nil, es_cons, i_val, i_rng1, i_rng2, i_zip, getP_some, getP_map, getP_bind, getP_ite, asI_int, asF_fn, asT_tup, wpE_ok, step_name, step_many, c_eq, c_ne, c_lt, c_le, c_gt, c_ge, c_is, c_isNot, eq_int, eq_bl, eq_str, is_bl, is_nn, is_in, is_bn, is_sn, is_tn, is_ln, is_rn, t_non, t_bl, t_int, t_tup, t_rol, b_add, b_sub, b_mul, b_mod, b_fdiv, b_pow, b_addT, b_addS, b_mulT, b_mulSame, f_lenT, f_lenL, f_abs, f_max, f_min, f_int, f_intB, f_tupT, f_lstT, f_lstR, f_lenR, f_tupR, f_sum, f_all, f_any, f_anyT, f_allT, f_repr, x_tup, x_rol, x_ref, l_tup, l_ref, r_tup, m_app, m_ext, m_pop, m_cnt, p_app, p_ext, p_pop, p_cnt, s_tup, s_rol, s_ref, y_ii, y_ib, y_it, y_il, y_bi, y_bb, y_bt, y_tt, y_ti, y_tb, y_tl, y_ni, y_nt, x_set, a_add, a_sub, g_name, g_many, g_nil, g_cons, startP, wipeP, Tg.slots, List.map_cons, List.map_nil, List.length_cons, List.length_nil, List.replicate_succ, List.replicate_zero, List.cons_append, List.nil_append, List.getElem?_cons_zero, List.getElem?_cons_succ, Option.join_some, List.set_cons_zero, List.set_cons_succ, Bool.true_eq_false, reduceCtorEq, Option.map_some, Option.bind_some, Nat.reduceAdd, Nat.reduceSub, Nat.zero_add, Bool.not_true, Bool.not_false, Bool.false_eq_true, true_implies, false_implies, implies_true, and_true, true_and, not_true_eq_false, not_false_eq_true, decide_eq_true_eq, Bool.not_eq_true', Bool.not_eq_false', decide_eq_false_iff_not, iL_empty, eq_iT, gc_11, gc_0, gc_1, gc_12, gc_1202, gc_1203, getP_none]
    exact hP _ hg
theorem sp_bracket_in (x y : List Int) (hx : x.length < 100000) (hy : y.length < 100000) (hP : ∀ h', Gr [] h h' → P (iT (br x y)) h') : wpE (run GT GC GF (d + 2) 2714 [iT x, iT y] h) P := by
  rw [run_in (F := F2714) rfl rfl]
  simp -implicitDefEqProofs only [F2714, b2714_0, w_cons, w_nil, w_set, w_asg, w_par2, w_par3, w_setix, w_aug, w_expr, w_ret, w_retN, w_ifs, w_brk, w_cnt, w_pass, w_raise, w_for, w_whl, e_v, e_gc, e_int, e_str, e_bl, e_non, e_neg, e_not, e_bin, e_cmp, e_chain, e_and1, e_and2, e_or1, e_or2, e_and, e_or, e_ite, e_T, e_call, e_callv, e_bi, e_isi, e_meth, e_ix, e_slF, e_slT, e_slB, e_slN, e_rev, e_tup, e_lst, e_lc, e_lcIf, es_nil, es_cons, i_val, i_rng1, i_rng2, i_zip, getP_some, getP_map, getP_bind, getP_ite, asI_int, asF_fn, asT_tup, wpE_ok, step_name, step_many, c_eq, c_ne, c_lt, c_le, c_gt, c_ge, c_is, c_isNot, eq_int, eq_bl, eq_str, is_bl, is_nn, is_in, is_bn, is_sn, is_tn, is_ln, is_rn, t_non, t_bl, t_int, t_tup, t_rol, b_add, b_sub, b_mul, b_mod, b_fdiv, b_pow, b_addT, b_addS, b_mulT, b_mulSame, f_lenT, f_lenL, f_abs, f_max, f_min, f_int, f_intB, f_tupT, f_lstT, f_lstR, f_lenR, f_tupR, f_sum, f_all, f_any, f_anyT, f_allT, f_repr, x_tup, x_rol, x_ref, l_tup, l_ref, r_tup, m_app, m_ext, m_pop, m_cnt, p_app, p_ext, p_pop, p_cnt, s_tup, s_rol, s_ref, y_ii, y_ib, y_it, y_il, y_bi, y_bb, y_bt, y_tt, y_ti, y_tb, y_tl, y_ni, y_nt, x_set, a_add, a_sub, g_name, g_many, g_nil, g_cons, startP, wipeP, Tg.slots, List.map_cons, List.map_nil, List.length_cons, List.length_nil, List.replicate_succ, List.replicate_zero, List.cons_append, List.nil_append, List.getElem?_cons_zero, List.getElem?_cons_succ, Option.join_some, List.set_cons_zero, List.set_cons_succ, Bool.true_eq_false, reduceCtorEq, Option.map_some, Option.bind_some, Nat.reduceAdd, Nat.reduceSub, Nat.zero_add, Bool.not_true, Bool.not_false, Bool.false_eq_true, true_implies, false_implies, implies_true, and_true, true_and, not_true_eq_false, not_false_eq_true, decide_eq_true_eq, Bool.not_eq_true', Bool.not_eq_false', decide_eq_false_iff_not, iL_empty, eq_iT, gc_11, gc_0, gc_1, gc_12, gc_1202, gc_1203, getP_none]
  refine sp_undone_in x (by omega) fun h1 g1 => ?_
  (try simp -implicitDefEqProofs only [w_cons, w_nil, w_set, w_asg, w_par2, w_par3, w_setix, w_aug, w_expr, w_ret, w_retN, w_ifs, w_brk, w_cnt, w_pass, w_raise, w_for, w_whl, e_v, e_gc, e_int, e_str, e_bl, e_non, e_neg, e_not, e_bin, e_cmp, e_chain, e_and1, e_and2, e_or1, e_or2, e_and, e_or, e_ite, e_T, e_call, e_callv, e_bi, e_isi, e_meth, e_ix, e_slF, e_slT, e_slB, e_slN, e_rev, e_tup, e_lst, e_lc, e_lcIf, es_nil, es_cons, i_val, i_rng1, i_rng2, i_zip, getP_some, getP_map, getP_bind, getP_ite, asI_int, asF_fn, asT_tup, wpE_ok, step_name, step_many, c_eq, c_ne, c_lt, c_le, c_gt, c_ge, c_is, c_isNot, eq_int, eq_bl, eq_str, is_bl, is_nn, is_in, is_bn, is_sn, is_tn, is_ln, is_rn, t_non, t_bl, t_int, t_tup, t_rol, b_add, b_sub, b_mul, b_mod, b_fdiv, b_pow, b_addT, b_addS, b_mulT, b_mulSame, f_lenT, f_lenL, f_abs, f_max, f_min, f_int, f_intB, f_tupT, f_lstT, f_lstR, f_lenR, f_tupR, f_sum, f_all, f_any, f_anyT, f_allT, f_repr, x_tup, x_rol, x_ref, l_tup, l_ref, r_tup, m_app, m_ext, m_pop, m_cnt, p_app, p_ext, p_pop, p_cnt, s_tup, s_rol, s_ref, y_ii, y_ib, y_it, y_il, y_bi, y_bb, y_bt, y_tt, y_ti, y_tb, y_tl, y_ni, y_nt, x_set, a_add, a_sub, g_name, g_many, g_nil, g_cons, startP, wipeP, Tg.slots, List.map_cons, List.map_nil, List.length_cons, List.length_nil, List.replicate_succ, List.replicate_zero, List.cons_append, List.nil_append, List.getElem?_cons_zero, List.getElem?_cons_succ, Option.join_some, List.set_cons_zero, List.set_cons_succ, Bool.true_eq_false, reduceCtorEq, Option.map_some, Option.bind_some, Nat.reduceAdd, Nat.reduceSub, Nat.zero_add, Bool.not_true, Bool.not_false, Bool.false_eq_true, true_implies, false_implies, implies_true, and_true, true_and, not_true_eq_false, not_false_eq_true, decide_eq_true_eq, Bool.not_eq_true', Bool.not_eq_false', decide_eq_false_iff_not, iL_empty, eq_iT, gc_11, gc_0, gc_1, gc_12, gc_1202, gc_1203, getP_none])
  refine sp_undone_in y (by omega) fun h2 g2 => ?_
  (try simp -implicitDefEqProofs only [w_cons, w_nil, w_set, w_asg, w_par2, w_par3, w_setix, w_aug, w_expr, w_ret, w_retN, w_ifs, w_brk, w_cnt, w_pass, w_raise, w_for, w_whl, e_v, e_gc, e_int, e_str, e_bl, e_non, e_neg, e_not, e_bin, e_cmp, e_chain, e_and1, e_and2, e_or1, e_or2, e_and, e_or, e_ite, e_T, e_call, e_callv, e_bi, e_isi, e_meth, e_ix, e_slF, e_slT, e_slB, e_slN, e_rev, e_tup, e_lst, e_lc, e_lcIf, es_nil, es_cons, i_val, i_rng1, i_rng2, i_zip, getP_some, getP_map, getP_bind, getP_ite, asI_int, asF_fn, asT_tup, wpE_ok, step_name, step_many, c_eq, c_ne, c_lt, c_le, c_gt, c_ge, c_is, c_isNot, eq_int, eq_bl, eq_str, is_bl, is_nn, is_in, is_bn, is_sn, is_tn, is_ln, is_rn, t_non, t_bl, t_int, t_tup, t_rol, b_add, b_sub, b_mul, b_mod, b_fdiv, b_pow, b_addT, b_addS, b_mulT, b_mulSame, f_lenT, f_lenL, f_abs, f_max, f_min, f_int, f_intB, f_tupT, f_lstT, f_lstR, f_lenR, f_tupR, f_sum, f_all, f_any, f_anyT, f_allT, f_repr, x_tup, x_rol, x_ref, l_tup, l_ref, r_tup, m_app, m_ext, m_pop, m_cnt, p_app, p_ext, p_pop, p_cnt, s_tup, s_rol, s_ref, y_ii, y_ib, y_it, y_il, y_bi, y_bb, y_bt, y_tt, y_ti, y_tb, y_tl, y_ni, y_nt, x_set, a_add, a_sub, g_name, g_many, g_nil, g_cons, startP, wipeP, Tg.slots, List.map_cons, List.map_nil, List.length_cons, List.length_nil, List.replicate_succ, List.replicate_zero, List.cons_append, List.nil_append, List.getElem?_cons_zero, List.getElem?_cons_succ, Option.join_some, List.set_cons_zero, List.set_cons_succ, Bool.true_eq_false, reduceCtorEq, Option.map_some, Option.bind_some, Nat.reduceAdd, Nat.reduceSub, Nat.zero_add, Bool.not_true, Bool.not_false, Bool.false_eq_true, true_implies, false_implies, implies_true, and_true, true_and, not_true_eq_false, not_false_eq_true, decide_eq_true_eq, Bool.not_eq_true', Bool.not_eq_false', decide_eq_false_iff_not, iL_empty, eq_iT, gc_11, gc_0, gc_1, gc_12, gc_1202, gc_1203, getP_none])
  refine ⟨by decide, ?_⟩
  refine sp_product_inR h2.length [x, y, un x, un y] lst_new (by simp [un_len]; omega) (by simp) fun h3 g3 => ?_
  have e : sh [x, y, un x, un y].flatten = br x y := by simp [br]
  rw [e]
  exact hP _ ((g1.trans g2).new.trans g3)
theorem sp_turned_word (w u : List Int) (hx : w.length < 100000) (hy : u.length < 100000) (hP : ∀ h', Gr [] h h' → P (iT (cj w u)) h') : wpE (run GT GC GF (d + 2) 2715 [iT w, iT u] h) P := by
  rw [run_in (F := F2715) rfl rfl]
  simp -implicitDefEqProofs only [F2715, b2715_0, w_cons, w_nil, w_set, w_asg, w_par2, w_par3, w_setix, w_aug, w_expr, w_ret, w_retN, w_ifs, w_brk, w_cnt, w_pass, w_raise, w_for, w_whl, e_v, e_gc, e_int, e_str, e_bl, e_non, e_neg, e_not, e_bin, e_cmp, e_chain, e_and1, e_and2, e_or1, e_or2, e_and, e_or, e_ite, e_T, e_call, e_callv, e_bi, e_isi, e_meth, e_ix, e_slF, e_slT, e_slB, e_slN, e_rev, e_tup, e_lst, e_lc, e_lcIf, es_nil, es_cons, i_val, i_rng1, i_rng2, i_zip, getP_some, getP_map, getP_bind, getP_ite, asI_int, asF_fn, asT_tup, wpE_ok, step_name, step_many, c_eq, c_ne, c_lt, c_le, c_gt, c_ge, c_is, c_isNot, eq_int, eq_bl, eq_str, is_bl, is_nn, is_in, is_bn, is_sn, is_tn, is_ln, is_rn, t_non, t_bl, t_int, t_tup, t_rol, b_add, b_sub, b_mul, b_mod, b_fdiv, b_pow, b_addT, b_addS, b_mulT, b_mulSame, f_lenT, f_lenL, f_abs, f_max, f_min, f_int, f_intB, f_tupT, f_lstT, f_lstR, f_lenR, f_tupR, f_sum, f_all, f_any, f_anyT, f_allT, f_repr, x_tup, x_rol, x_ref, l_tup, l_ref, r_tup, m_app, m_ext, m_pop, m_cnt, p_app, p_ext, p_pop, p_cnt, s_tup, s_rol, s_ref, y_ii, y_ib, y_it, y_il, y_bi, y_bb, y_bt, y_tt, y_ti, y_tb, y_tl, y_ni, y_nt, x_set, a_add, a_sub, g_name, g_many, g_nil, g_cons, startP, wipeP, Tg.slots, List.map_cons, List.map_nil, List.length_cons, List.length_nil, List.replicate_succ, List.replicate_zero, List.cons_append, List.nil_append, List.getElem?_cons_zero, List.getElem?_cons_succ, Option.join_some, List.set_cons_zero, List.set_cons_succ, Bool.true_eq_false, reduceCtorEq, Option.map_some, Option.bind_some, Nat.reduceAdd, Nat.reduceSub, Nat.zero_add, Bool.not_true, Bool.not_false, Bool.false_eq_true, true_implies, false_implies, implies_true, and_true, true_and, not_true_eq_false, not_false_eq_true, decide_eq_true_eq, Bool.not_eq_true', Bool.not_eq_false', decide_eq_false_iff_not, iL_empty, eq_iT, gc_11, gc_0, gc_1, gc_12, gc_1202, gc_1203, getP_none]
  refine sp_undone_in u (by omega) fun h1 g1 => ?_
  (try simp -implicitDefEqProofs only [w_cons, w_nil, w_set, w_asg, w_par2, w_par3, w_setix, w_aug, w_expr, w_ret, w_retN, w_ifs, w_brk, w_cnt, w_pass, w_raise, w_for, w_whl, e_v, e_gc, e_int, e_str, e_bl, e_non, e_neg, e_not, e_bin, e_cmp, e_chain, e_and1, e_and2, e_or1, e_or2, e_and, e_or, e_ite, e_T, e_call, e_callv, e_bi, e_isi, e_meth, e_ix, e_slF, e_slT, e_slB, e_slN, e_rev, e_tup, e_lst, e_lc, e_lcIf, es_nil, es_cons, i_val, i_rng1, i_rng2, i_zip, getP_some, getP_map, getP_bind, getP_ite, asI_int, asF_fn, asT_tup, wpE_ok, step_name, step_many, c_eq, c_ne, c_lt, c_le, c_gt, c_ge, c_is, c_isNot, eq_int, eq_bl, eq_str, is_bl, is_nn, is_in, is_bn, is_sn, is_tn, is_ln, is_rn, t_non, t_bl, t_int, t_tup, t_rol, b_add, b_sub, b_mul, b_mod, b_fdiv, b_pow, b_addT, b_addS, b_mulT, b_mulSame, f_lenT, f_lenL, f_abs, f_max, f_min, f_int, f_intB, f_tupT, f_lstT, f_lstR, f_lenR, f_tupR, f_sum, f_all, f_any, f_anyT, f_allT, f_repr, x_tup, x_rol, x_ref, l_tup, l_ref, r_tup, m_app, m_ext, m_pop, m_cnt, p_app, p_ext, p_pop, p_cnt, s_tup, s_rol, s_ref, y_ii, y_ib, y_it, y_il, y_bi, y_bb, y_bt, y_tt, y_ti, y_tb, y_tl, y_ni, y_nt, x_set, a_add, a_sub, g_name, g_many, g_nil, g_cons, startP, wipeP, Tg.slots, List.map_cons, List.map_nil, List.length_cons, List.length_nil, List.replicate_succ, List.replicate_zero, List.cons_append, List.nil_append, List.getElem?_cons_zero, List.getElem?_cons_succ, Option.join_some, List.set_cons_zero, List.set_cons_succ, Bool.true_eq_false, reduceCtorEq, Option.map_some, Option.bind_some, Nat.reduceAdd, Nat.reduceSub, Nat.zero_add, Bool.not_true, Bool.not_false, Bool.false_eq_true, true_implies, false_implies, implies_true, and_true, true_and, not_true_eq_false, not_false_eq_true, decide_eq_true_eq, Bool.not_eq_true', Bool.not_eq_false', decide_eq_false_iff_not, iL_empty, eq_iT, gc_11, gc_0, gc_1, gc_12, gc_1202, gc_1203, getP_none])
  refine ⟨by decide, ?_⟩
  refine sp_product_inR h1.length [u, w, un u] lst_new (by simp [un_len]; omega) (by simp) fun h3 g3 => ?_
  have e : sh [u, w, un u].flatten = cj w u := by simp [cj]
  rw [e]
  exact hP _ (g1.new.trans g3)
theorem bools_ints : ∀ w : List Int, bools (iL w) = some (w.map (· != 0))
  | [] => rfl
  | x :: w => by rw [iL_cons, bools, bools_ints w]; rfl
def noC (r : Nat) (w : List Int) : Bool := !(cts r w).any (· != 0)
theorem sp_has_no_counts_in (r : Nat) (w : List Int) (hr : r < 1000) (hP : ∀ h', Gr [] h h' → P (.bl (noC r w)) h') : wpE (run GT GC GF (d + 2) 2716 [.int r, iT w] h) P := by
  rw [run_in (F := F2716) rfl rfl]
  simp -implicitDefEqProofs only [F2716, b2716_0, w_cons, w_nil, w_set, w_asg, w_par2, w_par3, w_setix, w_aug, w_expr, w_ret, w_retN, w_ifs, w_brk, w_cnt, w_pass, w_raise, w_for, w_whl, e_v, e_gc, e_int, e_str, e_bl, e_non, e_neg, e_not, e_bin, e_cmp, e_chain, e_and1, e_and2, e_or1, e_or2, e_and, e_or, e_ite, e_T, e_call, e_callv, e_bi, e_isi, e_meth, e_ix, e_slF, e_slT, e_slB, e_slN, e_rev, e_tup, e_lst, e_lc, e_lcIf, es_nil, es_cons, i_val, i_rng1, i_rng2, i_zip, getP_some, getP_map, getP_bind, getP_ite, asI_int, asF_fn, asT_tup, wpE_ok, step_name, step_many, c_eq, c_ne, c_lt, c_le, c_gt, c_ge, c_is, c_isNot, eq_int, eq_bl, eq_str, is_bl, is_nn, is_in, is_bn, is_sn, is_tn, is_ln, is_rn, t_non, t_bl, t_int, t_tup, t_rol, b_add, b_sub, b_mul, b_mod, b_fdiv, b_pow, b_addT, b_addS, b_mulT, b_mulSame, f_lenT, f_lenL, f_abs, f_max, f_min, f_int, f_intB, f_tupT, f_lstT, f_lstR, f_lenR, f_tupR, f_sum, f_all, f_any, f_anyT, f_allT, f_repr, x_tup, x_rol, x_ref, l_tup, l_ref, r_tup, m_app, m_ext, m_pop, m_cnt, p_app, p_ext, p_pop, p_cnt, s_tup, s_rol, s_ref, y_ii, y_ib, y_it, y_il, y_bi, y_bb, y_bt, y_tt, y_ti, y_tb, y_tl, y_ni, y_nt, x_set, a_add, a_sub, g_name, g_many, g_nil, g_cons, startP, wipeP, Tg.slots, List.map_cons, List.map_nil, List.length_cons, List.length_nil, List.replicate_succ, List.replicate_zero, List.cons_append, List.nil_append, List.getElem?_cons_zero, List.getElem?_cons_succ, Option.join_some, List.set_cons_zero, List.set_cons_succ, Bool.true_eq_false, reduceCtorEq, Option.map_some, Option.bind_some, Nat.reduceAdd, Nat.reduceSub, Nat.zero_add, Bool.not_true, Bool.not_false, Bool.false_eq_true, true_implies, false_implies, implies_true, and_true, true_and, not_true_eq_false, not_false_eq_true, decide_eq_true_eq, Bool.not_eq_true', Bool.not_eq_false', decide_eq_false_iff_not, iL_empty, eq_iT, gc_11, gc_0, gc_1, gc_12, gc_1202, gc_1203, getP_none]
  refine sp_counts_in r w (by omega) fun h1 g1 => ?_
  simp -implicitDefEqProofs only [w_cons, w_nil, w_set, w_asg, w_par2, w_par3, w_setix, w_aug, w_expr, w_ret, w_retN, w_ifs, w_brk, w_cnt, w_pass, w_raise, w_for, w_whl, e_v, e_gc, e_int, e_str, e_bl, e_non, e_neg, e_not, e_bin, e_cmp, e_chain, e_and1, e_and2, e_or1, e_or2, e_and, e_or, e_ite, e_T, e_call, e_callv, e_bi, e_isi, e_meth, e_ix, e_slF, e_slT, e_slB, e_slN, e_rev, e_tup, e_lst, e_lc, e_lcIf, es_nil, es_cons, i_val, i_rng1, i_rng2, i_zip, getP_some, getP_map, getP_bind, getP_ite, asI_int, asF_fn, asT_tup, wpE_ok, step_name, step_many, c_eq, c_ne, c_lt, c_le, c_gt, c_ge, c_is, c_isNot, eq_int, eq_bl, eq_str, is_bl, is_nn, is_in, is_bn, is_sn, is_tn, is_ln, is_rn, t_non, t_bl, t_int, t_tup, t_rol, b_add, b_sub, b_mul, b_mod, b_fdiv, b_pow, b_addT, b_addS, b_mulT, b_mulSame, f_lenT, f_lenL, f_abs, f_max, f_min, f_int, f_intB, f_tupT, f_lstT, f_lstR, f_lenR, f_tupR, f_sum, f_all, f_any, f_anyT, f_allT, f_repr, x_tup, x_rol, x_ref, l_tup, l_ref, r_tup, m_app, m_ext, m_pop, m_cnt, p_app, p_ext, p_pop, p_cnt, s_tup, s_rol, s_ref, y_ii, y_ib, y_it, y_il, y_bi, y_bb, y_bt, y_tt, y_ti, y_tb, y_tl, y_ni, y_nt, x_set, a_add, a_sub, g_name, g_many, g_nil, g_cons, startP, wipeP, Tg.slots, List.map_cons, List.map_nil, List.length_cons, List.length_nil, List.replicate_succ, List.replicate_zero, List.cons_append, List.nil_append, List.getElem?_cons_zero, List.getElem?_cons_succ, Option.join_some, List.set_cons_zero, List.set_cons_succ, Bool.true_eq_false, reduceCtorEq, Option.map_some, Option.bind_some, Nat.reduceAdd, Nat.reduceSub, Nat.zero_add, Bool.not_true, Bool.not_false, Bool.false_eq_true, true_implies, false_implies, implies_true, and_true, true_and, not_true_eq_false, not_false_eq_true, decide_eq_true_eq, Bool.not_eq_true', Bool.not_eq_false', decide_eq_false_iff_not, iL_empty, eq_iT, gc_11, gc_0, gc_1, gc_12, gc_1202, gc_1203, getP_none, bools_ints, List.any_map]
  exact hP _ g1
theorem sp_plain_bracket (x y : List Int) (hx : x.length < 100000) (hy : y.length < 100000) (hP : ∀ h', Gr [] h h' → P (iT (pb x y)) h') : wpE (run GT GC GF (d + 2) 2718 [iT x, iT y] h) P := by
  rw [run_in (F := F2718) rfl rfl]
  simp -implicitDefEqProofs only [F2718, b2718_0, w_cons, w_nil, w_set, w_asg, w_par2, w_par3, w_setix, w_aug, w_expr, w_ret, w_retN, w_ifs, w_brk, w_cnt, w_pass, w_raise, w_for, w_whl, e_v, e_gc, e_int, e_str, e_bl, e_non, e_neg, e_not, e_bin, e_cmp, e_chain, e_and1, e_and2, e_or1, e_or2, e_and, e_or, e_ite, e_T, e_call, e_callv, e_bi, e_isi, e_meth, e_ix, e_slF, e_slT, e_slB, e_slN, e_rev, e_tup, e_lst, e_lc, e_lcIf, es_nil, es_cons, i_val, i_rng1, i_rng2, i_zip, getP_some, getP_map, getP_bind, getP_ite, asI_int, asF_fn, asT_tup, wpE_ok, step_name, step_many, c_eq, c_ne, c_lt, c_le, c_gt, c_ge, c_is, c_isNot, eq_int, eq_bl, eq_str, is_bl, is_nn, is_in, is_bn, is_sn, is_tn, is_ln, is_rn, t_non, t_bl, t_int, t_tup, t_rol, b_add, b_sub, b_mul, b_mod, b_fdiv, b_pow, b_addT, b_addS, b_mulT, b_mulSame, f_lenT, f_lenL, f_abs, f_max, f_min, f_int, f_intB, f_tupT, f_lstT, f_lstR, f_lenR, f_tupR, f_sum, f_all, f_any, f_anyT, f_allT, f_repr, x_tup, x_rol, x_ref, l_tup, l_ref, r_tup, m_app, m_ext, m_pop, m_cnt, p_app, p_ext, p_pop, p_cnt, s_tup, s_rol, s_ref, y_ii, y_ib, y_it, y_il, y_bi, y_bb, y_bt, y_tt, y_ti, y_tb, y_tl, y_ni, y_nt, x_set, a_add, a_sub, g_name, g_many, g_nil, g_cons, startP, wipeP, Tg.slots, List.map_cons, List.map_nil, List.length_cons, List.length_nil, List.replicate_succ, List.replicate_zero, List.cons_append, List.nil_append, List.getElem?_cons_zero, List.getElem?_cons_succ, Option.join_some, List.set_cons_zero, List.set_cons_succ, Bool.true_eq_false, reduceCtorEq, Option.map_some, Option.bind_some, Nat.reduceAdd, Nat.reduceSub, Nat.zero_add, Bool.not_true, Bool.not_false, Bool.false_eq_true, true_implies, false_implies, implies_true, and_true, true_and, not_true_eq_false, not_false_eq_true, decide_eq_true_eq, Bool.not_eq_true', Bool.not_eq_false', decide_eq_false_iff_not, iL_empty, eq_iT, gc_11, gc_0, gc_1, gc_12, gc_1202, gc_1203, getP_none]
  refine sp_undone_in x (by omega) fun h1 g1 => ?_
  (try simp -implicitDefEqProofs only [w_cons, w_nil, w_set, w_asg, w_par2, w_par3, w_setix, w_aug, w_expr, w_ret, w_retN, w_ifs, w_brk, w_cnt, w_pass, w_raise, w_for, w_whl, e_v, e_gc, e_int, e_str, e_bl, e_non, e_neg, e_not, e_bin, e_cmp, e_chain, e_and1, e_and2, e_or1, e_or2, e_and, e_or, e_ite, e_T, e_call, e_callv, e_bi, e_isi, e_meth, e_ix, e_slF, e_slT, e_slB, e_slN, e_rev, e_tup, e_lst, e_lc, e_lcIf, es_nil, es_cons, i_val, i_rng1, i_rng2, i_zip, getP_some, getP_map, getP_bind, getP_ite, asI_int, asF_fn, asT_tup, wpE_ok, step_name, step_many, c_eq, c_ne, c_lt, c_le, c_gt, c_ge, c_is, c_isNot, eq_int, eq_bl, eq_str, is_bl, is_nn, is_in, is_bn, is_sn, is_tn, is_ln, is_rn, t_non, t_bl, t_int, t_tup, t_rol, b_add, b_sub, b_mul, b_mod, b_fdiv, b_pow, b_addT, b_addS, b_mulT, b_mulSame, f_lenT, f_lenL, f_abs, f_max, f_min, f_int, f_intB, f_tupT, f_lstT, f_lstR, f_lenR, f_tupR, f_sum, f_all, f_any, f_anyT, f_allT, f_repr, x_tup, x_rol, x_ref, l_tup, l_ref, r_tup, m_app, m_ext, m_pop, m_cnt, p_app, p_ext, p_pop, p_cnt, s_tup, s_rol, s_ref, y_ii, y_ib, y_it, y_il, y_bi, y_bb, y_bt, y_tt, y_ti, y_tb, y_tl, y_ni, y_nt, x_set, a_add, a_sub, g_name, g_many, g_nil, g_cons, startP, wipeP, Tg.slots, List.map_cons, List.map_nil, List.length_cons, List.length_nil, List.replicate_succ, List.replicate_zero, List.cons_append, List.nil_append, List.getElem?_cons_zero, List.getElem?_cons_succ, Option.join_some, List.set_cons_zero, List.set_cons_succ, Bool.true_eq_false, reduceCtorEq, Option.map_some, Option.bind_some, Nat.reduceAdd, Nat.reduceSub, Nat.zero_add, Bool.not_true, Bool.not_false, Bool.false_eq_true, true_implies, false_implies, implies_true, and_true, true_and, not_true_eq_false, not_false_eq_true, decide_eq_true_eq, Bool.not_eq_true', Bool.not_eq_false', decide_eq_false_iff_not, iL_empty, eq_iT, gc_11, gc_0, gc_1, gc_12, gc_1202, gc_1203, getP_none])
  refine sp_undone_in y (by omega) fun h2 g2 => ?_
  (try simp -implicitDefEqProofs only [w_cons, w_nil, w_set, w_asg, w_par2, w_par3, w_setix, w_aug, w_expr, w_ret, w_retN, w_ifs, w_brk, w_cnt, w_pass, w_raise, w_for, w_whl, e_v, e_gc, e_int, e_str, e_bl, e_non, e_neg, e_not, e_bin, e_cmp, e_chain, e_and1, e_and2, e_or1, e_or2, e_and, e_or, e_ite, e_T, e_call, e_callv, e_bi, e_isi, e_meth, e_ix, e_slF, e_slT, e_slB, e_slN, e_rev, e_tup, e_lst, e_lc, e_lcIf, es_nil, es_cons, i_val, i_rng1, i_rng2, i_zip, getP_some, getP_map, getP_bind, getP_ite, asI_int, asF_fn, asT_tup, wpE_ok, step_name, step_many, c_eq, c_ne, c_lt, c_le, c_gt, c_ge, c_is, c_isNot, eq_int, eq_bl, eq_str, is_bl, is_nn, is_in, is_bn, is_sn, is_tn, is_ln, is_rn, t_non, t_bl, t_int, t_tup, t_rol, b_add, b_sub, b_mul, b_mod, b_fdiv, b_pow, b_addT, b_addS, b_mulT, b_mulSame, f_lenT, f_lenL, f_abs, f_max, f_min, f_int, f_intB, f_tupT, f_lstT, f_lstR, f_lenR, f_tupR, f_sum, f_all, f_any, f_anyT, f_allT, f_repr, x_tup, x_rol, x_ref, l_tup, l_ref, r_tup, m_app, m_ext, m_pop, m_cnt, p_app, p_ext, p_pop, p_cnt, s_tup, s_rol, s_ref, y_ii, y_ib, y_it, y_il, y_bi, y_bb, y_bt, y_tt, y_ti, y_tb, y_tl, y_ni, y_nt, x_set, a_add, a_sub, g_name, g_many, g_nil, g_cons, startP, wipeP, Tg.slots, List.map_cons, List.map_nil, List.length_cons, List.length_nil, List.replicate_succ, List.replicate_zero, List.cons_append, List.nil_append, List.getElem?_cons_zero, List.getElem?_cons_succ, Option.join_some, List.set_cons_zero, List.set_cons_succ, Bool.true_eq_false, reduceCtorEq, Option.map_some, Option.bind_some, Nat.reduceAdd, Nat.reduceSub, Nat.zero_add, Bool.not_true, Bool.not_false, Bool.false_eq_true, true_implies, false_implies, implies_true, and_true, true_and, not_true_eq_false, not_false_eq_true, decide_eq_true_eq, Bool.not_eq_true', Bool.not_eq_false', decide_eq_false_iff_not, iL_empty, eq_iT, gc_11, gc_0, gc_1, gc_12, gc_1202, gc_1203, getP_none])
  refine ⟨by decide, ?_⟩
  refine sp_product_inR h2.length [un x, un y, x, y] lst_new (by simp [un_len]; omega) (by simp) fun h3 g3 => ?_
  have e : sh [un x, un y, x, y].flatten = pb x y := by simp [pb]
  rw [e]
  exact hP _ ((g1.trans g2).new.trans g3)
theorem pb_len (x y : List Int) : (pb x y).length ≤ 2 * x.length + 2 * y.length := by
  have := sh_len (un x ++ un y ++ x ++ y)
  simp only [List.length_append, un_len] at this
  unfold pb
  omega
theorem br_len (x y : List Int) : (br x y).length ≤ 2 * x.length + 2 * y.length := by
  have := sh_len (x ++ y ++ un x ++ un y)
  simp only [List.length_append, un_len] at this
  unfold br
  omega
theorem cj_len (x y : List Int) : (cj x y).length ≤ x.length + 2 * y.length := by
  have := sh_len (y ++ x ++ un y)
  simp only [List.length_append, un_len] at this
  unfold cj
  omega
theorem sp_rule_part (x y z : List Int) (hx : x.length < 1000) (hy : y.length < 1000) (hz : z.length < 1000) (hP : ∀ h', Gr [] h h' → P (iT (rp x y z)) h') : wpE (run GT GC GF (d + 3) 2719 [iT x, iT y, iT z] h) P := by
  rw [run_in (F := F2719) rfl rfl]
  simp -implicitDefEqProofs only [F2719, b2719_0, w_cons, w_nil, w_set, w_asg, w_par2, w_par3, w_setix, w_aug, w_expr, w_ret, w_retN, w_ifs, w_brk, w_cnt, w_pass, w_raise, w_for, w_whl, e_v, e_gc, e_int, e_str, e_bl, e_non, e_neg, e_not, e_bin, e_cmp, e_chain, e_and1, e_and2, e_or1, e_or2, e_and, e_or, e_ite, e_T, e_call, e_callv, e_bi, e_isi, e_meth, e_ix, e_slF, e_slT, e_slB, e_slN, e_rev, e_tup, e_lst, e_lc, e_lcIf, es_nil, es_cons, i_val, i_rng1, i_rng2, i_zip, getP_some, getP_map, getP_bind, getP_ite, asI_int, asF_fn, asT_tup, wpE_ok, step_name, step_many, c_eq, c_ne, c_lt, c_le, c_gt, c_ge, c_is, c_isNot, eq_int, eq_bl, eq_str, is_bl, is_nn, is_in, is_bn, is_sn, is_tn, is_ln, is_rn, t_non, t_bl, t_int, t_tup, t_rol, b_add, b_sub, b_mul, b_mod, b_fdiv, b_pow, b_addT, b_addS, b_mulT, b_mulSame, f_lenT, f_lenL, f_abs, f_max, f_min, f_int, f_intB, f_tupT, f_lstT, f_lstR, f_lenR, f_tupR, f_sum, f_all, f_any, f_anyT, f_allT, f_repr, x_tup, x_rol, x_ref, l_tup, l_ref, r_tup, m_app, m_ext, m_pop, m_cnt, p_app, p_ext, p_pop, p_cnt, s_tup, s_rol, s_ref, y_ii, y_ib, y_it, y_il, y_bi, y_bb, y_bt, y_tt, y_ti, y_tb, y_tl, y_ni, y_nt, x_set, a_add, a_sub, g_name, g_many, g_nil, g_cons, startP, wipeP, Tg.slots, List.map_cons, List.map_nil, List.length_cons, List.length_nil, List.replicate_succ, List.replicate_zero, List.cons_append, List.nil_append, List.getElem?_cons_zero, List.getElem?_cons_succ, Option.join_some, List.set_cons_zero, List.set_cons_succ, Bool.true_eq_false, reduceCtorEq, Option.map_some, Option.bind_some, Nat.reduceAdd, Nat.reduceSub, Nat.zero_add, Bool.not_true, Bool.not_false, Bool.false_eq_true, true_implies, false_implies, implies_true, and_true, true_and, not_true_eq_false, not_false_eq_true, decide_eq_true_eq, Bool.not_eq_true', Bool.not_eq_false', decide_eq_false_iff_not, iL_empty, eq_iT, gc_11, gc_0, gc_1, gc_12, gc_1202, gc_1203, getP_none]
  have l1 := pb_len x (un y)
  rw [un_len] at l1
  have l2 := pb_len (pb x (un y)) z
  refine sp_undone_in y (by omega) fun h1 g1 => ?_
  (try simp -implicitDefEqProofs only [w_cons, w_nil, w_set, w_asg, w_par2, w_par3, w_setix, w_aug, w_expr, w_ret, w_retN, w_ifs, w_brk, w_cnt, w_pass, w_raise, w_for, w_whl, e_v, e_gc, e_int, e_str, e_bl, e_non, e_neg, e_not, e_bin, e_cmp, e_chain, e_and1, e_and2, e_or1, e_or2, e_and, e_or, e_ite, e_T, e_call, e_callv, e_bi, e_isi, e_meth, e_ix, e_slF, e_slT, e_slB, e_slN, e_rev, e_tup, e_lst, e_lc, e_lcIf, es_nil, es_cons, i_val, i_rng1, i_rng2, i_zip, getP_some, getP_map, getP_bind, getP_ite, asI_int, asF_fn, asT_tup, wpE_ok, step_name, step_many, c_eq, c_ne, c_lt, c_le, c_gt, c_ge, c_is, c_isNot, eq_int, eq_bl, eq_str, is_bl, is_nn, is_in, is_bn, is_sn, is_tn, is_ln, is_rn, t_non, t_bl, t_int, t_tup, t_rol, b_add, b_sub, b_mul, b_mod, b_fdiv, b_pow, b_addT, b_addS, b_mulT, b_mulSame, f_lenT, f_lenL, f_abs, f_max, f_min, f_int, f_intB, f_tupT, f_lstT, f_lstR, f_lenR, f_tupR, f_sum, f_all, f_any, f_anyT, f_allT, f_repr, x_tup, x_rol, x_ref, l_tup, l_ref, r_tup, m_app, m_ext, m_pop, m_cnt, p_app, p_ext, p_pop, p_cnt, s_tup, s_rol, s_ref, y_ii, y_ib, y_it, y_il, y_bi, y_bb, y_bt, y_tt, y_ti, y_tb, y_tl, y_ni, y_nt, x_set, a_add, a_sub, g_name, g_many, g_nil, g_cons, startP, wipeP, Tg.slots, List.map_cons, List.map_nil, List.length_cons, List.length_nil, List.replicate_succ, List.replicate_zero, List.cons_append, List.nil_append, List.getElem?_cons_zero, List.getElem?_cons_succ, Option.join_some, List.set_cons_zero, List.set_cons_succ, Bool.true_eq_false, reduceCtorEq, Option.map_some, Option.bind_some, Nat.reduceAdd, Nat.reduceSub, Nat.zero_add, Bool.not_true, Bool.not_false, Bool.false_eq_true, true_implies, false_implies, implies_true, and_true, true_and, not_true_eq_false, not_false_eq_true, decide_eq_true_eq, Bool.not_eq_true', Bool.not_eq_false', decide_eq_false_iff_not, iL_empty, eq_iT, gc_11, gc_0, gc_1, gc_12, gc_1202, gc_1203, getP_none])
  refine sp_plain_bracket x (un y) (by omega) (by rw [un_len]; omega) fun h2 g2 => ?_
  (try simp -implicitDefEqProofs only [w_cons, w_nil, w_set, w_asg, w_par2, w_par3, w_setix, w_aug, w_expr, w_ret, w_retN, w_ifs, w_brk, w_cnt, w_pass, w_raise, w_for, w_whl, e_v, e_gc, e_int, e_str, e_bl, e_non, e_neg, e_not, e_bin, e_cmp, e_chain, e_and1, e_and2, e_or1, e_or2, e_and, e_or, e_ite, e_T, e_call, e_callv, e_bi, e_isi, e_meth, e_ix, e_slF, e_slT, e_slB, e_slN, e_rev, e_tup, e_lst, e_lc, e_lcIf, es_nil, es_cons, i_val, i_rng1, i_rng2, i_zip, getP_some, getP_map, getP_bind, getP_ite, asI_int, asF_fn, asT_tup, wpE_ok, step_name, step_many, c_eq, c_ne, c_lt, c_le, c_gt, c_ge, c_is, c_isNot, eq_int, eq_bl, eq_str, is_bl, is_nn, is_in, is_bn, is_sn, is_tn, is_ln, is_rn, t_non, t_bl, t_int, t_tup, t_rol, b_add, b_sub, b_mul, b_mod, b_fdiv, b_pow, b_addT, b_addS, b_mulT, b_mulSame, f_lenT, f_lenL, f_abs, f_max, f_min, f_int, f_intB, f_tupT, f_lstT, f_lstR, f_lenR, f_tupR, f_sum, f_all, f_any, f_anyT, f_allT, f_repr, x_tup, x_rol, x_ref, l_tup, l_ref, r_tup, m_app, m_ext, m_pop, m_cnt, p_app, p_ext, p_pop, p_cnt, s_tup, s_rol, s_ref, y_ii, y_ib, y_it, y_il, y_bi, y_bb, y_bt, y_tt, y_ti, y_tb, y_tl, y_ni, y_nt, x_set, a_add, a_sub, g_name, g_many, g_nil, g_cons, startP, wipeP, Tg.slots, List.map_cons, List.map_nil, List.length_cons, List.length_nil, List.replicate_succ, List.replicate_zero, List.cons_append, List.nil_append, List.getElem?_cons_zero, List.getElem?_cons_succ, Option.join_some, List.set_cons_zero, List.set_cons_succ, Bool.true_eq_false, reduceCtorEq, Option.map_some, Option.bind_some, Nat.reduceAdd, Nat.reduceSub, Nat.zero_add, Bool.not_true, Bool.not_false, Bool.false_eq_true, true_implies, false_implies, implies_true, and_true, true_and, not_true_eq_false, not_false_eq_true, decide_eq_true_eq, Bool.not_eq_true', Bool.not_eq_false', decide_eq_false_iff_not, iL_empty, eq_iT, gc_11, gc_0, gc_1, gc_12, gc_1202, gc_1203, getP_none])
  refine sp_plain_bracket (pb x (un y)) z (by omega) (by omega) fun h3 g3 => ?_
  simp -implicitDefEqProofs only [w_cons, w_nil, w_set, w_asg, w_par2, w_par3, w_setix, w_aug, w_expr, w_ret, w_retN, w_ifs, w_brk, w_cnt, w_pass, w_raise, w_for, w_whl, e_v, e_gc, e_int, e_str, e_bl, e_non, e_neg, e_not, e_bin, e_cmp, e_chain, e_and1, e_and2, e_or1, e_or2, e_and, e_or, e_ite, e_T, e_call, e_callv, e_bi, e_isi, e_meth, e_ix, e_slF, e_slT, e_slB, e_slN, e_rev, e_tup, e_lst, e_lc, e_lcIf, es_nil, es_cons, i_val, i_rng1, i_rng2, i_zip, getP_some, getP_map, getP_bind, getP_ite, asI_int, asF_fn, asT_tup, wpE_ok, step_name, step_many, c_eq, c_ne, c_lt, c_le, c_gt, c_ge, c_is, c_isNot, eq_int, eq_bl, eq_str, is_bl, is_nn, is_in, is_bn, is_sn, is_tn, is_ln, is_rn, t_non, t_bl, t_int, t_tup, t_rol, b_add, b_sub, b_mul, b_mod, b_fdiv, b_pow, b_addT, b_addS, b_mulT, b_mulSame, f_lenT, f_lenL, f_abs, f_max, f_min, f_int, f_intB, f_tupT, f_lstT, f_lstR, f_lenR, f_tupR, f_sum, f_all, f_any, f_anyT, f_allT, f_repr, x_tup, x_rol, x_ref, l_tup, l_ref, r_tup, m_app, m_ext, m_pop, m_cnt, p_app, p_ext, p_pop, p_cnt, s_tup, s_rol, s_ref, y_ii, y_ib, y_it, y_il, y_bi, y_bb, y_bt, y_tt, y_ti, y_tb, y_tl, y_ni, y_nt, x_set, a_add, a_sub, g_name, g_many, g_nil, g_cons, startP, wipeP, Tg.slots, List.map_cons, List.map_nil, List.length_cons, List.length_nil, List.replicate_succ, List.replicate_zero, List.cons_append, List.nil_append, List.getElem?_cons_zero, List.getElem?_cons_succ, Option.join_some, List.set_cons_zero, List.set_cons_succ, Bool.true_eq_false, reduceCtorEq, Option.map_some, Option.bind_some, Nat.reduceAdd, Nat.reduceSub, Nat.zero_add, Bool.not_true, Bool.not_false, Bool.false_eq_true, true_implies, false_implies, implies_true, and_true, true_and, not_true_eq_false, not_false_eq_true, decide_eq_true_eq, Bool.not_eq_true', Bool.not_eq_false', decide_eq_false_iff_not, iL_empty, eq_iT, gc_11, gc_0, gc_1, gc_12, gc_1202, gc_1203, getP_none, b2719_1]
  refine sp_undone_in y (by omega) fun h4 g4 => ?_
  (try simp -implicitDefEqProofs only [w_cons, w_nil, w_set, w_asg, w_par2, w_par3, w_setix, w_aug, w_expr, w_ret, w_retN, w_ifs, w_brk, w_cnt, w_pass, w_raise, w_for, w_whl, e_v, e_gc, e_int, e_str, e_bl, e_non, e_neg, e_not, e_bin, e_cmp, e_chain, e_and1, e_and2, e_or1, e_or2, e_and, e_or, e_ite, e_T, e_call, e_callv, e_bi, e_isi, e_meth, e_ix, e_slF, e_slT, e_slB, e_slN, e_rev, e_tup, e_lst, e_lc, e_lcIf, es_nil, es_cons, i_val, i_rng1, i_rng2, i_zip, getP_some, getP_map, getP_bind, getP_ite, asI_int, asF_fn, asT_tup, wpE_ok, step_name, step_many, c_eq, c_ne, c_lt, c_le, c_gt, c_ge, c_is, c_isNot, eq_int, eq_bl, eq_str, is_bl, is_nn, is_in, is_bn, is_sn, is_tn, is_ln, is_rn, t_non, t_bl, t_int, t_tup, t_rol, b_add, b_sub, b_mul, b_mod, b_fdiv, b_pow, b_addT, b_addS, b_mulT, b_mulSame, f_lenT, f_lenL, f_abs, f_max, f_min, f_int, f_intB, f_tupT, f_lstT, f_lstR, f_lenR, f_tupR, f_sum, f_all, f_any, f_anyT, f_allT, f_repr, x_tup, x_rol, x_ref, l_tup, l_ref, r_tup, m_app, m_ext, m_pop, m_cnt, p_app, p_ext, p_pop, p_cnt, s_tup, s_rol, s_ref, y_ii, y_ib, y_it, y_il, y_bi, y_bb, y_bt, y_tt, y_ti, y_tb, y_tl, y_ni, y_nt, x_set, a_add, a_sub, g_name, g_many, g_nil, g_cons, startP, wipeP, Tg.slots, List.map_cons, List.map_nil, List.length_cons, List.length_nil, List.replicate_succ, List.replicate_zero, List.cons_append, List.nil_append, List.getElem?_cons_zero, List.getElem?_cons_succ, Option.join_some, List.set_cons_zero, List.set_cons_succ, Bool.true_eq_false, reduceCtorEq, Option.map_some, Option.bind_some, Nat.reduceAdd, Nat.reduceSub, Nat.zero_add, Bool.not_true, Bool.not_false, Bool.false_eq_true, true_implies, false_implies, implies_true, and_true, true_and, not_true_eq_false, not_false_eq_true, decide_eq_true_eq, Bool.not_eq_true', Bool.not_eq_false', decide_eq_false_iff_not, iL_empty, eq_iT, gc_11, gc_0, gc_1, gc_12, gc_1202, gc_1203, getP_none])
  refine ⟨by decide, ?_⟩
  refine sp_product_inR h4.length [un y, pb (pb x (un y)) z, y] lst_new (by simp [un_len]; omega) (by simp) fun h5 g5 => ?_
  have e : sh [un y, pb (pb x (un y)) z, y].flatten = rp x y z := by simp [rp]
  rw [e]
  exact hP _ ((((g1.trans g2).trans g3).trans g4).new.trans g5)
end
end Pi

-- w_cons, w_nil, w_set, w_asg, w_par2, w_par3, w_setix, w_aug, w_expr, w_ret, w_retN, w_ifs, w_brk, w_cnt, w_pass, w_raise, w_for, w_whl, e_v, e_gc, e_int, e_str, e_bl, e_non, e_neg, e_not, e_bin, e_cmp, e_chain, e_and1, e_and2, e_or1, e_or2, e_and, e_or, e_ite, e_T, e_call, e_callv, e_bi, e_isi, e_meth, e_ix, e_slF, e_slT, e_slB, e_slN, e_rev, e_tup, e_lst, e_lc, e_lcIf, es_nil, es_cons, i_val, i_rng1, i_rng2, i_zip, getP_some, getP_map, getP_bind, getP_ite, asI_int, asF_fn, asT_tup, wpE_ok, step_name, step_many, c_eq, c_ne, c_lt, c_le, c_gt, c_ge, c_is, c_isNot, eq_int, eq_bl, eq_str, is_bl, is_nn, is_in, is_bn, is_sn, is_tn, is_ln, is_rn, t_non, t_bl, t_int, t_tup, t_rol, b_add, b_sub, b_mul, b_mod, b_fdiv, b_pow, b_addT, b_addS, b_mulT, b_mulSame, f_lenT, f_lenL, f_abs, f_max, f_min, f_int, f_intB, f_tupT, f_lstT, f_lstR, f_lenR, f_tupR, f_sum, f_all, f_any, f_anyT, f_allT, f_repr, x_tup, x_rol, x_ref, l_tup, l_ref, r_tup, m_app, m_ext, m_pop, m_cnt, p_app, p_ext, p_pop, p_cnt, s_tup, s_rol, s_ref, y_ii, y_ib, y_it, y_il, y_bi, y_bb, y_bt, y_tt, y_ti, y_tb, y_tl, y_ni, y_nt, x_set, a_add, a_sub, g_name, g_many, g_nil, g_cons, startP, wipeP, Tg.slots, List.map_cons, List.map_nil, List.length_cons, List.length_nil, List.replicate_succ, List.replicate_zero, List.cons_append, List.nil_append, List.getElem?_cons_zero, List.getElem?_cons_succ, Option.join_some, List.set_cons_zero, List.set_cons_succ, Bool.true_eq_false, reduceCtorEq, Option.map_some, Option.bind_some, Nat.reduceAdd, Nat.reduceSub, Nat.zero_add, Bool.not_true, Bool.not_false, Bool.false_eq_true, true_implies, false_implies, implies_true, and_true, true_and, not_true_eq_false, not_false_eq_true, decide_eq_true_eq, Bool.not_eq_true', Bool.not_eq_false', decide_eq_false_iff_not, iL_empty, eq_iT, gc_11, gc_0, gc_1, gc_12, gc_1202, gc_1203, getP_none+: gc_11 gc_0 gc_1 gc_12 gc_1202 gc_1203
set_option Elab.async false
set_option linter.all false
set_option maxRecDepth 100000
set_option maxHeartbeats 8000000
/-! runs: brackets, told. -/
namespace Pi
open PySem Wm
section
variable {d : Nat} {h : IH} {P : PV → IH → Prop}
/-- a row of brackets, from the left -/
def rowB : List (List Int) → List Int
  | [] => []
  | w :: ws => ws.foldl br (sh w)
theorem cutW (ws : List (List Int)) : cutP (wL ws) (some 1) none = wL (ws.drop 1) := by
  unfold cutP
  rw [wL_len, show HT.sIx ws.length 0 (some 1) = min 1 ws.length from HT.sIx_nat ws.length 0 1, HT.sIx_none]
  cases ws with
  | nil => rfl
  | cons w ws =>
    rw [show min 1 (w :: ws).length = 1 by rw [List.length_cons]; omega]
    show ((wL ws).take ((w :: ws).length - 1)) = wL ws
    rw [List.length_cons, Nat.add_sub_cancel, List.take_of_length_le (by rw [wL_len]; exact Nat.le_refl _)]
/-- lengths of the row's parts -/
def fits (m : Nat) : List Int → List (List Int) → Prop
  | _, [] => True
  | f, w :: ws => (br f w).length ≤ m ∧ fits m (br f w) ws
theorem fits_at {m : Nat} : ∀ {ws : List (List Int)} {f w : List Int} {i : Nat}, fits m f ws → ws[i]? = some w → (br ((ws.take i).foldl br f) w).length ≤ m
  | [], _, _, _, _, h => by simp at h
  | v :: ws, f, w, 0, hf, h => by simp at h; subst h; exact hf.1
  | v :: ws, f, w, i + 1, hf, h => by
    have := fits_at (i := i) hf.2 (by simpa using h)
    simpa using this
theorem sp_row_of_brackets (w : List Int) (ws : List (List Int)) (hw : w.length < 1000) (hws : ∀ v ∈ ws, v.length < 1000) (hl : ws.length < 1000) (hf : fits 400 (sh w) ws) (hP : ∀ h', Gr [] h h' → P (iT (rowB (w :: ws))) h') : wpE (run GT GC GF (d + 3) 2717 [wT (w :: ws)] h) P := by
  rw [run_in (F := F2717) rfl rfl]
  have a0 : L2.atI (wL (w :: ws)) 0 = some (iT w) := L2.atI_nat (j := 0) rfl
  simp -implicitDefEqProofs only [F2717, b2717_0, w_cons, w_nil, w_set, w_asg, w_par2, w_par3, w_setix, w_aug, w_expr, w_ret, w_retN, w_ifs, w_brk, w_cnt, w_pass, w_raise, w_for, w_whl, e_v, e_gc, e_int, e_str, e_bl, e_non, e_neg, e_not, e_bin, e_cmp, e_chain, e_and1, e_and2, e_or1, e_or2, e_and, e_or, e_ite, e_T, e_call, e_callv, e_bi, e_isi, e_meth, e_ix, e_slF, e_slT, e_slB, e_slN, e_rev, e_tup, e_lst, e_lc, e_lcIf, es_nil, es_cons, i_val, i_rng1, i_rng2, i_zip, getP_some, getP_map, getP_bind, getP_ite, asI_int, asF_fn, asT_tup, wpE_ok, step_name, step_many, c_eq, c_ne, c_lt, c_le, c_gt, c_ge, c_is, c_isNot, eq_int, eq_bl, eq_str, is_bl, is_nn, is_in, is_bn, is_sn, is_tn, is_ln, is_rn, t_non, t_bl, t_int, t_tup, t_rol, b_add, b_sub, b_mul, b_mod, b_fdiv, b_pow, b_addT, b_addS, b_mulT, b_mulSame, f_lenT, f_lenL, f_abs, f_max, f_min, f_int, f_intB, f_tupT, f_lstT, f_lstR, f_lenR, f_tupR, f_sum, f_all, f_any, f_anyT, f_allT, f_repr, x_tup, x_rol, x_ref, l_tup, l_ref, r_tup, m_app, m_ext, m_pop, m_cnt, p_app, p_ext, p_pop, p_cnt, s_tup, s_rol, s_ref, y_ii, y_ib, y_it, y_il, y_bi, y_bb, y_bt, y_tt, y_ti, y_tb, y_tl, y_ni, y_nt, x_set, a_add, a_sub, g_name, g_many, g_nil, g_cons, startP, wipeP, Tg.slots, List.map_cons, List.map_nil, List.length_cons, List.length_nil, List.replicate_succ, List.replicate_zero, List.cons_append, List.nil_append, List.getElem?_cons_zero, List.getElem?_cons_succ, Option.join_some, List.set_cons_zero, List.set_cons_succ, Bool.true_eq_false, reduceCtorEq, Option.map_some, Option.bind_some, Nat.reduceAdd, Nat.reduceSub, Nat.zero_add, Bool.not_true, Bool.not_false, Bool.false_eq_true, true_implies, false_implies, implies_true, and_true, true_and, not_true_eq_false, not_false_eq_true, decide_eq_true_eq, Bool.not_eq_true', Bool.not_eq_false', decide_eq_false_iff_not, iL_empty, eq_iT, gc_11, gc_0, gc_1, gc_12, gc_1202, gc_1203, getP_none, a0]
  refine sp_shortened_in w (by omega) fun h1 g1 => ?_
  simp -implicitDefEqProofs only [w_cons, w_nil, w_set, w_asg, w_par2, w_par3, w_setix, w_aug, w_expr, w_ret, w_retN, w_ifs, w_brk, w_cnt, w_pass, w_raise, w_for, w_whl, e_v, e_gc, e_int, e_str, e_bl, e_non, e_neg, e_not, e_bin, e_cmp, e_chain, e_and1, e_and2, e_or1, e_or2, e_and, e_or, e_ite, e_T, e_call, e_callv, e_bi, e_isi, e_meth, e_ix, e_slF, e_slT, e_slB, e_slN, e_rev, e_tup, e_lst, e_lc, e_lcIf, es_nil, es_cons, i_val, i_rng1, i_rng2, i_zip, getP_some, getP_map, getP_bind, getP_ite, asI_int, asF_fn, asT_tup, wpE_ok, step_name, step_many, c_eq, c_ne, c_lt, c_le, c_gt, c_ge, c_is, c_isNot, eq_int, eq_bl, eq_str, is_bl, is_nn, is_in, is_bn, is_sn, is_tn, is_ln, is_rn, t_non, t_bl, t_int, t_tup, t_rol, b_add, b_sub, b_mul, b_mod, b_fdiv, b_pow, b_addT, b_addS, b_mulT, b_mulSame, f_lenT, f_lenL, f_abs, f_max, f_min, f_int, f_intB, f_tupT, f_lstT, f_lstR, f_lenR, f_tupR, f_sum, f_all, f_any, f_anyT, f_allT, f_repr, x_tup, x_rol, x_ref, l_tup, l_ref, r_tup, m_app, m_ext, m_pop, m_cnt, p_app, p_ext, p_pop, p_cnt, s_tup, s_rol, s_ref, y_ii, y_ib, y_it, y_il, y_bi, y_bb, y_bt, y_tt, y_ti, y_tb, y_tl, y_ni, y_nt, x_set, a_add, a_sub, g_name, g_many, g_nil, g_cons, startP, wipeP, Tg.slots, List.map_cons, List.map_nil, List.length_cons, List.length_nil, List.replicate_succ, List.replicate_zero, List.cons_append, List.nil_append, List.getElem?_cons_zero, List.getElem?_cons_succ, Option.join_some, List.set_cons_zero, List.set_cons_succ, Bool.true_eq_false, reduceCtorEq, Option.map_some, Option.bind_some, Nat.reduceAdd, Nat.reduceSub, Nat.zero_add, Bool.not_true, Bool.not_false, Bool.false_eq_true, true_implies, false_implies, implies_true, and_true, true_and, not_true_eq_false, not_false_eq_true, decide_eq_true_eq, Bool.not_eq_true', Bool.not_eq_false', decide_eq_false_iff_not, iL_empty, eq_iT, gc_11, gc_0, gc_1, gc_12, gc_1202, gc_1203, getP_none, b2717_1, cutW, List.drop_succ_cons, List.drop_zero]
  refine for_fix (fun i ρ h' => ∃ o, ρ = [some (wT (w :: ws)), some (iT ((ws.take i).foldl br (sh w))), o] ∧ Gr [] h h' ∧ ((ws.take i).foldl br (sh w)).length ≤ 1000) ⟨none, rfl, g1, by have := sh_len w; simp only [List.take_zero, List.foldl_nil]; omega⟩ (fun i x ρ h' hx hI => ?_) (fun ρ h' hI => ?_) (gf (by rw [wL_len]; omega))
  · obtain ⟨o, rfl, hg, hb⟩ := hI
    obtain ⟨v, hv, rfl⟩ := wL_get hx
    have lv := hws v (List.mem_of_getElem? hv)
    have lf := fits_at hf hv
    simp -implicitDefEqProofs only [w_cons, w_nil, w_set, w_asg, w_par2, w_par3, w_setix, w_aug, w_expr, w_ret, w_retN, w_ifs, w_brk, w_cnt, w_pass, w_raise, w_for, w_whl, e_v, e_gc, e_int, e_str, e_bl, e_non, e_neg, e_not, e_bin, e_cmp, e_chain, e_and1, e_and2, e_or1, e_or2, e_and, e_or, e_ite, e_T, e_call, e_callv, e_bi, e_isi, e_meth, e_ix, e_slF, e_slT, e_slB, e_slN, e_rev, e_tup, e_lst, e_lc, e_lcIf, es_nil, es_cons, i_val, i_rng1, i_rng2, i_zip, getP_some, getP_map, getP_bind, getP_ite, asI_int, asF_fn, asT_tup, wpE_ok, step_name, step_many, c_eq, c_ne, c_lt, c_le, c_gt, c_ge, c_is, c_isNot, eq_int, eq_bl, eq_str, is_bl, is_nn, is_in, is_bn, is_sn, is_tn, is_ln, is_rn, t_non, t_bl, t_int, t_tup, t_rol, b_add, b_sub, b_mul, b_mod, b_fdiv, b_pow, b_addT, b_addS, b_mulT, b_mulSame, f_lenT, f_lenL, f_abs, f_max, f_min, f_int, f_intB, f_tupT, f_lstT, f_lstR, f_lenR, f_tupR, f_sum, f_all, f_any, f_anyT, f_allT, f_repr, x_tup, x_rol, x_ref, l_tup, l_ref, r_tup, m_app, m_ext, m_pop, m_cnt, p_app, p_ext, p_pop, p_cnt, s_tup, s_rol, s_ref, y_ii, y_ib, y_it, y_il, y_bi, y_bb, y_bt, y_tt, y_ti, y_tb, y_tl, y_ni, y_nt, x_set, a_add, a_sub, g_name, g_many, g_nil, g_cons, startP, wipeP, Tg.slots, List.map_cons, List.map_nil, List.length_cons, List.length_nil, List.replicate_succ, List.replicate_zero, List.cons_append, List.nil_append, List.getElem?_cons_zero, List.getElem?_cons_succ, Option.join_some, List.set_cons_zero, List.set_cons_succ, Bool.true_eq_false, reduceCtorEq, Option.map_some, Option.bind_some, Nat.reduceAdd, Nat.reduceSub, Nat.zero_add, Bool.not_true, Bool.not_false, Bool.false_eq_true, true_implies, false_implies, implies_true, and_true, true_and, not_true_eq_false, not_false_eq_true, decide_eq_true_eq, Bool.not_eq_true', Bool.not_eq_false', decide_eq_false_iff_not, iL_empty, eq_iT, gc_11, gc_0, gc_1, gc_12, gc_1202, gc_1203, getP_none, l2717_0_0]
    refine sp_bracket_in _ v (by omega) (by omega) fun h2 g2 => ?_
    simp -implicitDefEqProofs only [w_cons, w_nil, w_set, w_asg, w_par2, w_par3, w_setix, w_aug, w_expr, w_ret, w_retN, w_ifs, w_brk, w_cnt, w_pass, w_raise, w_for, w_whl, e_v, e_gc, e_int, e_str, e_bl, e_non, e_neg, e_not, e_bin, e_cmp, e_chain, e_and1, e_and2, e_or1, e_or2, e_and, e_or, e_ite, e_T, e_call, e_callv, e_bi, e_isi, e_meth, e_ix, e_slF, e_slT, e_slB, e_slN, e_rev, e_tup, e_lst, e_lc, e_lcIf, es_nil, es_cons, i_val, i_rng1, i_rng2, i_zip, getP_some, getP_map, getP_bind, getP_ite, asI_int, asF_fn, asT_tup, wpE_ok, step_name, step_many, c_eq, c_ne, c_lt, c_le, c_gt, c_ge, c_is, c_isNot, eq_int, eq_bl, eq_str, is_bl, is_nn, is_in, is_bn, is_sn, is_tn, is_ln, is_rn, t_non, t_bl, t_int, t_tup, t_rol, b_add, b_sub, b_mul, b_mod, b_fdiv, b_pow, b_addT, b_addS, b_mulT, b_mulSame, f_lenT, f_lenL, f_abs, f_max, f_min, f_int, f_intB, f_tupT, f_lstT, f_lstR, f_lenR, f_tupR, f_sum, f_all, f_any, f_anyT, f_allT, f_repr, x_tup, x_rol, x_ref, l_tup, l_ref, r_tup, m_app, m_ext, m_pop, m_cnt, p_app, p_ext, p_pop, p_cnt, s_tup, s_rol, s_ref, y_ii, y_ib, y_it, y_il, y_bi, y_bb, y_bt, y_tt, y_ti, y_tb, y_tl, y_ni, y_nt, x_set, a_add, a_sub, g_name, g_many, g_nil, g_cons, startP, wipeP, Tg.slots, List.map_cons, List.map_nil, List.length_cons, List.length_nil, List.replicate_succ, List.replicate_zero, List.cons_append, List.nil_append, List.getElem?_cons_zero, List.getElem?_cons_succ, Option.join_some, List.set_cons_zero, List.set_cons_succ, Bool.true_eq_false, reduceCtorEq, Option.map_some, Option.bind_some, Nat.reduceAdd, Nat.reduceSub, Nat.zero_add, Bool.not_true, Bool.not_false, Bool.false_eq_true, true_implies, false_implies, implies_true, and_true, true_and, not_true_eq_false, not_false_eq_true, decide_eq_true_eq, Bool.not_eq_true', Bool.not_eq_false', decide_eq_false_iff_not, iL_empty, eq_iT, gc_11, gc_0, gc_1, gc_12, gc_1202, gc_1203, getP_none, l2717_0_1, iL_len]
    refine ⟨fun z => absurd z (by omega), fun _ => ⟨o.elim (some (iT v)) (fun _ => some (iT v)), ?_, hg.trans g2, ?_⟩⟩
    · rw [List.take_add_one, hv, Option.toList, List.foldl_append]
      cases o <;> rfl
    · rw [List.take_add_one, hv, Option.toList, List.foldl_append]
      show (br _ v).length ≤ 1000
      omega
  · obtain ⟨o, rfl, hg, hb⟩ := hI
    rw [wL_len, List.take_length]
    simp -implicitDefEqProofs only [w_cons, w_nil, w_set, w_asg, w_par2, w_par3, w_setix, w_aug, w_expr, w_ret, w_retN, w_ifs, w_brk, w_cnt, w_pass, w_raise, w_for, w_whl, e_v, e_gc, e_int, e_str, e_bl, e_non, e_neg, e_not, e_bin, e_cmp, e_chain, e_and1, e_and2, e_or1, e_or2, e_and, e_or, e_ite, e_T, e_call, e_callv, e_bi, e_isi, e_meth, e_ix, e_slF, e_slT, e_slB, e_slN, e_rev, e_tup, e_lst, e_lc, e_lcIf, es_nil, es_cons, i_val, i_rng1, i_rng2, i_zip, getP_some, getP_map, getP_bind, getP_ite, asI_int, asF_fn, asT_tup, wpE_ok, step_name, step_many, c_eq, c_ne, c_lt, c_le, c_gt, c_ge, c_is, c_isNot, eq_int, eq_bl, eq_str, is_bl, is_nn, is_in, is_bn, is_sn, is_tn, is_ln, is_rn, t_non, t_bl, t_int, t_tup, t_rol, b_add, b_sub, b_mul, b_mod, b_fdiv, b_pow, b_addT, b_addS, b_mulT, b_mulSame, f_lenT, f_lenL, f_abs, f_max, f_min, f_int, f_intB, f_tupT, f_lstT, f_lstR, f_lenR, f_tupR, f_sum, f_all, f_any, f_anyT, f_allT, f_repr, x_tup, x_rol, x_ref, l_tup, l_ref, r_tup, m_app, m_ext, m_pop, m_cnt, p_app, p_ext, p_pop, p_cnt, s_tup, s_rol, s_ref, y_ii, y_ib, y_it, y_il, y_bi, y_bb, y_bt, y_tt, y_ti, y_tb, y_tl, y_ni, y_nt, x_set, a_add, a_sub, g_name, g_many, g_nil, g_cons, startP, wipeP, Tg.slots, List.map_cons, List.map_nil, List.length_cons, List.length_nil, List.replicate_succ, List.replicate_zero, List.cons_append, List.nil_append, List.getElem?_cons_zero, List.getElem?_cons_succ, Option.join_some, List.set_cons_zero, List.set_cons_succ, Bool.true_eq_false, reduceCtorEq, Option.map_some, Option.bind_some, Nat.reduceAdd, Nat.reduceSub, Nat.zero_add, Bool.not_true, Bool.not_false, Bool.false_eq_true, true_implies, false_implies, implies_true, and_true, true_and, not_true_eq_false, not_false_eq_true, decide_eq_true_eq, Bool.not_eq_true', Bool.not_eq_false', decide_eq_false_iff_not, iL_empty, eq_iT, gc_11, gc_0, gc_1, gc_12, gc_1202, gc_1203, getP_none, b2717_2]
    exact hP _ hg
theorem sp_bracket (r : Int) (x y : List Int) (h1 : 1 ≤ r) (h2 : r ≤ 4) (hx : Wd r x) (lx : x.length ≤ 400) (hy : Wd r y) (ly : y.length ≤ 400) (hP : ∀ h', Gr [] h h' → P (iT (br x y)) h') : wpE (run GT GC GF (d + 8) 2720 [.int r, iT x, iT y] h) P := by
  rw [run_in (F := F2720) rfl rfl]
  simp -implicitDefEqProofs only [F2720, b2720_0, b2720_1, w_cons, w_nil, w_set, w_asg, w_par2, w_par3, w_setix, w_aug, w_expr, w_ret, w_retN, w_ifs, w_brk, w_cnt, w_pass, w_raise, w_for, w_whl, e_v, e_gc, e_int, e_str, e_bl, e_non, e_neg, e_not, e_bin, e_cmp, e_chain, e_and1, e_and2, e_or1, e_or2, e_and, e_or, e_ite, e_T, e_call, e_callv, e_bi, e_isi, e_meth, e_ix, e_slF, e_slT, e_slB, e_slN, e_rev, e_tup, e_lst, e_lc, e_lcIf, es_nil, es_cons, i_val, i_rng1, i_rng2, i_zip, getP_some, getP_map, getP_bind, getP_ite, asI_int, asF_fn, asT_tup, wpE_ok, step_name, step_many, c_eq, c_ne, c_lt, c_le, c_gt, c_ge, c_is, c_isNot, eq_int, eq_bl, eq_str, is_bl, is_nn, is_in, is_bn, is_sn, is_tn, is_ln, is_rn, t_non, t_bl, t_int, t_tup, t_rol, b_add, b_sub, b_mul, b_mod, b_fdiv, b_pow, b_addT, b_addS, b_mulT, b_mulSame, f_lenT, f_lenL, f_abs, f_max, f_min, f_int, f_intB, f_tupT, f_lstT, f_lstR, f_lenR, f_tupR, f_sum, f_all, f_any, f_anyT, f_allT, f_repr, x_tup, x_rol, x_ref, l_tup, l_ref, r_tup, m_app, m_ext, m_pop, m_cnt, p_app, p_ext, p_pop, p_cnt, s_tup, s_rol, s_ref, y_ii, y_ib, y_it, y_il, y_bi, y_bb, y_bt, y_tt, y_ti, y_tb, y_tl, y_ni, y_nt, x_set, a_add, a_sub, g_name, g_many, g_nil, g_cons, startP, wipeP, Tg.slots, List.map_cons, List.map_nil, List.length_cons, List.length_nil, List.replicate_succ, List.replicate_zero, List.cons_append, List.nil_append, List.getElem?_cons_zero, List.getElem?_cons_succ, Option.join_some, List.set_cons_zero, List.set_cons_succ, Bool.true_eq_false, reduceCtorEq, Option.map_some, Option.bind_some, Nat.reduceAdd, Nat.reduceSub, Nat.zero_add, Bool.not_true, Bool.not_false, Bool.false_eq_true, true_implies, false_implies, implies_true, and_true, true_and, not_true_eq_false, not_false_eq_true, decide_eq_true_eq, Bool.not_eq_true', Bool.not_eq_false', decide_eq_false_iff_not, iL_empty, eq_iT, gc_11, gc_0, gc_1, gc_12, gc_1202, gc_1203, getP_none]
  refine sp_require_two_words r x y h1 h2 hx lx hy ly fun h3 g3 => ?_
  (try simp -implicitDefEqProofs only [w_cons, w_nil, w_set, w_asg, w_par2, w_par3, w_setix, w_aug, w_expr, w_ret, w_retN, w_ifs, w_brk, w_cnt, w_pass, w_raise, w_for, w_whl, e_v, e_gc, e_int, e_str, e_bl, e_non, e_neg, e_not, e_bin, e_cmp, e_chain, e_and1, e_and2, e_or1, e_or2, e_and, e_or, e_ite, e_T, e_call, e_callv, e_bi, e_isi, e_meth, e_ix, e_slF, e_slT, e_slB, e_slN, e_rev, e_tup, e_lst, e_lc, e_lcIf, es_nil, es_cons, i_val, i_rng1, i_rng2, i_zip, getP_some, getP_map, getP_bind, getP_ite, asI_int, asF_fn, asT_tup, wpE_ok, step_name, step_many, c_eq, c_ne, c_lt, c_le, c_gt, c_ge, c_is, c_isNot, eq_int, eq_bl, eq_str, is_bl, is_nn, is_in, is_bn, is_sn, is_tn, is_ln, is_rn, t_non, t_bl, t_int, t_tup, t_rol, b_add, b_sub, b_mul, b_mod, b_fdiv, b_pow, b_addT, b_addS, b_mulT, b_mulSame, f_lenT, f_lenL, f_abs, f_max, f_min, f_int, f_intB, f_tupT, f_lstT, f_lstR, f_lenR, f_tupR, f_sum, f_all, f_any, f_anyT, f_allT, f_repr, x_tup, x_rol, x_ref, l_tup, l_ref, r_tup, m_app, m_ext, m_pop, m_cnt, p_app, p_ext, p_pop, p_cnt, s_tup, s_rol, s_ref, y_ii, y_ib, y_it, y_il, y_bi, y_bb, y_bt, y_tt, y_ti, y_tb, y_tl, y_ni, y_nt, x_set, a_add, a_sub, g_name, g_many, g_nil, g_cons, startP, wipeP, Tg.slots, List.map_cons, List.map_nil, List.length_cons, List.length_nil, List.replicate_succ, List.replicate_zero, List.cons_append, List.nil_append, List.getElem?_cons_zero, List.getElem?_cons_succ, Option.join_some, List.set_cons_zero, List.set_cons_succ, Bool.true_eq_false, reduceCtorEq, Option.map_some, Option.bind_some, Nat.reduceAdd, Nat.reduceSub, Nat.zero_add, Bool.not_true, Bool.not_false, Bool.false_eq_true, true_implies, false_implies, implies_true, and_true, true_and, not_true_eq_false, not_false_eq_true, decide_eq_true_eq, Bool.not_eq_true', Bool.not_eq_false', decide_eq_false_iff_not, iL_empty, eq_iT, gc_11, gc_0, gc_1, gc_12, gc_1202, gc_1203, getP_none])
  exact sp_bracket_in x y (by omega) (by omega) fun h4 g4 => hP _ (g3.trans g4)
theorem sp_conjugate (r : Int) (x y : List Int) (h1 : 1 ≤ r) (h2 : r ≤ 4) (hx : Wd r x) (lx : x.length ≤ 400) (hy : Wd r y) (ly : y.length ≤ 400) (hP : ∀ h', Gr [] h h' → P (iT (cj x y)) h') : wpE (run GT GC GF (d + 8) 2723 [.int r, iT x, iT y] h) P := by
  rw [run_in (F := F2723) rfl rfl]
  simp -implicitDefEqProofs only [F2723, b2723_0, b2723_1, w_cons, w_nil, w_set, w_asg, w_par2, w_par3, w_setix, w_aug, w_expr, w_ret, w_retN, w_ifs, w_brk, w_cnt, w_pass, w_raise, w_for, w_whl, e_v, e_gc, e_int, e_str, e_bl, e_non, e_neg, e_not, e_bin, e_cmp, e_chain, e_and1, e_and2, e_or1, e_or2, e_and, e_or, e_ite, e_T, e_call, e_callv, e_bi, e_isi, e_meth, e_ix, e_slF, e_slT, e_slB, e_slN, e_rev, e_tup, e_lst, e_lc, e_lcIf, es_nil, es_cons, i_val, i_rng1, i_rng2, i_zip, getP_some, getP_map, getP_bind, getP_ite, asI_int, asF_fn, asT_tup, wpE_ok, step_name, step_many, c_eq, c_ne, c_lt, c_le, c_gt, c_ge, c_is, c_isNot, eq_int, eq_bl, eq_str, is_bl, is_nn, is_in, is_bn, is_sn, is_tn, is_ln, is_rn, t_non, t_bl, t_int, t_tup, t_rol, b_add, b_sub, b_mul, b_mod, b_fdiv, b_pow, b_addT, b_addS, b_mulT, b_mulSame, f_lenT, f_lenL, f_abs, f_max, f_min, f_int, f_intB, f_tupT, f_lstT, f_lstR, f_lenR, f_tupR, f_sum, f_all, f_any, f_anyT, f_allT, f_repr, x_tup, x_rol, x_ref, l_tup, l_ref, r_tup, m_app, m_ext, m_pop, m_cnt, p_app, p_ext, p_pop, p_cnt, s_tup, s_rol, s_ref, y_ii, y_ib, y_it, y_il, y_bi, y_bb, y_bt, y_tt, y_ti, y_tb, y_tl, y_ni, y_nt, x_set, a_add, a_sub, g_name, g_many, g_nil, g_cons, startP, wipeP, Tg.slots, List.map_cons, List.map_nil, List.length_cons, List.length_nil, List.replicate_succ, List.replicate_zero, List.cons_append, List.nil_append, List.getElem?_cons_zero, List.getElem?_cons_succ, Option.join_some, List.set_cons_zero, List.set_cons_succ, Bool.true_eq_false, reduceCtorEq, Option.map_some, Option.bind_some, Nat.reduceAdd, Nat.reduceSub, Nat.zero_add, Bool.not_true, Bool.not_false, Bool.false_eq_true, true_implies, false_implies, implies_true, and_true, true_and, not_true_eq_false, not_false_eq_true, decide_eq_true_eq, Bool.not_eq_true', Bool.not_eq_false', decide_eq_false_iff_not, iL_empty, eq_iT, gc_11, gc_0, gc_1, gc_12, gc_1202, gc_1203, getP_none]
  refine sp_require_two_words r x y h1 h2 hx lx hy ly fun h3 g3 => ?_
  (try simp -implicitDefEqProofs only [w_cons, w_nil, w_set, w_asg, w_par2, w_par3, w_setix, w_aug, w_expr, w_ret, w_retN, w_ifs, w_brk, w_cnt, w_pass, w_raise, w_for, w_whl, e_v, e_gc, e_int, e_str, e_bl, e_non, e_neg, e_not, e_bin, e_cmp, e_chain, e_and1, e_and2, e_or1, e_or2, e_and, e_or, e_ite, e_T, e_call, e_callv, e_bi, e_isi, e_meth, e_ix, e_slF, e_slT, e_slB, e_slN, e_rev, e_tup, e_lst, e_lc, e_lcIf, es_nil, es_cons, i_val, i_rng1, i_rng2, i_zip, getP_some, getP_map, getP_bind, getP_ite, asI_int, asF_fn, asT_tup, wpE_ok, step_name, step_many, c_eq, c_ne, c_lt, c_le, c_gt, c_ge, c_is, c_isNot, eq_int, eq_bl, eq_str, is_bl, is_nn, is_in, is_bn, is_sn, is_tn, is_ln, is_rn, t_non, t_bl, t_int, t_tup, t_rol, b_add, b_sub, b_mul, b_mod, b_fdiv, b_pow, b_addT, b_addS, b_mulT, b_mulSame, f_lenT, f_lenL, f_abs, f_max, f_min, f_int, f_intB, f_tupT, f_lstT, f_lstR, f_lenR, f_tupR, f_sum, f_all, f_any, f_anyT, f_allT, f_repr, x_tup, x_rol, x_ref, l_tup, l_ref, r_tup, m_app, m_ext, m_pop, m_cnt, p_app, p_ext, p_pop, p_cnt, s_tup, s_rol, s_ref, y_ii, y_ib, y_it, y_il, y_bi, y_bb, y_bt, y_tt, y_ti, y_tb, y_tl, y_ni, y_nt, x_set, a_add, a_sub, g_name, g_many, g_nil, g_cons, startP, wipeP, Tg.slots, List.map_cons, List.map_nil, List.length_cons, List.length_nil, List.replicate_succ, List.replicate_zero, List.cons_append, List.nil_append, List.getElem?_cons_zero, List.getElem?_cons_succ, Option.join_some, List.set_cons_zero, List.set_cons_succ, Bool.true_eq_false, reduceCtorEq, Option.map_some, Option.bind_some, Nat.reduceAdd, Nat.reduceSub, Nat.zero_add, Bool.not_true, Bool.not_false, Bool.false_eq_true, true_implies, false_implies, implies_true, and_true, true_and, not_true_eq_false, not_false_eq_true, decide_eq_true_eq, Bool.not_eq_true', Bool.not_eq_false', decide_eq_false_iff_not, iL_empty, eq_iT, gc_11, gc_0, gc_1, gc_12, gc_1202, gc_1203, getP_none])
  exact sp_turned_word x y (by omega) (by omega) fun h4 g4 => hP _ (g3.trans g4)
theorem sp_has_no_counts (r : Nat) (w : List Int) (h1 : 1 ≤ r) (h2 : r ≤ 4) (hw : Wd r w) (hl : w.length ≤ 400) (hP : ∀ h', Gr [] h h' → P (.bl (noC r w)) h') : wpE (run GT GC GF (d + 7) 2722 [.int r, iT w] h) P := by
  rw [run_in (F := F2722) rfl rfl]
  simp -implicitDefEqProofs only [F2722, b2722_0, b2722_1, w_cons, w_nil, w_set, w_asg, w_par2, w_par3, w_setix, w_aug, w_expr, w_ret, w_retN, w_ifs, w_brk, w_cnt, w_pass, w_raise, w_for, w_whl, e_v, e_gc, e_int, e_str, e_bl, e_non, e_neg, e_not, e_bin, e_cmp, e_chain, e_and1, e_and2, e_or1, e_or2, e_and, e_or, e_ite, e_T, e_call, e_callv, e_bi, e_isi, e_meth, e_ix, e_slF, e_slT, e_slB, e_slN, e_rev, e_tup, e_lst, e_lc, e_lcIf, es_nil, es_cons, i_val, i_rng1, i_rng2, i_zip, getP_some, getP_map, getP_bind, getP_ite, asI_int, asF_fn, asT_tup, wpE_ok, step_name, step_many, c_eq, c_ne, c_lt, c_le, c_gt, c_ge, c_is, c_isNot, eq_int, eq_bl, eq_str, is_bl, is_nn, is_in, is_bn, is_sn, is_tn, is_ln, is_rn, t_non, t_bl, t_int, t_tup, t_rol, b_add, b_sub, b_mul, b_mod, b_fdiv, b_pow, b_addT, b_addS, b_mulT, b_mulSame, f_lenT, f_lenL, f_abs, f_max, f_min, f_int, f_intB, f_tupT, f_lstT, f_lstR, f_lenR, f_tupR, f_sum, f_all, f_any, f_anyT, f_allT, f_repr, x_tup, x_rol, x_ref, l_tup, l_ref, r_tup, m_app, m_ext, m_pop, m_cnt, p_app, p_ext, p_pop, p_cnt, s_tup, s_rol, s_ref, y_ii, y_ib, y_it, y_il, y_bi, y_bb, y_bt, y_tt, y_ti, y_tb, y_tl, y_ni, y_nt, x_set, a_add, a_sub, g_name, g_many, g_nil, g_cons, startP, wipeP, Tg.slots, List.map_cons, List.map_nil, List.length_cons, List.length_nil, List.replicate_succ, List.replicate_zero, List.cons_append, List.nil_append, List.getElem?_cons_zero, List.getElem?_cons_succ, Option.join_some, List.set_cons_zero, List.set_cons_succ, Bool.true_eq_false, reduceCtorEq, Option.map_some, Option.bind_some, Nat.reduceAdd, Nat.reduceSub, Nat.zero_add, Bool.not_true, Bool.not_false, Bool.false_eq_true, true_implies, false_implies, implies_true, and_true, true_and, not_true_eq_false, not_false_eq_true, decide_eq_true_eq, Bool.not_eq_true', Bool.not_eq_false', decide_eq_false_iff_not, iL_empty, eq_iT, gc_11, gc_0, gc_1, gc_12, gc_1202, gc_1203, getP_none]
  have q1 : (1 : Int) ≤ r := by omega
  have q2 : (r : Int) ≤ 4 := by omega
  refine sp_require_told_word (r : Int) w q1 q2 hw hl fun h3 g3 => ?_
  (try simp -implicitDefEqProofs only [w_cons, w_nil, w_set, w_asg, w_par2, w_par3, w_setix, w_aug, w_expr, w_ret, w_retN, w_ifs, w_brk, w_cnt, w_pass, w_raise, w_for, w_whl, e_v, e_gc, e_int, e_str, e_bl, e_non, e_neg, e_not, e_bin, e_cmp, e_chain, e_and1, e_and2, e_or1, e_or2, e_and, e_or, e_ite, e_T, e_call, e_callv, e_bi, e_isi, e_meth, e_ix, e_slF, e_slT, e_slB, e_slN, e_rev, e_tup, e_lst, e_lc, e_lcIf, es_nil, es_cons, i_val, i_rng1, i_rng2, i_zip, getP_some, getP_map, getP_bind, getP_ite, asI_int, asF_fn, asT_tup, wpE_ok, step_name, step_many, c_eq, c_ne, c_lt, c_le, c_gt, c_ge, c_is, c_isNot, eq_int, eq_bl, eq_str, is_bl, is_nn, is_in, is_bn, is_sn, is_tn, is_ln, is_rn, t_non, t_bl, t_int, t_tup, t_rol, b_add, b_sub, b_mul, b_mod, b_fdiv, b_pow, b_addT, b_addS, b_mulT, b_mulSame, f_lenT, f_lenL, f_abs, f_max, f_min, f_int, f_intB, f_tupT, f_lstT, f_lstR, f_lenR, f_tupR, f_sum, f_all, f_any, f_anyT, f_allT, f_repr, x_tup, x_rol, x_ref, l_tup, l_ref, r_tup, m_app, m_ext, m_pop, m_cnt, p_app, p_ext, p_pop, p_cnt, s_tup, s_rol, s_ref, y_ii, y_ib, y_it, y_il, y_bi, y_bb, y_bt, y_tt, y_ti, y_tb, y_tl, y_ni, y_nt, x_set, a_add, a_sub, g_name, g_many, g_nil, g_cons, startP, wipeP, Tg.slots, List.map_cons, List.map_nil, List.length_cons, List.length_nil, List.replicate_succ, List.replicate_zero, List.cons_append, List.nil_append, List.getElem?_cons_zero, List.getElem?_cons_succ, Option.join_some, List.set_cons_zero, List.set_cons_succ, Bool.true_eq_false, reduceCtorEq, Option.map_some, Option.bind_some, Nat.reduceAdd, Nat.reduceSub, Nat.zero_add, Bool.not_true, Bool.not_false, Bool.false_eq_true, true_implies, false_implies, implies_true, and_true, true_and, not_true_eq_false, not_false_eq_true, decide_eq_true_eq, Bool.not_eq_true', Bool.not_eq_false', decide_eq_false_iff_not, iL_empty, eq_iT, gc_11, gc_0, gc_1, gc_12, gc_1202, gc_1203, getP_none])
  exact sp_has_no_counts_in r w (by omega) fun h4 g4 => hP _ (g3.trans g4)
theorem eq_wnil (h : IH) (w : List Int) (ws : List (List Int)) : True := trivial
def dW (ws : List (List Int)) : List PyData := ws.map fun w => .tuple (dI w)
theorem wL_data (h : IH) (k : Nat) (ws : List (List Int)) : (wL ws).mapM (toD h (k + 1)) = some (dW ws) := by
  induction ws with
  | nil => rfl
  | cons w ws ih =>
    have e : wL (w :: ws) = iT w :: wL ws := rfl
    rw [e, List.mapM_cons, ih, toD_iT]
    rfl
theorem toD_wT (h : IH) (k : Nat) (ws : List (List Int)) : toD h (k + 2) (wT ws) = some (.tuple (dW ws)) := by simp only [toD, wL_data, Option.map_some]
theorem canLay_dW : ∀ ws : List (List Int), PyData.canLayAll0 (dW ws) = true
  | [] => rfl
  | w :: ws => by
    show (PyData.canLay0 (.tuple (dI w)) && PyData.canLayAll0 (dW ws)) = true
    rw [canLay_dW ws]
    simp [PyData.canLay0, canLay_dI]
theorem depth_dW : ∀ ws : List (List Int), PyData.depthAll (dW ws) ≤ 2
  | [] => by simp [dW, PyData.depthAll]
  | w :: ws => by
    have := depth_dW ws
    have h2 := depth_dI w
    simp only [dW, List.map_cons, PyData.depthAll, PyData.depth] at this ⊢
    omega
theorem shaped_wT (ws : List (List Int)) : SeqAt.shaped (.tuple (dW ws)) = true := by
  have := depth_dW ws
  refine Bool.and_eq_true_iff.mpr ⟨canLay_dW ws, decide_eq_true ?_⟩
  show PyData.depthAll (dW ws) + 1 ≤ 64
  omega
theorem eqv_dW : ∀ v w : List (List Int), PyData.eqvAll (dW v) (dW w) = decide (v = w)
  | [], [] => by simp [dW, PyData.eqvAll]
  | [], _ :: _ => by simp [dW, PyData.eqvAll]
  | _ :: _, [] => by simp [dW, PyData.eqvAll]
  | x :: v, y :: w => by
    have ih := eqv_dW v w
    simp only [dW, List.map_cons, PyData.eqvAll, PyData.eqv] at ih ⊢
    rw [ih, eqv_dI]
    simp [Bool.decide_and]
theorem eq_wT (h : IH) (v w : List (List Int)) : eqO h (wT v) (wT w) = some (decide (v = w)) := by
  simp only [eqO, eqD, dMost, toD_wT, shaped_wT, and_self, if_true, PyData.eqv, eqv_dW]
theorem eq_wTnil (h : IH) (ws : List (List Int)) : eqO h (.tup (wL ws)) (.tup []) = some (decide (ws = [])) := eq_wT h ws []
theorem sp_bracket_row (r : Int) (w : List Int) (ws : List (List Int)) (h1 : 1 ≤ r) (h2 : r ≤ 4) (hw : ∀ v ∈ w :: ws, Wd r v ∧ v.length ≤ 400) (hl : (w :: ws).length ≤ 20) (hs : (w :: ws).flatten.length ≤ 400) (hf : fits 400 (sh w) ws) (hP : ∀ h', Gr [] h h' → P (iT (rowB (w :: ws))) h') : wpE (run GT GC GF (d + 8) 2721 [.int r, wT (w :: ws)] h) P := by
  rw [run_in (F := F2721) rfl rfl]
  simp -implicitDefEqProofs only [F2721, b2721_0, w_cons, w_nil, w_set, w_asg, w_par2, w_par3, w_setix, w_aug, w_expr, w_ret, w_retN, w_ifs, w_brk, w_cnt, w_pass, w_raise, w_for, w_whl, e_v, e_gc, e_int, e_str, e_bl, e_non, e_neg, e_not, e_bin, e_cmp, e_chain, e_and1, e_and2, e_or1, e_or2, e_and, e_or, e_ite, e_T, e_call, e_callv, e_bi, e_isi, e_meth, e_ix, e_slF, e_slT, e_slB, e_slN, e_rev, e_tup, e_lst, e_lc, e_lcIf, es_nil, es_cons, i_val, i_rng1, i_rng2, i_zip, getP_some, getP_map, getP_bind, getP_ite, asI_int, asF_fn, asT_tup, wpE_ok, step_name, step_many, c_eq, c_ne, c_lt, c_le, c_gt, c_ge, c_is, c_isNot, eq_int, eq_bl, eq_str, is_bl, is_nn, is_in, is_bn, is_sn, is_tn, is_ln, is_rn, t_non, t_bl, t_int, t_tup, t_rol, b_add, b_sub, b_mul, b_mod, b_fdiv, b_pow, b_addT, b_addS, b_mulT, b_mulSame, f_lenT, f_lenL, f_abs, f_max, f_min, f_int, f_intB, f_tupT, f_lstT, f_lstR, f_lenR, f_tupR, f_sum, f_all, f_any, f_anyT, f_allT, f_repr, x_tup, x_rol, x_ref, l_tup, l_ref, r_tup, m_app, m_ext, m_pop, m_cnt, p_app, p_ext, p_pop, p_cnt, s_tup, s_rol, s_ref, y_ii, y_ib, y_it, y_il, y_bi, y_bb, y_bt, y_tt, y_ti, y_tb, y_tl, y_ni, y_nt, x_set, a_add, a_sub, g_name, g_many, g_nil, g_cons, startP, wipeP, Tg.slots, List.map_cons, List.map_nil, List.length_cons, List.length_nil, List.replicate_succ, List.replicate_zero, List.cons_append, List.nil_append, List.getElem?_cons_zero, List.getElem?_cons_succ, Option.join_some, List.set_cons_zero, List.set_cons_succ, Bool.true_eq_false, reduceCtorEq, Option.map_some, Option.bind_some, Nat.reduceAdd, Nat.reduceSub, Nat.zero_add, Bool.not_true, Bool.not_false, Bool.false_eq_true, true_implies, false_implies, implies_true, and_true, true_and, not_true_eq_false, not_false_eq_true, decide_eq_true_eq, Bool.not_eq_true', Bool.not_eq_false', decide_eq_false_iff_not, iL_empty, eq_iT, gc_11, gc_0, gc_1, gc_12, gc_1202, gc_1203, getP_none]
  refine sp_require_told_words r (w :: ws) h1 h2 hw hl (by rw [flat_sum]; omega) fun h3 g3 => ?_
  simp -implicitDefEqProofs only [w_cons, w_nil, w_set, w_asg, w_par2, w_par3, w_setix, w_aug, w_expr, w_ret, w_retN, w_ifs, w_brk, w_cnt, w_pass, w_raise, w_for, w_whl, e_v, e_gc, e_int, e_str, e_bl, e_non, e_neg, e_not, e_bin, e_cmp, e_chain, e_and1, e_and2, e_or1, e_or2, e_and, e_or, e_ite, e_T, e_call, e_callv, e_bi, e_isi, e_meth, e_ix, e_slF, e_slT, e_slB, e_slN, e_rev, e_tup, e_lst, e_lc, e_lcIf, es_nil, es_cons, i_val, i_rng1, i_rng2, i_zip, getP_some, getP_map, getP_bind, getP_ite, asI_int, asF_fn, asT_tup, wpE_ok, step_name, step_many, c_eq, c_ne, c_lt, c_le, c_gt, c_ge, c_is, c_isNot, eq_int, eq_bl, eq_str, is_bl, is_nn, is_in, is_bn, is_sn, is_tn, is_ln, is_rn, t_non, t_bl, t_int, t_tup, t_rol, b_add, b_sub, b_mul, b_mod, b_fdiv, b_pow, b_addT, b_addS, b_mulT, b_mulSame, f_lenT, f_lenL, f_abs, f_max, f_min, f_int, f_intB, f_tupT, f_lstT, f_lstR, f_lenR, f_tupR, f_sum, f_all, f_any, f_anyT, f_allT, f_repr, x_tup, x_rol, x_ref, l_tup, l_ref, r_tup, m_app, m_ext, m_pop, m_cnt, p_app, p_ext, p_pop, p_cnt, s_tup, s_rol, s_ref, y_ii, y_ib, y_it, y_il, y_bi, y_bb, y_bt, y_tt, y_ti, y_tb, y_tl, y_ni, y_nt, x_set, a_add, a_sub, g_name, g_many, g_nil, g_cons, startP, wipeP, Tg.slots, List.map_cons, List.map_nil, List.length_cons, List.length_nil, List.replicate_succ, List.replicate_zero, List.cons_append, List.nil_append, List.getElem?_cons_zero, List.getElem?_cons_succ, Option.join_some, List.set_cons_zero, List.set_cons_succ, Bool.true_eq_false, reduceCtorEq, Option.map_some, Option.bind_some, Nat.reduceAdd, Nat.reduceSub, Nat.zero_add, Bool.not_true, Bool.not_false, Bool.false_eq_true, true_implies, false_implies, implies_true, and_true, true_and, not_true_eq_false, not_false_eq_true, decide_eq_true_eq, Bool.not_eq_true', Bool.not_eq_false', decide_eq_false_iff_not, iL_empty, eq_iT, gc_11, gc_0, gc_1, gc_12, gc_1202, gc_1203, getP_none, b2721_1, eq_wTnil]
  refine ⟨Nat.zero_le _, ?_⟩
  simp -implicitDefEqProofs only [w_cons, w_nil, w_set, w_asg, w_par2, w_par3, w_setix, w_aug, w_expr, w_ret, w_retN, w_ifs, w_brk, w_cnt, w_pass, w_raise, w_for, w_whl, e_v, e_gc, e_int, e_str, e_bl, e_non, e_neg, e_not, e_bin, e_cmp, e_chain, e_and1, e_and2, e_or1, e_or2, e_and, e_or, e_ite, e_T, e_call, e_callv, e_bi, e_isi, e_meth, e_ix, e_slF, e_slT, e_slB, e_slN, e_rev, e_tup, e_lst, e_lc, e_lcIf, es_nil, es_cons, i_val, i_rng1, i_rng2, i_zip, getP_some, getP_map, getP_bind, getP_ite, asI_int, asF_fn, asT_tup, wpE_ok, step_name, step_many, c_eq, c_ne, c_lt, c_le, c_gt, c_ge, c_is, c_isNot, eq_int, eq_bl, eq_str, is_bl, is_nn, is_in, is_bn, is_sn, is_tn, is_ln, is_rn, t_non, t_bl, t_int, t_tup, t_rol, b_add, b_sub, b_mul, b_mod, b_fdiv, b_pow, b_addT, b_addS, b_mulT, b_mulSame, f_lenT, f_lenL, f_abs, f_max, f_min, f_int, f_intB, f_tupT, f_lstT, f_lstR, f_lenR, f_tupR, f_sum, f_all, f_any, f_anyT, f_allT, f_repr, x_tup, x_rol, x_ref, l_tup, l_ref, r_tup, m_app, m_ext, m_pop, m_cnt, p_app, p_ext, p_pop, p_cnt, s_tup, s_rol, s_ref, y_ii, y_ib, y_it, y_il, y_bi, y_bb, y_bt, y_tt, y_ti, y_tb, y_tl, y_ni, y_nt, x_set, a_add, a_sub, g_name, g_many, g_nil, g_cons, startP, wipeP, Tg.slots, List.map_cons, List.map_nil, List.length_cons, List.length_nil, List.replicate_succ, List.replicate_zero, List.cons_append, List.nil_append, List.getElem?_cons_zero, List.getElem?_cons_succ, Option.join_some, List.set_cons_zero, List.set_cons_succ, Bool.true_eq_false, reduceCtorEq, Option.map_some, Option.bind_some, Nat.reduceAdd, Nat.reduceSub, Nat.zero_add, Bool.not_true, Bool.not_false, Bool.false_eq_true, true_implies, false_implies, implies_true, and_true, true_and, not_true_eq_false, not_false_eq_true, decide_eq_true_eq, Bool.not_eq_true', Bool.not_eq_false', decide_eq_false_iff_not, iL_empty, eq_iT, gc_11, gc_0, gc_1, gc_12, gc_1202, gc_1203, getP_none, eq_wTnil, b2721_2]
  refine sp_row_of_brackets w ws (by have := (hw w (by simp)).2; omega) (fun v hv => by have := (hw v (by simp [hv])).2; omega) (by simp at hl; omega) hf fun h4 g4 => ?_
  simp -implicitDefEqProofs only [w_cons, w_nil, w_set, w_asg, w_par2, w_par3, w_setix, w_aug, w_expr, w_ret, w_retN, w_ifs, w_brk, w_cnt, w_pass, w_raise, w_for, w_whl, e_v, e_gc, e_int, e_str, e_bl, e_non, e_neg, e_not, e_bin, e_cmp, e_chain, e_and1, e_and2, e_or1, e_or2, e_and, e_or, e_ite, e_T, e_call, e_callv, e_bi, e_isi, e_meth, e_ix, e_slF, e_slT, e_slB, e_slN, e_rev, e_tup, e_lst, e_lc, e_lcIf, es_nil, es_cons, i_val, i_rng1, i_rng2, i_zip, getP_some, getP_map, getP_bind, getP_ite, asI_int, asF_fn, asT_tup, wpE_ok, step_name, step_many, c_eq, c_ne, c_lt, c_le, c_gt, c_ge, c_is, c_isNot, eq_int, eq_bl, eq_str, is_bl, is_nn, is_in, is_bn, is_sn, is_tn, is_ln, is_rn, t_non, t_bl, t_int, t_tup, t_rol, b_add, b_sub, b_mul, b_mod, b_fdiv, b_pow, b_addT, b_addS, b_mulT, b_mulSame, f_lenT, f_lenL, f_abs, f_max, f_min, f_int, f_intB, f_tupT, f_lstT, f_lstR, f_lenR, f_tupR, f_sum, f_all, f_any, f_anyT, f_allT, f_repr, x_tup, x_rol, x_ref, l_tup, l_ref, r_tup, m_app, m_ext, m_pop, m_cnt, p_app, p_ext, p_pop, p_cnt, s_tup, s_rol, s_ref, y_ii, y_ib, y_it, y_il, y_bi, y_bb, y_bt, y_tt, y_ti, y_tb, y_tl, y_ni, y_nt, x_set, a_add, a_sub, g_name, g_many, g_nil, g_cons, startP, wipeP, Tg.slots, List.map_cons, List.map_nil, List.length_cons, List.length_nil, List.replicate_succ, List.replicate_zero, List.cons_append, List.nil_append, List.getElem?_cons_zero, List.getElem?_cons_succ, Option.join_some, List.set_cons_zero, List.set_cons_succ, Bool.true_eq_false, reduceCtorEq, Option.map_some, Option.bind_some, Nat.reduceAdd, Nat.reduceSub, Nat.zero_add, Bool.not_true, Bool.not_false, Bool.false_eq_true, true_implies, false_implies, implies_true, and_true, true_and, not_true_eq_false, not_false_eq_true, decide_eq_true_eq, Bool.not_eq_true', Bool.not_eq_false', decide_eq_false_iff_not, iL_empty, eq_iT, gc_11, gc_0, gc_1, gc_12, gc_1202, gc_1203, getP_none, b2721_3, b2721_4]
  exact hP _ (g3.trans g4)
theorem sp_round_rule (r : Int) (x y z : List Int) (h1 : 1 ≤ r) (h2 : r ≤ 4) (hx : Wd r x) (hy : Wd r y) (hz : Wd r z) (lx : x.length ≤ 100) (ly : y.length ≤ 100) (lz : z.length ≤ 100) (hP : ∀ h', Gr [] h h' → P (iT []) h') : wpE (run GT GC GF (d + 8) 2724 [.int r, .tup [iT x, iT y, iT z]] h) P := by
  rw [run_in (F := F2724) rfl rfl]
  simp -implicitDefEqProofs only [F2724, b2724_0, w_cons, w_nil, w_set, w_asg, w_par2, w_par3, w_setix, w_aug, w_expr, w_ret, w_retN, w_ifs, w_brk, w_cnt, w_pass, w_raise, w_for, w_whl, e_v, e_gc, e_int, e_str, e_bl, e_non, e_neg, e_not, e_bin, e_cmp, e_chain, e_and1, e_and2, e_or1, e_or2, e_and, e_or, e_ite, e_T, e_call, e_callv, e_bi, e_isi, e_meth, e_ix, e_slF, e_slT, e_slB, e_slN, e_rev, e_tup, e_lst, e_lc, e_lcIf, es_nil, es_cons, i_val, i_rng1, i_rng2, i_zip, getP_some, getP_map, getP_bind, getP_ite, asI_int, asF_fn, asT_tup, wpE_ok, step_name, step_many, c_eq, c_ne, c_lt, c_le, c_gt, c_ge, c_is, c_isNot, eq_int, eq_bl, eq_str, is_bl, is_nn, is_in, is_bn, is_sn, is_tn, is_ln, is_rn, t_non, t_bl, t_int, t_tup, t_rol, b_add, b_sub, b_mul, b_mod, b_fdiv, b_pow, b_addT, b_addS, b_mulT, b_mulSame, f_lenT, f_lenL, f_abs, f_max, f_min, f_int, f_intB, f_tupT, f_lstT, f_lstR, f_lenR, f_tupR, f_sum, f_all, f_any, f_anyT, f_allT, f_repr, x_tup, x_rol, x_ref, l_tup, l_ref, r_tup, m_app, m_ext, m_pop, m_cnt, p_app, p_ext, p_pop, p_cnt, s_tup, s_rol, s_ref, y_ii, y_ib, y_it, y_il, y_bi, y_bb, y_bt, y_tt, y_ti, y_tb, y_tl, y_ni, y_nt, x_set, a_add, a_sub, g_name, g_many, g_nil, g_cons, startP, wipeP, Tg.slots, List.map_cons, List.map_nil, List.length_cons, List.length_nil, List.replicate_succ, List.replicate_zero, List.cons_append, List.nil_append, List.getElem?_cons_zero, List.getElem?_cons_succ, Option.join_some, List.set_cons_zero, List.set_cons_succ, Bool.true_eq_false, reduceCtorEq, Option.map_some, Option.bind_some, Nat.reduceAdd, Nat.reduceSub, Nat.zero_add, Bool.not_true, Bool.not_false, Bool.false_eq_true, true_implies, false_implies, implies_true, and_true, true_and, not_true_eq_false, not_false_eq_true, decide_eq_true_eq, Bool.not_eq_true', Bool.not_eq_false', decide_eq_false_iff_not, iL_empty, eq_iT, gc_11, gc_0, gc_1, gc_12, gc_1202, gc_1203, getP_none]
  refine sp_require_told_words r [x, y, z] h1 h2 (fun v hv => ?_) (by simp) (by simp; omega) fun h3 g3 => ?_
  · simp only [List.mem_cons, List.not_mem_nil, or_false] at hv
    rcases hv with rfl | rfl | rfl
    · exact ⟨hx, by omega⟩
    · exact ⟨hy, by omega⟩
    · exact ⟨hz, by omega⟩
  simp -implicitDefEqProofs only [w_cons, w_nil, w_set, w_asg, w_par2, w_par3, w_setix, w_aug, w_expr, w_ret, w_retN, w_ifs, w_brk, w_cnt, w_pass, w_raise, w_for, w_whl, e_v, e_gc, e_int, e_str, e_bl, e_non, e_neg, e_not, e_bin, e_cmp, e_chain, e_and1, e_and2, e_or1, e_or2, e_and, e_or, e_ite, e_T, e_call, e_callv, e_bi, e_isi, e_meth, e_ix, e_slF, e_slT, e_slB, e_slN, e_rev, e_tup, e_lst, e_lc, e_lcIf, es_nil, es_cons, i_val, i_rng1, i_rng2, i_zip, getP_some, getP_map, getP_bind, getP_ite, asI_int, asF_fn, asT_tup, wpE_ok, step_name, step_many, c_eq, c_ne, c_lt, c_le, c_gt, c_ge, c_is, c_isNot, eq_int, eq_bl, eq_str, is_bl, is_nn, is_in, is_bn, is_sn, is_tn, is_ln, is_rn, t_non, t_bl, t_int, t_tup, t_rol, b_add, b_sub, b_mul, b_mod, b_fdiv, b_pow, b_addT, b_addS, b_mulT, b_mulSame, f_lenT, f_lenL, f_abs, f_max, f_min, f_int, f_intB, f_tupT, f_lstT, f_lstR, f_lenR, f_tupR, f_sum, f_all, f_any, f_anyT, f_allT, f_repr, x_tup, x_rol, x_ref, l_tup, l_ref, r_tup, m_app, m_ext, m_pop, m_cnt, p_app, p_ext, p_pop, p_cnt, s_tup, s_rol, s_ref, y_ii, y_ib, y_it, y_il, y_bi, y_bb, y_bt, y_tt, y_ti, y_tb, y_tl, y_ni, y_nt, x_set, a_add, a_sub, g_name, g_many, g_nil, g_cons, startP, wipeP, Tg.slots, List.map_cons, List.map_nil, List.length_cons, List.length_nil, List.replicate_succ, List.replicate_zero, List.cons_append, List.nil_append, List.getElem?_cons_zero, List.getElem?_cons_succ, Option.join_some, List.set_cons_zero, List.set_cons_succ, Bool.true_eq_false, reduceCtorEq, Option.map_some, Option.bind_some, Nat.reduceAdd, Nat.reduceSub, Nat.zero_add, Bool.not_true, Bool.not_false, Bool.false_eq_true, true_implies, false_implies, implies_true, and_true, true_and, not_true_eq_false, not_false_eq_true, decide_eq_true_eq, Bool.not_eq_true', Bool.not_eq_false', decide_eq_false_iff_not, iL_empty, eq_iT, gc_11, gc_0, gc_1, gc_12, gc_1202, gc_1203, getP_none, b2724_1, b2724_2]
  refine ⟨fun z => absurd z (by decide), fun _ => ?_⟩
  simp -implicitDefEqProofs only [w_cons, w_nil, w_set, w_asg, w_par2, w_par3, w_setix, w_aug, w_expr, w_ret, w_retN, w_ifs, w_brk, w_cnt, w_pass, w_raise, w_for, w_whl, e_v, e_gc, e_int, e_str, e_bl, e_non, e_neg, e_not, e_bin, e_cmp, e_chain, e_and1, e_and2, e_or1, e_or2, e_and, e_or, e_ite, e_T, e_call, e_callv, e_bi, e_isi, e_meth, e_ix, e_slF, e_slT, e_slB, e_slN, e_rev, e_tup, e_lst, e_lc, e_lcIf, es_nil, es_cons, i_val, i_rng1, i_rng2, i_zip, getP_some, getP_map, getP_bind, getP_ite, asI_int, asF_fn, asT_tup, wpE_ok, step_name, step_many, c_eq, c_ne, c_lt, c_le, c_gt, c_ge, c_is, c_isNot, eq_int, eq_bl, eq_str, is_bl, is_nn, is_in, is_bn, is_sn, is_tn, is_ln, is_rn, t_non, t_bl, t_int, t_tup, t_rol, b_add, b_sub, b_mul, b_mod, b_fdiv, b_pow, b_addT, b_addS, b_mulT, b_mulSame, f_lenT, f_lenL, f_abs, f_max, f_min, f_int, f_intB, f_tupT, f_lstT, f_lstR, f_lenR, f_tupR, f_sum, f_all, f_any, f_anyT, f_allT, f_repr, x_tup, x_rol, x_ref, l_tup, l_ref, r_tup, m_app, m_ext, m_pop, m_cnt, p_app, p_ext, p_pop, p_cnt, s_tup, s_rol, s_ref, y_ii, y_ib, y_it, y_il, y_bi, y_bb, y_bt, y_tt, y_ti, y_tb, y_tl, y_ni, y_nt, x_set, a_add, a_sub, g_name, g_many, g_nil, g_cons, startP, wipeP, Tg.slots, List.map_cons, List.map_nil, List.length_cons, List.length_nil, List.replicate_succ, List.replicate_zero, List.cons_append, List.nil_append, List.getElem?_cons_zero, List.getElem?_cons_succ, Option.join_some, List.set_cons_zero, List.set_cons_succ, Bool.true_eq_false, reduceCtorEq, Option.map_some, Option.bind_some, Nat.reduceAdd, Nat.reduceSub, Nat.zero_add, Bool.not_true, Bool.not_false, Bool.false_eq_true, true_implies, false_implies, implies_true, and_true, true_and, not_true_eq_false, not_false_eq_true, decide_eq_true_eq, Bool.not_eq_true', Bool.not_eq_false', decide_eq_false_iff_not, iL_empty, eq_iT, gc_11, gc_0, gc_1, gc_12, gc_1202, gc_1203, getP_none, b2724_3]
  refine sp_rule_part x y z (by omega) (by omega) (by omega) fun h4 g4 => ?_
  (try simp -implicitDefEqProofs only [w_cons, w_nil, w_set, w_asg, w_par2, w_par3, w_setix, w_aug, w_expr, w_ret, w_retN, w_ifs, w_brk, w_cnt, w_pass, w_raise, w_for, w_whl, e_v, e_gc, e_int, e_str, e_bl, e_non, e_neg, e_not, e_bin, e_cmp, e_chain, e_and1, e_and2, e_or1, e_or2, e_and, e_or, e_ite, e_T, e_call, e_callv, e_bi, e_isi, e_meth, e_ix, e_slF, e_slT, e_slB, e_slN, e_rev, e_tup, e_lst, e_lc, e_lcIf, es_nil, es_cons, i_val, i_rng1, i_rng2, i_zip, getP_some, getP_map, getP_bind, getP_ite, asI_int, asF_fn, asT_tup, wpE_ok, step_name, step_many, c_eq, c_ne, c_lt, c_le, c_gt, c_ge, c_is, c_isNot, eq_int, eq_bl, eq_str, is_bl, is_nn, is_in, is_bn, is_sn, is_tn, is_ln, is_rn, t_non, t_bl, t_int, t_tup, t_rol, b_add, b_sub, b_mul, b_mod, b_fdiv, b_pow, b_addT, b_addS, b_mulT, b_mulSame, f_lenT, f_lenL, f_abs, f_max, f_min, f_int, f_intB, f_tupT, f_lstT, f_lstR, f_lenR, f_tupR, f_sum, f_all, f_any, f_anyT, f_allT, f_repr, x_tup, x_rol, x_ref, l_tup, l_ref, r_tup, m_app, m_ext, m_pop, m_cnt, p_app, p_ext, p_pop, p_cnt, s_tup, s_rol, s_ref, y_ii, y_ib, y_it, y_il, y_bi, y_bb, y_bt, y_tt, y_ti, y_tb, y_tl, y_ni, y_nt, x_set, a_add, a_sub, g_name, g_many, g_nil, g_cons, startP, wipeP, Tg.slots, List.map_cons, List.map_nil, List.length_cons, List.length_nil, List.replicate_succ, List.replicate_zero, List.cons_append, List.nil_append, List.getElem?_cons_zero, List.getElem?_cons_succ, Option.join_some, List.set_cons_zero, List.set_cons_succ, Bool.true_eq_false, reduceCtorEq, Option.map_some, Option.bind_some, Nat.reduceAdd, Nat.reduceSub, Nat.zero_add, Bool.not_true, Bool.not_false, Bool.false_eq_true, true_implies, false_implies, implies_true, and_true, true_and, not_true_eq_false, not_false_eq_true, decide_eq_true_eq, Bool.not_eq_true', Bool.not_eq_false', decide_eq_false_iff_not, iL_empty, eq_iT, gc_11, gc_0, gc_1, gc_12, gc_1202, gc_1203, getP_none])
  refine sp_rule_part y z x (by omega) (by omega) (by omega) fun h5 g5 => ?_
  (try simp -implicitDefEqProofs only [w_cons, w_nil, w_set, w_asg, w_par2, w_par3, w_setix, w_aug, w_expr, w_ret, w_retN, w_ifs, w_brk, w_cnt, w_pass, w_raise, w_for, w_whl, e_v, e_gc, e_int, e_str, e_bl, e_non, e_neg, e_not, e_bin, e_cmp, e_chain, e_and1, e_and2, e_or1, e_or2, e_and, e_or, e_ite, e_T, e_call, e_callv, e_bi, e_isi, e_meth, e_ix, e_slF, e_slT, e_slB, e_slN, e_rev, e_tup, e_lst, e_lc, e_lcIf, es_nil, es_cons, i_val, i_rng1, i_rng2, i_zip, getP_some, getP_map, getP_bind, getP_ite, asI_int, asF_fn, asT_tup, wpE_ok, step_name, step_many, c_eq, c_ne, c_lt, c_le, c_gt, c_ge, c_is, c_isNot, eq_int, eq_bl, eq_str, is_bl, is_nn, is_in, is_bn, is_sn, is_tn, is_ln, is_rn, t_non, t_bl, t_int, t_tup, t_rol, b_add, b_sub, b_mul, b_mod, b_fdiv, b_pow, b_addT, b_addS, b_mulT, b_mulSame, f_lenT, f_lenL, f_abs, f_max, f_min, f_int, f_intB, f_tupT, f_lstT, f_lstR, f_lenR, f_tupR, f_sum, f_all, f_any, f_anyT, f_allT, f_repr, x_tup, x_rol, x_ref, l_tup, l_ref, r_tup, m_app, m_ext, m_pop, m_cnt, p_app, p_ext, p_pop, p_cnt, s_tup, s_rol, s_ref, y_ii, y_ib, y_it, y_il, y_bi, y_bb, y_bt, y_tt, y_ti, y_tb, y_tl, y_ni, y_nt, x_set, a_add, a_sub, g_name, g_many, g_nil, g_cons, startP, wipeP, Tg.slots, List.map_cons, List.map_nil, List.length_cons, List.length_nil, List.replicate_succ, List.replicate_zero, List.cons_append, List.nil_append, List.getElem?_cons_zero, List.getElem?_cons_succ, Option.join_some, List.set_cons_zero, List.set_cons_succ, Bool.true_eq_false, reduceCtorEq, Option.map_some, Option.bind_some, Nat.reduceAdd, Nat.reduceSub, Nat.zero_add, Bool.not_true, Bool.not_false, Bool.false_eq_true, true_implies, false_implies, implies_true, and_true, true_and, not_true_eq_false, not_false_eq_true, decide_eq_true_eq, Bool.not_eq_true', Bool.not_eq_false', decide_eq_false_iff_not, iL_empty, eq_iT, gc_11, gc_0, gc_1, gc_12, gc_1202, gc_1203, getP_none])
  refine sp_rule_part z x y (by omega) (by omega) (by omega) fun h6 g6 => ?_
  (try simp -implicitDefEqProofs only [w_cons, w_nil, w_set, w_asg, w_par2, w_par3, w_setix, w_aug, w_expr, w_ret, w_retN, w_ifs, w_brk, w_cnt, w_pass, w_raise, w_for, w_whl, e_v, e_gc, e_int, e_str, e_bl, e_non, e_neg, e_not, e_bin, e_cmp, e_chain, e_and1, e_and2, e_or1, e_or2, e_and, e_or, e_ite, e_T, e_call, e_callv, e_bi, e_isi, e_meth, e_ix, e_slF, e_slT, e_slB, e_slN, e_rev, e_tup, e_lst, e_lc, e_lcIf, es_nil, es_cons, i_val, i_rng1, i_rng2, i_zip, getP_some, getP_map, getP_bind, getP_ite, asI_int, asF_fn, asT_tup, wpE_ok, step_name, step_many, c_eq, c_ne, c_lt, c_le, c_gt, c_ge, c_is, c_isNot, eq_int, eq_bl, eq_str, is_bl, is_nn, is_in, is_bn, is_sn, is_tn, is_ln, is_rn, t_non, t_bl, t_int, t_tup, t_rol, b_add, b_sub, b_mul, b_mod, b_fdiv, b_pow, b_addT, b_addS, b_mulT, b_mulSame, f_lenT, f_lenL, f_abs, f_max, f_min, f_int, f_intB, f_tupT, f_lstT, f_lstR, f_lenR, f_tupR, f_sum, f_all, f_any, f_anyT, f_allT, f_repr, x_tup, x_rol, x_ref, l_tup, l_ref, r_tup, m_app, m_ext, m_pop, m_cnt, p_app, p_ext, p_pop, p_cnt, s_tup, s_rol, s_ref, y_ii, y_ib, y_it, y_il, y_bi, y_bb, y_bt, y_tt, y_ti, y_tb, y_tl, y_ni, y_nt, x_set, a_add, a_sub, g_name, g_many, g_nil, g_cons, startP, wipeP, Tg.slots, List.map_cons, List.map_nil, List.length_cons, List.length_nil, List.replicate_succ, List.replicate_zero, List.cons_append, List.nil_append, List.getElem?_cons_zero, List.getElem?_cons_succ, Option.join_some, List.set_cons_zero, List.set_cons_succ, Bool.true_eq_false, reduceCtorEq, Option.map_some, Option.bind_some, Nat.reduceAdd, Nat.reduceSub, Nat.zero_add, Bool.not_true, Bool.not_false, Bool.false_eq_true, true_implies, false_implies, implies_true, and_true, true_and, not_true_eq_false, not_false_eq_true, decide_eq_true_eq, Bool.not_eq_true', Bool.not_eq_false', decide_eq_false_iff_not, iL_empty, eq_iT, gc_11, gc_0, gc_1, gc_12, gc_1202, gc_1203, getP_none])
  have rl : ∀ a b c : List Int, a.length ≤ 100 → b.length ≤ 100 → c.length ≤ 100 → (rp a b c).length < 10000 := fun a b c la lb lc => by
    have q1 := pb_len a (un b)
    rw [un_len] at q1
    have q2 := pb_len (pb a (un b)) c
    have q3 := sh_len (un b ++ pb (pb a (un b)) c ++ b)
    simp only [List.length_append, un_len] at q3
    unfold rp
    omega
  have l1 := rl x y z lx ly lz
  have l2 := rl y z x ly lz lx
  have l3 := rl z x y lz lx ly
  refine ⟨by decide, ?_⟩
  refine sp_product_inR h6.length [rp x y z, rp y z x, rp z x y] lst_new (by simp; omega) (by simp) fun h7 g7 => ?_
  have e : sh [rp x y z, rp y z x, rp z x y].flatten = [] := by
    have := round_nil x y z
    simpa using this
  rw [e]
  exact hP _ ((((g3.trans g4).trans g5).trans g6).new.trans g7)
end
end Pi

-- w_cons, w_nil, w_set, w_asg, w_par2, w_par3, w_setix, w_aug, w_expr, w_ret, w_retN, w_ifs, w_brk, w_cnt, w_pass, w_raise, w_for, w_whl, e_v, e_gc, e_int, e_str, e_bl, e_non, e_neg, e_not, e_bin, e_cmp, e_chain, e_and1, e_and2, e_or1, e_or2, e_and, e_or, e_ite, e_T, e_call, e_callv, e_bi, e_isi, e_meth, e_ix, e_slF, e_slT, e_slB, e_slN, e_rev, e_tup, e_lst, e_lc, e_lcIf, es_nil, es_cons, i_val, i_rng1, i_rng2, i_zip, getP_some, getP_map, getP_bind, getP_ite, asI_int, asF_fn, asT_tup, wpE_ok, step_name, step_many, c_eq, c_ne, c_lt, c_le, c_gt, c_ge, c_is, c_isNot, eq_int, eq_bl, eq_str, is_bl, is_nn, is_in, is_bn, is_sn, is_tn, is_ln, is_rn, t_non, t_bl, t_int, t_tup, t_rol, b_add, b_sub, b_mul, b_mod, b_fdiv, b_pow, b_addT, b_addS, b_mulT, b_mulSame, f_lenT, f_lenL, f_abs, f_max, f_min, f_int, f_intB, f_tupT, f_lstT, f_lstR, f_lenR, f_tupR, f_sum, f_all, f_any, f_anyT, f_allT, f_repr, x_tup, x_rol, x_ref, l_tup, l_ref, r_tup, m_app, m_ext, m_pop, m_cnt, p_app, p_ext, p_pop, p_cnt, s_tup, s_rol, s_ref, y_ii, y_ib, y_it, y_il, y_bi, y_bb, y_bt, y_tt, y_ti, y_tb, y_tl, y_ni, y_nt, x_set, a_add, a_sub, g_name, g_many, g_nil, g_cons, startP, wipeP, Tg.slots, List.map_cons, List.map_nil, List.length_cons, List.length_nil, List.replicate_succ, List.replicate_zero, List.cons_append, List.nil_append, List.getElem?_cons_zero, List.getElem?_cons_succ, Option.join_some, List.set_cons_zero, List.set_cons_succ, Bool.true_eq_false, reduceCtorEq, Option.map_some, Option.bind_some, Nat.reduceAdd, Nat.reduceSub, Nat.zero_add, Bool.not_true, Bool.not_false, Bool.false_eq_true, true_implies, false_implies, implies_true, and_true, true_and, not_true_eq_false, not_false_eq_true, decide_eq_true_eq, Bool.not_eq_true', Bool.not_eq_false', decide_eq_false_iff_not, iL_empty, eq_iT, gc_11, gc_0, gc_1, gc_12, gc_1202, gc_1203, getP_none+: gc_11 gc_0 gc_1 gc_12 gc_1202 gc_1203
set_option Elab.async false
set_option linter.all false
set_option maxRecDepth 100000
set_option maxHeartbeats 8000000
/-! runs: the law of brackets. -/
namespace Pi
open PySem Wm
section
variable {d : Nat} {h : IH} {P : PV → IH → Prop}
theorem sp_law_br_bracket (x y : List Int) (hx : x.length < 100000) (hy : y.length < 100000) (hP : ∀ h', Gr [] h h' → P (iT (br x y)) h') : wpE (run GT GC GF (d + 3) 2725 [iT x, iT y] h) P := by
  rw [run_in (F := F2725) rfl rfl]
  simp -implicitDefEqProofs only [F2725, b2725_0, w_cons, w_nil, w_set, w_asg, w_par2, w_par3, w_setix, w_aug, w_expr, w_ret, w_retN, w_ifs, w_brk, w_cnt, w_pass, w_raise, w_for, w_whl, e_v, e_gc, e_int, e_str, e_bl, e_non, e_neg, e_not, e_bin, e_cmp, e_chain, e_and1, e_and2, e_or1, e_or2, e_and, e_or, e_ite, e_T, e_call, e_callv, e_bi, e_isi, e_meth, e_ix, e_slF, e_slT, e_slB, e_slN, e_rev, e_tup, e_lst, e_lc, e_lcIf, es_nil, es_cons, i_val, i_rng1, i_rng2, i_zip, getP_some, getP_map, getP_bind, getP_ite, asI_int, asF_fn, asT_tup, wpE_ok, step_name, step_many, c_eq, c_ne, c_lt, c_le, c_gt, c_ge, c_is, c_isNot, eq_int, eq_bl, eq_str, is_bl, is_nn, is_in, is_bn, is_sn, is_tn, is_ln, is_rn, t_non, t_bl, t_int, t_tup, t_rol, b_add, b_sub, b_mul, b_mod, b_fdiv, b_pow, b_addT, b_addS, b_mulT, b_mulSame, f_lenT, f_lenL, f_abs, f_max, f_min, f_int, f_intB, f_tupT, f_lstT, f_lstR, f_lenR, f_tupR, f_sum, f_all, f_any, f_anyT, f_allT, f_repr, x_tup, x_rol, x_ref, l_tup, l_ref, r_tup, m_app, m_ext, m_pop, m_cnt, p_app, p_ext, p_pop, p_cnt, s_tup, s_rol, s_ref, y_ii, y_ib, y_it, y_il, y_bi, y_bb, y_bt, y_tt, y_ti, y_tb, y_tl, y_ni, y_nt, x_set, a_add, a_sub, g_name, g_many, g_nil, g_cons, startP, wipeP, Tg.slots, List.map_cons, List.map_nil, List.length_cons, List.length_nil, List.replicate_succ, List.replicate_zero, List.cons_append, List.nil_append, List.getElem?_cons_zero, List.getElem?_cons_succ, Option.join_some, List.set_cons_zero, List.set_cons_succ, Bool.true_eq_false, reduceCtorEq, Option.map_some, Option.bind_some, Nat.reduceAdd, Nat.reduceSub, Nat.zero_add, Bool.not_true, Bool.not_false, Bool.false_eq_true, true_implies, false_implies, implies_true, and_true, true_and, not_true_eq_false, not_false_eq_true, decide_eq_true_eq, Bool.not_eq_true', Bool.not_eq_false', decide_eq_false_iff_not, iL_empty, eq_iT, gc_11, gc_0, gc_1, gc_12, gc_1202, gc_1203, getP_none]
  refine sp_law_undone x (by omega) fun h1 g1 => ?_
  (try simp -implicitDefEqProofs only [w_cons, w_nil, w_set, w_asg, w_par2, w_par3, w_setix, w_aug, w_expr, w_ret, w_retN, w_ifs, w_brk, w_cnt, w_pass, w_raise, w_for, w_whl, e_v, e_gc, e_int, e_str, e_bl, e_non, e_neg, e_not, e_bin, e_cmp, e_chain, e_and1, e_and2, e_or1, e_or2, e_and, e_or, e_ite, e_T, e_call, e_callv, e_bi, e_isi, e_meth, e_ix, e_slF, e_slT, e_slB, e_slN, e_rev, e_tup, e_lst, e_lc, e_lcIf, es_nil, es_cons, i_val, i_rng1, i_rng2, i_zip, getP_some, getP_map, getP_bind, getP_ite, asI_int, asF_fn, asT_tup, wpE_ok, step_name, step_many, c_eq, c_ne, c_lt, c_le, c_gt, c_ge, c_is, c_isNot, eq_int, eq_bl, eq_str, is_bl, is_nn, is_in, is_bn, is_sn, is_tn, is_ln, is_rn, t_non, t_bl, t_int, t_tup, t_rol, b_add, b_sub, b_mul, b_mod, b_fdiv, b_pow, b_addT, b_addS, b_mulT, b_mulSame, f_lenT, f_lenL, f_abs, f_max, f_min, f_int, f_intB, f_tupT, f_lstT, f_lstR, f_lenR, f_tupR, f_sum, f_all, f_any, f_anyT, f_allT, f_repr, x_tup, x_rol, x_ref, l_tup, l_ref, r_tup, m_app, m_ext, m_pop, m_cnt, p_app, p_ext, p_pop, p_cnt, s_tup, s_rol, s_ref, y_ii, y_ib, y_it, y_il, y_bi, y_bb, y_bt, y_tt, y_ti, y_tb, y_tl, y_ni, y_nt, x_set, a_add, a_sub, g_name, g_many, g_nil, g_cons, startP, wipeP, Tg.slots, List.map_cons, List.map_nil, List.length_cons, List.length_nil, List.replicate_succ, List.replicate_zero, List.cons_append, List.nil_append, List.getElem?_cons_zero, List.getElem?_cons_succ, Option.join_some, List.set_cons_zero, List.set_cons_succ, Bool.true_eq_false, reduceCtorEq, Option.map_some, Option.bind_some, Nat.reduceAdd, Nat.reduceSub, Nat.zero_add, Bool.not_true, Bool.not_false, Bool.false_eq_true, true_implies, false_implies, implies_true, and_true, true_and, not_true_eq_false, not_false_eq_true, decide_eq_true_eq, Bool.not_eq_true', Bool.not_eq_false', decide_eq_false_iff_not, iL_empty, eq_iT, gc_11, gc_0, gc_1, gc_12, gc_1202, gc_1203, getP_none])
  refine sp_law_undone y (by omega) fun h2 g2 => ?_
  (try simp -implicitDefEqProofs only [w_cons, w_nil, w_set, w_asg, w_par2, w_par3, w_setix, w_aug, w_expr, w_ret, w_retN, w_ifs, w_brk, w_cnt, w_pass, w_raise, w_for, w_whl, e_v, e_gc, e_int, e_str, e_bl, e_non, e_neg, e_not, e_bin, e_cmp, e_chain, e_and1, e_and2, e_or1, e_or2, e_and, e_or, e_ite, e_T, e_call, e_callv, e_bi, e_isi, e_meth, e_ix, e_slF, e_slT, e_slB, e_slN, e_rev, e_tup, e_lst, e_lc, e_lcIf, es_nil, es_cons, i_val, i_rng1, i_rng2, i_zip, getP_some, getP_map, getP_bind, getP_ite, asI_int, asF_fn, asT_tup, wpE_ok, step_name, step_many, c_eq, c_ne, c_lt, c_le, c_gt, c_ge, c_is, c_isNot, eq_int, eq_bl, eq_str, is_bl, is_nn, is_in, is_bn, is_sn, is_tn, is_ln, is_rn, t_non, t_bl, t_int, t_tup, t_rol, b_add, b_sub, b_mul, b_mod, b_fdiv, b_pow, b_addT, b_addS, b_mulT, b_mulSame, f_lenT, f_lenL, f_abs, f_max, f_min, f_int, f_intB, f_tupT, f_lstT, f_lstR, f_lenR, f_tupR, f_sum, f_all, f_any, f_anyT, f_allT, f_repr, x_tup, x_rol, x_ref, l_tup, l_ref, r_tup, m_app, m_ext, m_pop, m_cnt, p_app, p_ext, p_pop, p_cnt, s_tup, s_rol, s_ref, y_ii, y_ib, y_it, y_il, y_bi, y_bb, y_bt, y_tt, y_ti, y_tb, y_tl, y_ni, y_nt, x_set, a_add, a_sub, g_name, g_many, g_nil, g_cons, startP, wipeP, Tg.slots, List.map_cons, List.map_nil, List.length_cons, List.length_nil, List.replicate_succ, List.replicate_zero, List.cons_append, List.nil_append, List.getElem?_cons_zero, List.getElem?_cons_succ, Option.join_some, List.set_cons_zero, List.set_cons_succ, Bool.true_eq_false, reduceCtorEq, Option.map_some, Option.bind_some, Nat.reduceAdd, Nat.reduceSub, Nat.zero_add, Bool.not_true, Bool.not_false, Bool.false_eq_true, true_implies, false_implies, implies_true, and_true, true_and, not_true_eq_false, not_false_eq_true, decide_eq_true_eq, Bool.not_eq_true', Bool.not_eq_false', decide_eq_false_iff_not, iL_empty, eq_iT, gc_11, gc_0, gc_1, gc_12, gc_1202, gc_1203, getP_none])
  refine ⟨by decide, ?_⟩
  refine sp_law_productR h2.length [x, y, un x, un y] lst_new (by simp [un_len]; omega) (by simp) fun h3 g3 => ?_
  have e : sh [x, y, un x, un y].flatten = br x y := by simp [br]
  rw [e]
  exact hP _ ((g1.trans g2).new.trans g3)
theorem sp_law_row_of (w : List Int) (ws : List (List Int)) (hw : w.length < 1000) (hws : ∀ v ∈ ws, v.length < 1000) (hl : ws.length < 1000) (hf : fits 400 (sh w) ws) (hP : ∀ h', Gr [] h h' → P (iT (rowB (w :: ws))) h') : wpE (run GT GC GF (d + 4) 2727 [wT (w :: ws)] h) P := by
  rw [run_in (F := F2727) rfl rfl]
  have a0 : L2.atI (wL (w :: ws)) 0 = some (iT w) := L2.atI_nat (j := 0) rfl
  simp -implicitDefEqProofs only [F2727, b2727_0, w_cons, w_nil, w_set, w_asg, w_par2, w_par3, w_setix, w_aug, w_expr, w_ret, w_retN, w_ifs, w_brk, w_cnt, w_pass, w_raise, w_for, w_whl, e_v, e_gc, e_int, e_str, e_bl, e_non, e_neg, e_not, e_bin, e_cmp, e_chain, e_and1, e_and2, e_or1, e_or2, e_and, e_or, e_ite, e_T, e_call, e_callv, e_bi, e_isi, e_meth, e_ix, e_slF, e_slT, e_slB, e_slN, e_rev, e_tup, e_lst, e_lc, e_lcIf, es_nil, es_cons, i_val, i_rng1, i_rng2, i_zip, getP_some, getP_map, getP_bind, getP_ite, asI_int, asF_fn, asT_tup, wpE_ok, step_name, step_many, c_eq, c_ne, c_lt, c_le, c_gt, c_ge, c_is, c_isNot, eq_int, eq_bl, eq_str, is_bl, is_nn, is_in, is_bn, is_sn, is_tn, is_ln, is_rn, t_non, t_bl, t_int, t_tup, t_rol, b_add, b_sub, b_mul, b_mod, b_fdiv, b_pow, b_addT, b_addS, b_mulT, b_mulSame, f_lenT, f_lenL, f_abs, f_max, f_min, f_int, f_intB, f_tupT, f_lstT, f_lstR, f_lenR, f_tupR, f_sum, f_all, f_any, f_anyT, f_allT, f_repr, x_tup, x_rol, x_ref, l_tup, l_ref, r_tup, m_app, m_ext, m_pop, m_cnt, p_app, p_ext, p_pop, p_cnt, s_tup, s_rol, s_ref, y_ii, y_ib, y_it, y_il, y_bi, y_bb, y_bt, y_tt, y_ti, y_tb, y_tl, y_ni, y_nt, x_set, a_add, a_sub, g_name, g_many, g_nil, g_cons, startP, wipeP, Tg.slots, List.map_cons, List.map_nil, List.length_cons, List.length_nil, List.replicate_succ, List.replicate_zero, List.cons_append, List.nil_append, List.getElem?_cons_zero, List.getElem?_cons_succ, Option.join_some, List.set_cons_zero, List.set_cons_succ, Bool.true_eq_false, reduceCtorEq, Option.map_some, Option.bind_some, Nat.reduceAdd, Nat.reduceSub, Nat.zero_add, Bool.not_true, Bool.not_false, Bool.false_eq_true, true_implies, false_implies, implies_true, and_true, true_and, not_true_eq_false, not_false_eq_true, decide_eq_true_eq, Bool.not_eq_true', Bool.not_eq_false', decide_eq_false_iff_not, iL_empty, eq_iT, gc_11, gc_0, gc_1, gc_12, gc_1202, gc_1203, getP_none, a0]
  refine sp_law_short w (by omega) fun h1 g1 => ?_
  simp -implicitDefEqProofs only [w_cons, w_nil, w_set, w_asg, w_par2, w_par3, w_setix, w_aug, w_expr, w_ret, w_retN, w_ifs, w_brk, w_cnt, w_pass, w_raise, w_for, w_whl, e_v, e_gc, e_int, e_str, e_bl, e_non, e_neg, e_not, e_bin, e_cmp, e_chain, e_and1, e_and2, e_or1, e_or2, e_and, e_or, e_ite, e_T, e_call, e_callv, e_bi, e_isi, e_meth, e_ix, e_slF, e_slT, e_slB, e_slN, e_rev, e_tup, e_lst, e_lc, e_lcIf, es_nil, es_cons, i_val, i_rng1, i_rng2, i_zip, getP_some, getP_map, getP_bind, getP_ite, asI_int, asF_fn, asT_tup, wpE_ok, step_name, step_many, c_eq, c_ne, c_lt, c_le, c_gt, c_ge, c_is, c_isNot, eq_int, eq_bl, eq_str, is_bl, is_nn, is_in, is_bn, is_sn, is_tn, is_ln, is_rn, t_non, t_bl, t_int, t_tup, t_rol, b_add, b_sub, b_mul, b_mod, b_fdiv, b_pow, b_addT, b_addS, b_mulT, b_mulSame, f_lenT, f_lenL, f_abs, f_max, f_min, f_int, f_intB, f_tupT, f_lstT, f_lstR, f_lenR, f_tupR, f_sum, f_all, f_any, f_anyT, f_allT, f_repr, x_tup, x_rol, x_ref, l_tup, l_ref, r_tup, m_app, m_ext, m_pop, m_cnt, p_app, p_ext, p_pop, p_cnt, s_tup, s_rol, s_ref, y_ii, y_ib, y_it, y_il, y_bi, y_bb, y_bt, y_tt, y_ti, y_tb, y_tl, y_ni, y_nt, x_set, a_add, a_sub, g_name, g_many, g_nil, g_cons, startP, wipeP, Tg.slots, List.map_cons, List.map_nil, List.length_cons, List.length_nil, List.replicate_succ, List.replicate_zero, List.cons_append, List.nil_append, List.getElem?_cons_zero, List.getElem?_cons_succ, Option.join_some, List.set_cons_zero, List.set_cons_succ, Bool.true_eq_false, reduceCtorEq, Option.map_some, Option.bind_some, Nat.reduceAdd, Nat.reduceSub, Nat.zero_add, Bool.not_true, Bool.not_false, Bool.false_eq_true, true_implies, false_implies, implies_true, and_true, true_and, not_true_eq_false, not_false_eq_true, decide_eq_true_eq, Bool.not_eq_true', Bool.not_eq_false', decide_eq_false_iff_not, iL_empty, eq_iT, gc_11, gc_0, gc_1, gc_12, gc_1202, gc_1203, getP_none, b2727_1, cutW, List.drop_succ_cons, List.drop_zero]
  refine for_fix (fun i ρ h' => ∃ o, ρ = [some (wT (w :: ws)), some (iT ((ws.take i).foldl br (sh w))), o] ∧ Gr [] h h' ∧ ((ws.take i).foldl br (sh w)).length ≤ 1000) ⟨none, rfl, g1, by have := sh_len w; simp only [List.take_zero, List.foldl_nil]; omega⟩ (fun i x ρ h' hx hI => ?_) (fun ρ h' hI => ?_) (gf (by rw [wL_len]; omega))
  · obtain ⟨o, rfl, hg, hb⟩ := hI
    obtain ⟨v, hv, rfl⟩ := wL_get hx
    have lv := hws v (List.mem_of_getElem? hv)
    have lf := fits_at hf hv
    simp -implicitDefEqProofs only [w_cons, w_nil, w_set, w_asg, w_par2, w_par3, w_setix, w_aug, w_expr, w_ret, w_retN, w_ifs, w_brk, w_cnt, w_pass, w_raise, w_for, w_whl, e_v, e_gc, e_int, e_str, e_bl, e_non, e_neg, e_not, e_bin, e_cmp, e_chain, e_and1, e_and2, e_or1, e_or2, e_and, e_or, e_ite, e_T, e_call, e_callv, e_bi, e_isi, e_meth, e_ix, e_slF, e_slT, e_slB, e_slN, e_rev, e_tup, e_lst, e_lc, e_lcIf, es_nil, es_cons, i_val, i_rng1, i_rng2, i_zip, getP_some, getP_map, getP_bind, getP_ite, asI_int, asF_fn, asT_tup, wpE_ok, step_name, step_many, c_eq, c_ne, c_lt, c_le, c_gt, c_ge, c_is, c_isNot, eq_int, eq_bl, eq_str, is_bl, is_nn, is_in, is_bn, is_sn, is_tn, is_ln, is_rn, t_non, t_bl, t_int, t_tup, t_rol, b_add, b_sub, b_mul, b_mod, b_fdiv, b_pow, b_addT, b_addS, b_mulT, b_mulSame, f_lenT, f_lenL, f_abs, f_max, f_min, f_int, f_intB, f_tupT, f_lstT, f_lstR, f_lenR, f_tupR, f_sum, f_all, f_any, f_anyT, f_allT, f_repr, x_tup, x_rol, x_ref, l_tup, l_ref, r_tup, m_app, m_ext, m_pop, m_cnt, p_app, p_ext, p_pop, p_cnt, s_tup, s_rol, s_ref, y_ii, y_ib, y_it, y_il, y_bi, y_bb, y_bt, y_tt, y_ti, y_tb, y_tl, y_ni, y_nt, x_set, a_add, a_sub, g_name, g_many, g_nil, g_cons, startP, wipeP, Tg.slots, List.map_cons, List.map_nil, List.length_cons, List.length_nil, List.replicate_succ, List.replicate_zero, List.cons_append, List.nil_append, List.getElem?_cons_zero, List.getElem?_cons_succ, Option.join_some, List.set_cons_zero, List.set_cons_succ, Bool.true_eq_false, reduceCtorEq, Option.map_some, Option.bind_some, Nat.reduceAdd, Nat.reduceSub, Nat.zero_add, Bool.not_true, Bool.not_false, Bool.false_eq_true, true_implies, false_implies, implies_true, and_true, true_and, not_true_eq_false, not_false_eq_true, decide_eq_true_eq, Bool.not_eq_true', Bool.not_eq_false', decide_eq_false_iff_not, iL_empty, eq_iT, gc_11, gc_0, gc_1, gc_12, gc_1202, gc_1203, getP_none, l2727_0_0]
    refine sp_law_br_bracket _ v (by omega) (by omega) fun h2 g2 => ?_
    (try simp -implicitDefEqProofs only [w_cons, w_nil, w_set, w_asg, w_par2, w_par3, w_setix, w_aug, w_expr, w_ret, w_retN, w_ifs, w_brk, w_cnt, w_pass, w_raise, w_for, w_whl, e_v, e_gc, e_int, e_str, e_bl, e_non, e_neg, e_not, e_bin, e_cmp, e_chain, e_and1, e_and2, e_or1, e_or2, e_and, e_or, e_ite, e_T, e_call, e_callv, e_bi, e_isi, e_meth, e_ix, e_slF, e_slT, e_slB, e_slN, e_rev, e_tup, e_lst, e_lc, e_lcIf, es_nil, es_cons, i_val, i_rng1, i_rng2, i_zip, getP_some, getP_map, getP_bind, getP_ite, asI_int, asF_fn, asT_tup, wpE_ok, step_name, step_many, c_eq, c_ne, c_lt, c_le, c_gt, c_ge, c_is, c_isNot, eq_int, eq_bl, eq_str, is_bl, is_nn, is_in, is_bn, is_sn, is_tn, is_ln, is_rn, t_non, t_bl, t_int, t_tup, t_rol, b_add, b_sub, b_mul, b_mod, b_fdiv, b_pow, b_addT, b_addS, b_mulT, b_mulSame, f_lenT, f_lenL, f_abs, f_max, f_min, f_int, f_intB, f_tupT, f_lstT, f_lstR, f_lenR, f_tupR, f_sum, f_all, f_any, f_anyT, f_allT, f_repr, x_tup, x_rol, x_ref, l_tup, l_ref, r_tup, m_app, m_ext, m_pop, m_cnt, p_app, p_ext, p_pop, p_cnt, s_tup, s_rol, s_ref, y_ii, y_ib, y_it, y_il, y_bi, y_bb, y_bt, y_tt, y_ti, y_tb, y_tl, y_ni, y_nt, x_set, a_add, a_sub, g_name, g_many, g_nil, g_cons, startP, wipeP, Tg.slots, List.map_cons, List.map_nil, List.length_cons, List.length_nil, List.replicate_succ, List.replicate_zero, List.cons_append, List.nil_append, List.getElem?_cons_zero, List.getElem?_cons_succ, Option.join_some, List.set_cons_zero, List.set_cons_succ, Bool.true_eq_false, reduceCtorEq, Option.map_some, Option.bind_some, Nat.reduceAdd, Nat.reduceSub, Nat.zero_add, Bool.not_true, Bool.not_false, Bool.false_eq_true, true_implies, false_implies, implies_true, and_true, true_and, not_true_eq_false, not_false_eq_true, decide_eq_true_eq, Bool.not_eq_true', Bool.not_eq_false', decide_eq_false_iff_not, iL_empty, eq_iT, gc_11, gc_0, gc_1, gc_12, gc_1202, gc_1203, getP_none])
    refine ⟨some (iT v), ?_, hg.trans g2, ?_⟩
    · rw [List.take_add_one, hv, Option.toList, List.foldl_append]
      rfl
    · rw [List.take_add_one, hv, Option.toList, List.foldl_append]
      show (br _ v).length ≤ 1000
      omega
  · obtain ⟨o, rfl, hg, hb⟩ := hI
    rw [wL_len, List.take_length]
    simp -implicitDefEqProofs only [w_cons, w_nil, w_set, w_asg, w_par2, w_par3, w_setix, w_aug, w_expr, w_ret, w_retN, w_ifs, w_brk, w_cnt, w_pass, w_raise, w_for, w_whl, e_v, e_gc, e_int, e_str, e_bl, e_non, e_neg, e_not, e_bin, e_cmp, e_chain, e_and1, e_and2, e_or1, e_or2, e_and, e_or, e_ite, e_T, e_call, e_callv, e_bi, e_isi, e_meth, e_ix, e_slF, e_slT, e_slB, e_slN, e_rev, e_tup, e_lst, e_lc, e_lcIf, es_nil, es_cons, i_val, i_rng1, i_rng2, i_zip, getP_some, getP_map, getP_bind, getP_ite, asI_int, asF_fn, asT_tup, wpE_ok, step_name, step_many, c_eq, c_ne, c_lt, c_le, c_gt, c_ge, c_is, c_isNot, eq_int, eq_bl, eq_str, is_bl, is_nn, is_in, is_bn, is_sn, is_tn, is_ln, is_rn, t_non, t_bl, t_int, t_tup, t_rol, b_add, b_sub, b_mul, b_mod, b_fdiv, b_pow, b_addT, b_addS, b_mulT, b_mulSame, f_lenT, f_lenL, f_abs, f_max, f_min, f_int, f_intB, f_tupT, f_lstT, f_lstR, f_lenR, f_tupR, f_sum, f_all, f_any, f_anyT, f_allT, f_repr, x_tup, x_rol, x_ref, l_tup, l_ref, r_tup, m_app, m_ext, m_pop, m_cnt, p_app, p_ext, p_pop, p_cnt, s_tup, s_rol, s_ref, y_ii, y_ib, y_it, y_il, y_bi, y_bb, y_bt, y_tt, y_ti, y_tb, y_tl, y_ni, y_nt, x_set, a_add, a_sub, g_name, g_many, g_nil, g_cons, startP, wipeP, Tg.slots, List.map_cons, List.map_nil, List.length_cons, List.length_nil, List.replicate_succ, List.replicate_zero, List.cons_append, List.nil_append, List.getElem?_cons_zero, List.getElem?_cons_succ, Option.join_some, List.set_cons_zero, List.set_cons_succ, Bool.true_eq_false, reduceCtorEq, Option.map_some, Option.bind_some, Nat.reduceAdd, Nat.reduceSub, Nat.zero_add, Bool.not_true, Bool.not_false, Bool.false_eq_true, true_implies, false_implies, implies_true, and_true, true_and, not_true_eq_false, not_false_eq_true, decide_eq_true_eq, Bool.not_eq_true', Bool.not_eq_false', decide_eq_false_iff_not, iL_empty, eq_iT, gc_11, gc_0, gc_1, gc_12, gc_1202, gc_1203, getP_none, b2727_2]
    exact hP _ hg
/-- how often a number stands, by a comprehension -/
theorem count_filter (w : List Int) (a : Int) (i : Nat) : (List.replicate ((w.take i).count a) (PV.int 1)).length = (w.take i).count a := by simp
theorem count_take {w : List Int} {i : Nat} {x a : Int} (hx : w[i]? = some x) : (w.take (i + 1)).count a = (w.take i).count a + (if x = a then 1 else 0) := by
  rw [List.take_add_one, hx, Option.toList, List.count_append]
  by_cases e : x = a <;> simp [e, List.count_cons]
theorem sp_law_br_counts (r : Nat) (w : List Int) (hr : r < 1000) (hl : w.length < 100000) (hP : ∀ m h', lstAt h' m = some (iL (cts r w)) → Gr [] h h' → P (.ref m) h') : wpE (run GT GC GF (d + 1) 2726 [.int r, iT w] h) P := by
  rw [run_in (F := F2726) rfl rfl]
  simp -implicitDefEqProofs only [F2726, b2726_0, w_cons, w_nil, w_set, w_asg, w_par2, w_par3, w_setix, w_aug, w_expr, w_ret, w_retN, w_ifs, w_brk, w_cnt, w_pass, w_raise, w_for, w_whl, e_v, e_gc, e_int, e_str, e_bl, e_non, e_neg, e_not, e_bin, e_cmp, e_chain, e_and1, e_and2, e_or1, e_or2, e_and, e_or, e_ite, e_T, e_call, e_callv, e_bi, e_isi, e_meth, e_ix, e_slF, e_slT, e_slB, e_slN, e_rev, e_tup, e_lst, e_lc, e_lcIf, es_nil, es_cons, i_val, i_rng1, i_rng2, i_zip, getP_some, getP_map, getP_bind, getP_ite, asI_int, asF_fn, asT_tup, wpE_ok, step_name, step_many, c_eq, c_ne, c_lt, c_le, c_gt, c_ge, c_is, c_isNot, eq_int, eq_bl, eq_str, is_bl, is_nn, is_in, is_bn, is_sn, is_tn, is_ln, is_rn, t_non, t_bl, t_int, t_tup, t_rol, b_add, b_sub, b_mul, b_mod, b_fdiv, b_pow, b_addT, b_addS, b_mulT, b_mulSame, f_lenT, f_lenL, f_abs, f_max, f_min, f_int, f_intB, f_tupT, f_lstT, f_lstR, f_lenR, f_tupR, f_sum, f_all, f_any, f_anyT, f_allT, f_repr, x_tup, x_rol, x_ref, l_tup, l_ref, r_tup, m_app, m_ext, m_pop, m_cnt, p_app, p_ext, p_pop, p_cnt, s_tup, s_rol, s_ref, y_ii, y_ib, y_it, y_il, y_bi, y_bb, y_bt, y_tt, y_ti, y_tb, y_tl, y_ni, y_nt, x_set, a_add, a_sub, g_name, g_many, g_nil, g_cons, startP, wipeP, Tg.slots, List.map_cons, List.map_nil, List.length_cons, List.length_nil, List.replicate_succ, List.replicate_zero, List.cons_append, List.nil_append, List.getElem?_cons_zero, List.getElem?_cons_succ, Option.join_some, List.set_cons_zero, List.set_cons_succ, Bool.true_eq_false, reduceCtorEq, Option.map_some, Option.bind_some, Nat.reduceAdd, Nat.reduceSub, Nat.zero_add, Bool.not_true, Bool.not_false, Bool.false_eq_true, true_implies, false_implies, implies_true, and_true, true_and, not_true_eq_false, not_false_eq_true, decide_eq_true_eq, Bool.not_eq_true', Bool.not_eq_false', decide_eq_false_iff_not, iL_empty, eq_iT, gc_11, gc_0, gc_1, gc_12, gc_1202, gc_1203, getP_none]
  refine ⟨⟨inr_small (by omega) (by omega), inr_small (by omega) (by omega)⟩, ?_⟩
  have e : ((r : Int) + 1 - 1).toNat = r := by omega
  rw [e]
  refine lc_map (ys := iL (cts r w)) [] (by simp [iL_len, cts, rngL_len]) (fun i x y h' hx hy hg => ?_) (fun h' hg => ?_) (by rw [rngL_len]; exact sz (by omega)) (gf (by rw [rngL_len]; omega))
  · obtain ⟨lt, rfl⟩ := rngL_get hx
    rw [cts_get hy]
    (try simp -implicitDefEqProofs only [w_cons, w_nil, w_set, w_asg, w_par2, w_par3, w_setix, w_aug, w_expr, w_ret, w_retN, w_ifs, w_brk, w_cnt, w_pass, w_raise, w_for, w_whl, e_v, e_gc, e_int, e_str, e_bl, e_non, e_neg, e_not, e_bin, e_cmp, e_chain, e_and1, e_and2, e_or1, e_or2, e_and, e_or, e_ite, e_T, e_call, e_callv, e_bi, e_isi, e_meth, e_ix, e_slF, e_slT, e_slB, e_slN, e_rev, e_tup, e_lst, e_lc, e_lcIf, es_nil, es_cons, i_val, i_rng1, i_rng2, i_zip, getP_some, getP_map, getP_bind, getP_ite, asI_int, asF_fn, asT_tup, wpE_ok, step_name, step_many, c_eq, c_ne, c_lt, c_le, c_gt, c_ge, c_is, c_isNot, eq_int, eq_bl, eq_str, is_bl, is_nn, is_in, is_bn, is_sn, is_tn, is_ln, is_rn, t_non, t_bl, t_int, t_tup, t_rol, b_add, b_sub, b_mul, b_mod, b_fdiv, b_pow, b_addT, b_addS, b_mulT, b_mulSame, f_lenT, f_lenL, f_abs, f_max, f_min, f_int, f_intB, f_tupT, f_lstT, f_lstR, f_lenR, f_tupR, f_sum, f_all, f_any, f_anyT, f_allT, f_repr, x_tup, x_rol, x_ref, l_tup, l_ref, r_tup, m_app, m_ext, m_pop, m_cnt, p_app, p_ext, p_pop, p_cnt, s_tup, s_rol, s_ref, y_ii, y_ib, y_it, y_il, y_bi, y_bb, y_bt, y_tt, y_ti, y_tb, y_tl, y_ni, y_nt, x_set, a_add, a_sub, g_name, g_many, g_nil, g_cons, startP, wipeP, Tg.slots, List.map_cons, List.map_nil, List.length_cons, List.length_nil, List.replicate_succ, List.replicate_zero, List.cons_append, List.nil_append, List.getElem?_cons_zero, List.getElem?_cons_succ, Option.join_some, List.set_cons_zero, List.set_cons_succ, Bool.true_eq_false, reduceCtorEq, Option.map_some, Option.bind_some, Nat.reduceAdd, Nat.reduceSub, Nat.zero_add, Bool.not_true, Bool.not_false, Bool.false_eq_true, true_implies, false_implies, implies_true, and_true, true_and, not_true_eq_false, not_false_eq_true, decide_eq_true_eq, Bool.not_eq_true', Bool.not_eq_false', decide_eq_false_iff_not, iL_empty, eq_iT, gc_11, gc_0, gc_1, gc_12, gc_1202, gc_1203, getP_none])
    refine lc_src (xs := iL w) (fun j acc h3 => acc = List.replicate ((w.take j).count (1 + (i : Int))) (.int 1) ∧ h3 = h') ⟨rfl, rfl⟩ (fun _ _ _ _ _ => rfl) (fun j x acc h3 hx _ hI => ?_) (fun acc h3 hI => ?_) (by rw [iL_len]; exact sz (by omega)) (gf (by rw [iL_len]; omega))
    · obtain ⟨rfl, rfl⟩ := hI
      obtain ⟨z, hz, rfl⟩ := iL_get hx
      (try simp -implicitDefEqProofs only [w_cons, w_nil, w_set, w_asg, w_par2, w_par3, w_setix, w_aug, w_expr, w_ret, w_retN, w_ifs, w_brk, w_cnt, w_pass, w_raise, w_for, w_whl, e_v, e_gc, e_int, e_str, e_bl, e_non, e_neg, e_not, e_bin, e_cmp, e_chain, e_and1, e_and2, e_or1, e_or2, e_and, e_or, e_ite, e_T, e_call, e_callv, e_bi, e_isi, e_meth, e_ix, e_slF, e_slT, e_slB, e_slN, e_rev, e_tup, e_lst, e_lc, e_lcIf, es_nil, es_cons, i_val, i_rng1, i_rng2, i_zip, getP_some, getP_map, getP_bind, getP_ite, asI_int, asF_fn, asT_tup, wpE_ok, step_name, step_many, c_eq, c_ne, c_lt, c_le, c_gt, c_ge, c_is, c_isNot, eq_int, eq_bl, eq_str, is_bl, is_nn, is_in, is_bn, is_sn, is_tn, is_ln, is_rn, t_non, t_bl, t_int, t_tup, t_rol, b_add, b_sub, b_mul, b_mod, b_fdiv, b_pow, b_addT, b_addS, b_mulT, b_mulSame, f_lenT, f_lenL, f_abs, f_max, f_min, f_int, f_intB, f_tupT, f_lstT, f_lstR, f_lenR, f_tupR, f_sum, f_all, f_any, f_anyT, f_allT, f_repr, x_tup, x_rol, x_ref, l_tup, l_ref, r_tup, m_app, m_ext, m_pop, m_cnt, p_app, p_ext, p_pop, p_cnt, s_tup, s_rol, s_ref, y_ii, y_ib, y_it, y_il, y_bi, y_bb, y_bt, y_tt, y_ti, y_tb, y_tl, y_ni, y_nt, x_set, a_add, a_sub, g_name, g_many, g_nil, g_cons, startP, wipeP, Tg.slots, List.map_cons, List.map_nil, List.length_cons, List.length_nil, List.replicate_succ, List.replicate_zero, List.cons_append, List.nil_append, List.getElem?_cons_zero, List.getElem?_cons_succ, Option.join_some, List.set_cons_zero, List.set_cons_succ, Bool.true_eq_false, reduceCtorEq, Option.map_some, Option.bind_some, Nat.reduceAdd, Nat.reduceSub, Nat.zero_add, Bool.not_true, Bool.not_false, Bool.false_eq_true, true_implies, false_implies, implies_true, and_true, true_and, not_true_eq_false, not_false_eq_true, decide_eq_true_eq, Bool.not_eq_true', Bool.not_eq_false', decide_eq_false_iff_not, iL_empty, eq_iT, gc_11, gc_0, gc_1, gc_12, gc_1202, gc_1203, getP_none])
      refine ⟨fun q => ?_, fun q => ?_⟩
      · rw [count_take hz, if_pos q, List.replicate_succ']
      · rw [count_take hz, if_neg q]; rfl
    · obtain ⟨rfl, rfl⟩ := hI
      rw [iL_len, List.take_length]
      simp -implicitDefEqProofs only [w_cons, w_nil, w_set, w_asg, w_par2, w_par3, w_setix, w_aug, w_expr, w_ret, w_retN, w_ifs, w_brk, w_cnt, w_pass, w_raise, w_for, w_whl, e_v, e_gc, e_int, e_str, e_bl, e_non, e_neg, e_not, e_bin, e_cmp, e_chain, e_and1, e_and2, e_or1, e_or2, e_and, e_or, e_ite, e_T, e_call, e_callv, e_bi, e_isi, e_meth, e_ix, e_slF, e_slT, e_slB, e_slN, e_rev, e_tup, e_lst, e_lc, e_lcIf, es_nil, es_cons, i_val, i_rng1, i_rng2, i_zip, getP_some, getP_map, getP_bind, getP_ite, asI_int, asF_fn, asT_tup, wpE_ok, step_name, step_many, c_eq, c_ne, c_lt, c_le, c_gt, c_ge, c_is, c_isNot, eq_int, eq_bl, eq_str, is_bl, is_nn, is_in, is_bn, is_sn, is_tn, is_ln, is_rn, t_non, t_bl, t_int, t_tup, t_rol, b_add, b_sub, b_mul, b_mod, b_fdiv, b_pow, b_addT, b_addS, b_mulT, b_mulSame, f_lenT, f_lenL, f_abs, f_max, f_min, f_int, f_intB, f_tupT, f_lstT, f_lstR, f_lenR, f_tupR, f_sum, f_all, f_any, f_anyT, f_allT, f_repr, x_tup, x_rol, x_ref, l_tup, l_ref, r_tup, m_app, m_ext, m_pop, m_cnt, p_app, p_ext, p_pop, p_cnt, s_tup, s_rol, s_ref, y_ii, y_ib, y_it, y_il, y_bi, y_bb, y_bt, y_tt, y_ti, y_tb, y_tl, y_ni, y_nt, x_set, a_add, a_sub, g_name, g_many, g_nil, g_cons, startP, wipeP, Tg.slots, List.map_cons, List.map_nil, List.length_cons, List.length_nil, List.replicate_succ, List.replicate_zero, List.cons_append, List.nil_append, List.getElem?_cons_zero, List.getElem?_cons_succ, Option.join_some, List.set_cons_zero, List.set_cons_succ, Bool.true_eq_false, reduceCtorEq, Option.map_some, Option.bind_some, Nat.reduceAdd, Nat.reduceSub, Nat.zero_add, Bool.not_true, Bool.not_false, Bool.false_eq_true, true_implies, false_implies, implies_true, and_true, true_and, not_true_eq_false, not_false_eq_true, decide_eq_true_eq, Bool.not_eq_true', Bool.not_eq_false', decide_eq_false_iff_not, iL_empty, eq_iT, gc_11, gc_0, gc_1, gc_12, gc_1202, gc_1203, getP_none, lst_new, List.length_replicate]
      refine lc_src (xs := iL w) (fun j acc h4 => acc = List.replicate ((w.take j).count (-(1 + (i : Int)))) (.int 1) ∧ h4 = h3 ++ [.lst (List.replicate (w.count (1 + (i : Int))) (.int 1))]) ⟨rfl, rfl⟩ (fun _ _ _ _ _ => rfl) (fun j x acc h4 hx _ hI => ?_) (fun acc h4 hI => ?_) (by rw [iL_len]; exact sz (by omega)) (gf (by rw [iL_len]; omega))
      · obtain ⟨rfl, rfl⟩ := hI
        obtain ⟨z, hz, rfl⟩ := iL_get hx
        simp -implicitDefEqProofs only [w_cons, w_nil, w_set, w_asg, w_par2, w_par3, w_setix, w_aug, w_expr, w_ret, w_retN, w_ifs, w_brk, w_cnt, w_pass, w_raise, w_for, w_whl, e_v, e_gc, e_int, e_str, e_bl, e_non, e_neg, e_not, e_bin, e_cmp, e_chain, e_and1, e_and2, e_or1, e_or2, e_and, e_or, e_ite, e_T, e_call, e_callv, e_bi, e_isi, e_meth, e_ix, e_slF, e_slT, e_slB, e_slN, e_rev, e_tup, e_lst, e_lc, e_lcIf, es_nil, es_cons, i_val, i_rng1, i_rng2, i_zip, getP_some, getP_map, getP_bind, getP_ite, asI_int, asF_fn, asT_tup, wpE_ok, step_name, step_many, c_eq, c_ne, c_lt, c_le, c_gt, c_ge, c_is, c_isNot, eq_int, eq_bl, eq_str, is_bl, is_nn, is_in, is_bn, is_sn, is_tn, is_ln, is_rn, t_non, t_bl, t_int, t_tup, t_rol, b_add, b_sub, b_mul, b_mod, b_fdiv, b_pow, b_addT, b_addS, b_mulT, b_mulSame, f_lenT, f_lenL, f_abs, f_max, f_min, f_int, f_intB, f_tupT, f_lstT, f_lstR, f_lenR, f_tupR, f_sum, f_all, f_any, f_anyT, f_allT, f_repr, x_tup, x_rol, x_ref, l_tup, l_ref, r_tup, m_app, m_ext, m_pop, m_cnt, p_app, p_ext, p_pop, p_cnt, s_tup, s_rol, s_ref, y_ii, y_ib, y_it, y_il, y_bi, y_bb, y_bt, y_tt, y_ti, y_tb, y_tl, y_ni, y_nt, x_set, a_add, a_sub, g_name, g_many, g_nil, g_cons, startP, wipeP, Tg.slots, List.map_cons, List.map_nil, List.length_cons, List.length_nil, List.replicate_succ, List.replicate_zero, List.cons_append, List.nil_append, List.getElem?_cons_zero, List.getElem?_cons_succ, Option.join_some, List.set_cons_zero, List.set_cons_succ, Bool.true_eq_false, reduceCtorEq, Option.map_some, Option.bind_some, Nat.reduceAdd, Nat.reduceSub, Nat.zero_add, Bool.not_true, Bool.not_false, Bool.false_eq_true, true_implies, false_implies, implies_true, and_true, true_and, not_true_eq_false, not_false_eq_true, decide_eq_true_eq, Bool.not_eq_true', Bool.not_eq_false', decide_eq_false_iff_not, iL_empty, eq_iT, gc_11, gc_0, gc_1, gc_12, gc_1202, gc_1203, getP_none, Int.zero_sub]
        refine ⟨fun q => ?_, fun q => ?_⟩
        · rw [count_take hz, if_pos q, List.replicate_succ']
        · rw [count_take hz, if_neg q]; rfl
      · obtain ⟨rfl, rfl⟩ := hI
        rw [iL_len, List.take_length]
        simp -implicitDefEqProofs only [w_cons, w_nil, w_set, w_asg, w_par2, w_par3, w_setix, w_aug, w_expr, w_ret, w_retN, w_ifs, w_brk, w_cnt, w_pass, w_raise, w_for, w_whl, e_v, e_gc, e_int, e_str, e_bl, e_non, e_neg, e_not, e_bin, e_cmp, e_chain, e_and1, e_and2, e_or1, e_or2, e_and, e_or, e_ite, e_T, e_call, e_callv, e_bi, e_isi, e_meth, e_ix, e_slF, e_slT, e_slB, e_slN, e_rev, e_tup, e_lst, e_lc, e_lcIf, es_nil, es_cons, i_val, i_rng1, i_rng2, i_zip, getP_some, getP_map, getP_bind, getP_ite, asI_int, asF_fn, asT_tup, wpE_ok, step_name, step_many, c_eq, c_ne, c_lt, c_le, c_gt, c_ge, c_is, c_isNot, eq_int, eq_bl, eq_str, is_bl, is_nn, is_in, is_bn, is_sn, is_tn, is_ln, is_rn, t_non, t_bl, t_int, t_tup, t_rol, b_add, b_sub, b_mul, b_mod, b_fdiv, b_pow, b_addT, b_addS, b_mulT, b_mulSame, f_lenT, f_lenL, f_abs, f_max, f_min, f_int, f_intB, f_tupT, f_lstT, f_lstR, f_lenR, f_tupR, f_sum, f_all, f_any, f_anyT, f_allT, f_repr, x_tup, x_rol, x_ref, l_tup, l_ref, r_tup, m_app, m_ext, m_pop, m_cnt, p_app, p_ext, p_pop, p_cnt, s_tup, s_rol, s_ref, y_ii, y_ib, y_it, y_il, y_bi, y_bb, y_bt, y_tt, y_ti, y_tb, y_tl, y_ni, y_nt, x_set, a_add, a_sub, g_name, g_many, g_nil, g_cons, startP, wipeP, Tg.slots, List.map_cons, List.map_nil, List.length_cons, List.length_nil, List.replicate_succ, List.replicate_zero, List.cons_append, List.nil_append, List.getElem?_cons_zero, List.getElem?_cons_succ, Option.join_some, List.set_cons_zero, List.set_cons_succ, Bool.true_eq_false, reduceCtorEq, Option.map_some, Option.bind_some, Nat.reduceAdd, Nat.reduceSub, Nat.zero_add, Bool.not_true, Bool.not_false, Bool.false_eq_true, true_implies, false_implies, implies_true, and_true, true_and, not_true_eq_false, not_false_eq_true, decide_eq_true_eq, Bool.not_eq_true', Bool.not_eq_false', decide_eq_false_iff_not, iL_empty, eq_iT, gc_11, gc_0, gc_1, gc_12, gc_1202, gc_1203, getP_none, lst_new, List.length_replicate]
        exact ⟨rfl, hg.new.new⟩
  · exact hP _ _ lst_new hg.new
end
end Pi

-- w_cons, w_nil, w_set, w_asg, w_par2, w_par3, w_setix, w_aug, w_expr, w_ret, w_retN, w_ifs, w_brk, w_cnt, w_pass, w_raise, w_for, w_whl, e_v, e_gc, e_int, e_str, e_bl, e_non, e_neg, e_not, e_bin, e_cmp, e_chain, e_and1, e_and2, e_or1, e_or2, e_and, e_or, e_ite, e_T, e_call, e_callv, e_bi, e_isi, e_meth, e_ix, e_slF, e_slT, e_slB, e_slN, e_rev, e_tup, e_lst, e_lc, e_lcIf, es_nil, es_cons, i_val, i_rng1, i_rng2, i_zip, getP_some, getP_map, getP_bind, getP_ite, asI_int, asF_fn, asT_tup, wpE_ok, step_name, step_many, c_eq, c_ne, c_lt, c_le, c_gt, c_ge, c_is, c_isNot, eq_int, eq_bl, eq_str, is_bl, is_nn, is_in, is_bn, is_sn, is_tn, is_ln, is_rn, t_non, t_bl, t_int, t_tup, t_rol, b_add, b_sub, b_mul, b_mod, b_fdiv, b_pow, b_addT, b_addS, b_mulT, b_mulSame, f_lenT, f_lenL, f_abs, f_max, f_min, f_int, f_intB, f_tupT, f_lstT, f_lstR, f_lenR, f_tupR, f_sum, f_all, f_any, f_anyT, f_allT, f_repr, x_tup, x_rol, x_ref, l_tup, l_ref, r_tup, m_app, m_ext, m_pop, m_cnt, p_app, p_ext, p_pop, p_cnt, s_tup, s_rol, s_ref, y_ii, y_ib, y_it, y_il, y_bi, y_bb, y_bt, y_tt, y_ti, y_tb, y_tl, y_ni, y_nt, x_set, a_add, a_sub, g_name, g_many, g_nil, g_cons, startP, wipeP, Tg.slots, List.map_cons, List.map_nil, List.length_cons, List.length_nil, List.replicate_succ, List.replicate_zero, List.cons_append, List.nil_append, List.getElem?_cons_zero, List.getElem?_cons_succ, Option.join_some, List.set_cons_zero, List.set_cons_succ, Bool.true_eq_false, reduceCtorEq, Option.map_some, Option.bind_some, Nat.reduceAdd, Nat.reduceSub, Nat.zero_add, Bool.not_true, Bool.not_false, Bool.false_eq_true, true_implies, false_implies, implies_true, and_true, true_and, not_true_eq_false, not_false_eq_true, decide_eq_true_eq, Bool.not_eq_true', Bool.not_eq_false', decide_eq_false_iff_not, iL_empty, eq_iT, gc_11, gc_0, gc_1, gc_12, gc_1202, gc_1203, getP_none+: gc_11 gc_0 gc_1 gc_12 gc_1202 gc_1203
set_option Elab.async false
set_option linter.all false
set_option maxRecDepth 100000
set_option maxHeartbeats 8000000
/-! runs: the law of brackets, one turn. -/
namespace Pi
open PySem Wm
theorem Wd.br {r : Int} {v w : List Int} (h : Wd r v) (k : Wd r w) : Wd r (br v w) := Wd.sh (((h.app k).app h.un).app k.un)
theorem Wd.cj {r : Int} {v w : List Int} (h : Wd r v) (k : Wd r w) : Wd r (cj v w) := Wd.sh ((k.app h).app k.un)
theorem noC_eq (r : Nat) (w : List Int) : decide (cts r w = List.replicate r 0) = noC r w := by
  have hl : (cts r w).length = r := by simp [cts]
  unfold noC
  have key : ∀ (l : List Int) (n : Nat), l.length = n → decide (l = List.replicate n 0) = !l.any (· != 0) := by
    intro l
    induction l with
    | nil => intro n hn; subst hn; simp
    | cons x l ih =>
      intro n hn
      subst hn
      have := ih l.length rfl
      simp only [List.length_cons, List.replicate_succ, List.cons.injEq, List.any_cons]
      by_cases e : x = 0
      · subst e; simpa using this
      · simp [e]
  exact key _ _ hl
theorem noC_br (r : Nat) (x y : List Int) : noC r (br x y) = true := by
  rw [← noC_eq, decide_eq_true_iff]
  unfold cts
  refine List.ext_getElem (by simp) fun i h1 h2 => ?_
  rw [List.getElem_map, List.getElem_replicate, List.getElem_range]
  exact cnt_br (by omega) x y
theorem fits_3 : ∀ (ws : List (List Int)) (f : List Int) (n m : Nat), ws.length ≤ n → (∀ v ∈ ws, v.length ≤ 3) → f.length ≤ m → (m + 6) * 2 ^ (n + 1) ≤ 400 → fits 400 f ws
  | [], _, _, _, _, _, _, _ => trivial
  | w :: ws, f, n, m, hn, hv, hf, hm => by
    cases n with
    | zero => simp at hn
    | succ n =>
      have l1 := br_len f w
      have l2 := hv w (by simp)
      have e : (m + 6) * 2 ^ (n + 1 + 1) = (2 * m + 6 + 6) * 2 ^ (n + 1) := by
        rw [Nat.pow_succ 2 (n + 1), ← Nat.mul_assoc, Nat.mul_right_comm]
        congr 1
        omega
      have p : 1 ≤ 2 ^ (n + 1) := Nat.one_le_two_pow
      have q : (2 * m + 6 + 6) * 1 ≤ (2 * m + 6 + 6) * 2 ^ (n + 1) := Nat.mul_le_mul_left _ p
      refine ⟨by omega, fits_3 ws (br f w) n (2 * m + 6) (by simpa using hn) (fun v h => hv v (List.mem_cons_of_mem _ h)) (by omega) (by omega)⟩
theorem zeros (r : Nat) : (List.replicate r [PV.int 0]).flatten = iL (List.replicate r 0) := by
  induction r with
  | zero => rfl
  | succ r ih => rw [List.replicate_succ, List.flatten_cons, ih, List.replicate_succ]; rfl
section
variable {d : Nat} {h : IH} {P : PV → IH → Prop}
theorem sp_law_right_br (n k : Nat) (hd : Dice h n (k + 200)) (hP : ∀ h', Gr [n] h h' → Dice h' n k → P (.bl true) h') : wpE (run GT GC GF (d + 9) 2728 [.ref n] h) P := by
  rw [run_in (F := F2728) rfl rfl]
  simp -implicitDefEqProofs only [F2728, b2728_0, w_cons, w_nil, w_set, w_asg, w_par2, w_par3, w_setix, w_aug, w_expr, w_ret, w_retN, w_ifs, w_brk, w_cnt, w_pass, w_raise, w_for, w_whl, e_v, e_gc, e_int, e_str, e_bl, e_non, e_neg, e_not, e_bin, e_cmp, e_chain, e_and1, e_and2, e_or1, e_or2, e_and, e_or, e_ite, e_T, e_call, e_callv, e_bi, e_isi, e_meth, e_ix, e_slF, e_slT, e_slB, e_slN, e_rev, e_tup, e_lst, e_lc, e_lcIf, es_nil, es_cons, i_val, i_rng1, i_rng2, i_zip, getP_some, getP_map, getP_bind, getP_ite, asI_int, asF_fn, asT_tup, wpE_ok, step_name, step_many, c_eq, c_ne, c_lt, c_le, c_gt, c_ge, c_is, c_isNot, eq_int, eq_bl, eq_str, is_bl, is_nn, is_in, is_bn, is_sn, is_tn, is_ln, is_rn, t_non, t_bl, t_int, t_tup, t_rol, b_add, b_sub, b_mul, b_mod, b_fdiv, b_pow, b_addT, b_addS, b_mulT, b_mulSame, f_lenT, f_lenL, f_abs, f_max, f_min, f_int, f_intB, f_tupT, f_lstT, f_lstR, f_lenR, f_tupR, f_sum, f_all, f_any, f_anyT, f_allT, f_repr, x_tup, x_rol, x_ref, l_tup, l_ref, r_tup, m_app, m_ext, m_pop, m_cnt, p_app, p_ext, p_pop, p_cnt, s_tup, s_rol, s_ref, y_ii, y_ib, y_it, y_il, y_bi, y_bb, y_bt, y_tt, y_ti, y_tb, y_tl, y_ni, y_nt, x_set, a_add, a_sub, g_name, g_many, g_nil, g_cons, startP, wipeP, Tg.slots, List.map_cons, List.map_nil, List.length_cons, List.length_nil, List.replicate_succ, List.replicate_zero, List.cons_append, List.nil_append, List.getElem?_cons_zero, List.getElem?_cons_succ, Option.join_some, List.set_cons_zero, List.set_cons_succ, Bool.true_eq_false, reduceCtorEq, Option.map_some, Option.bind_some, Nat.reduceAdd, Nat.reduceSub, Nat.zero_add, Bool.not_true, Bool.not_false, Bool.false_eq_true, true_implies, false_implies, implies_true, and_true, true_and, not_true_eq_false, not_false_eq_true, decide_eq_true_eq, Bool.not_eq_true', Bool.not_eq_false', decide_eq_false_iff_not, iL_empty, eq_iT, gc_11, gc_0, gc_1, gc_12, gc_1202, gc_1203, getP_none]
  refine sp_roll n (k + 199) _ hd (by omega) (by omega) fun v h1 a b g1 d1 => ?_
  obtain ⟨r', rfl⟩ := Int.eq_ofNat_of_zero_le a
  obtain ⟨r, hr⟩ : ∃ r : Nat, (1 : Int) + (r' : Int) = (r : Int) := ⟨1 + r', by omega⟩
  have r1 : 1 ≤ r := by omega
  have r4 : r ≤ 4 := by omega
  have ri1 : (1 : Int) ≤ (r : Int) := by omega
  have ri4 : (r : Int) ≤ 4 := by omega
  simp -implicitDefEqProofs only [w_cons, w_nil, w_set, w_asg, w_par2, w_par3, w_setix, w_aug, w_expr, w_ret, w_retN, w_ifs, w_brk, w_cnt, w_pass, w_raise, w_for, w_whl, e_v, e_gc, e_int, e_str, e_bl, e_non, e_neg, e_not, e_bin, e_cmp, e_chain, e_and1, e_and2, e_or1, e_or2, e_and, e_or, e_ite, e_T, e_call, e_callv, e_bi, e_isi, e_meth, e_ix, e_slF, e_slT, e_slB, e_slN, e_rev, e_tup, e_lst, e_lc, e_lcIf, es_nil, es_cons, i_val, i_rng1, i_rng2, i_zip, getP_some, getP_map, getP_bind, getP_ite, asI_int, asF_fn, asT_tup, wpE_ok, step_name, step_many, c_eq, c_ne, c_lt, c_le, c_gt, c_ge, c_is, c_isNot, eq_int, eq_bl, eq_str, is_bl, is_nn, is_in, is_bn, is_sn, is_tn, is_ln, is_rn, t_non, t_bl, t_int, t_tup, t_rol, b_add, b_sub, b_mul, b_mod, b_fdiv, b_pow, b_addT, b_addS, b_mulT, b_mulSame, f_lenT, f_lenL, f_abs, f_max, f_min, f_int, f_intB, f_tupT, f_lstT, f_lstR, f_lenR, f_tupR, f_sum, f_all, f_any, f_anyT, f_allT, f_repr, x_tup, x_rol, x_ref, l_tup, l_ref, r_tup, m_app, m_ext, m_pop, m_cnt, p_app, p_ext, p_pop, p_cnt, s_tup, s_rol, s_ref, y_ii, y_ib, y_it, y_il, y_bi, y_bb, y_bt, y_tt, y_ti, y_tb, y_tl, y_ni, y_nt, x_set, a_add, a_sub, g_name, g_many, g_nil, g_cons, startP, wipeP, Tg.slots, List.map_cons, List.map_nil, List.length_cons, List.length_nil, List.replicate_succ, List.replicate_zero, List.cons_append, List.nil_append, List.getElem?_cons_zero, List.getElem?_cons_succ, Option.join_some, List.set_cons_zero, List.set_cons_succ, Bool.true_eq_false, reduceCtorEq, Option.map_some, Option.bind_some, Nat.reduceAdd, Nat.reduceSub, Nat.zero_add, Bool.not_true, Bool.not_false, Bool.false_eq_true, true_implies, false_implies, implies_true, and_true, true_and, not_true_eq_false, not_false_eq_true, decide_eq_true_eq, Bool.not_eq_true', Bool.not_eq_false', decide_eq_false_iff_not, iL_empty, eq_iT, gc_11, gc_0, gc_1, gc_12, gc_1202, gc_1203, getP_none, hr, b2728_1]
  refine sp_law_word n (k + 190) r 6 (d1.less (by omega)) r1 (by omega) (by omega) fun x h2 wx lx g2 d2 => ?_
  (try simp -implicitDefEqProofs only [w_cons, w_nil, w_set, w_asg, w_par2, w_par3, w_setix, w_aug, w_expr, w_ret, w_retN, w_ifs, w_brk, w_cnt, w_pass, w_raise, w_for, w_whl, e_v, e_gc, e_int, e_str, e_bl, e_non, e_neg, e_not, e_bin, e_cmp, e_chain, e_and1, e_and2, e_or1, e_or2, e_and, e_or, e_ite, e_T, e_call, e_callv, e_bi, e_isi, e_meth, e_ix, e_slF, e_slT, e_slB, e_slN, e_rev, e_tup, e_lst, e_lc, e_lcIf, es_nil, es_cons, i_val, i_rng1, i_rng2, i_zip, getP_some, getP_map, getP_bind, getP_ite, asI_int, asF_fn, asT_tup, wpE_ok, step_name, step_many, c_eq, c_ne, c_lt, c_le, c_gt, c_ge, c_is, c_isNot, eq_int, eq_bl, eq_str, is_bl, is_nn, is_in, is_bn, is_sn, is_tn, is_ln, is_rn, t_non, t_bl, t_int, t_tup, t_rol, b_add, b_sub, b_mul, b_mod, b_fdiv, b_pow, b_addT, b_addS, b_mulT, b_mulSame, f_lenT, f_lenL, f_abs, f_max, f_min, f_int, f_intB, f_tupT, f_lstT, f_lstR, f_lenR, f_tupR, f_sum, f_all, f_any, f_anyT, f_allT, f_repr, x_tup, x_rol, x_ref, l_tup, l_ref, r_tup, m_app, m_ext, m_pop, m_cnt, p_app, p_ext, p_pop, p_cnt, s_tup, s_rol, s_ref, y_ii, y_ib, y_it, y_il, y_bi, y_bb, y_bt, y_tt, y_ti, y_tb, y_tl, y_ni, y_nt, x_set, a_add, a_sub, g_name, g_many, g_nil, g_cons, startP, wipeP, Tg.slots, List.map_cons, List.map_nil, List.length_cons, List.length_nil, List.replicate_succ, List.replicate_zero, List.cons_append, List.nil_append, List.getElem?_cons_zero, List.getElem?_cons_succ, Option.join_some, List.set_cons_zero, List.set_cons_succ, Bool.true_eq_false, reduceCtorEq, Option.map_some, Option.bind_some, Nat.reduceAdd, Nat.reduceSub, Nat.zero_add, Bool.not_true, Bool.not_false, Bool.false_eq_true, true_implies, false_implies, implies_true, and_true, true_and, not_true_eq_false, not_false_eq_true, decide_eq_true_eq, Bool.not_eq_true', Bool.not_eq_false', decide_eq_false_iff_not, iL_empty, eq_iT, gc_11, gc_0, gc_1, gc_12, gc_1202, gc_1203, getP_none])
  refine sp_law_word n (k + 180) r 6 (d2.less (by omega)) r1 (by omega) (by omega) fun y h3 wy ly g3 d3 => ?_
  (try simp -implicitDefEqProofs only [w_cons, w_nil, w_set, w_asg, w_par2, w_par3, w_setix, w_aug, w_expr, w_ret, w_retN, w_ifs, w_brk, w_cnt, w_pass, w_raise, w_for, w_whl, e_v, e_gc, e_int, e_str, e_bl, e_non, e_neg, e_not, e_bin, e_cmp, e_chain, e_and1, e_and2, e_or1, e_or2, e_and, e_or, e_ite, e_T, e_call, e_callv, e_bi, e_isi, e_meth, e_ix, e_slF, e_slT, e_slB, e_slN, e_rev, e_tup, e_lst, e_lc, e_lcIf, es_nil, es_cons, i_val, i_rng1, i_rng2, i_zip, getP_some, getP_map, getP_bind, getP_ite, asI_int, asF_fn, asT_tup, wpE_ok, step_name, step_many, c_eq, c_ne, c_lt, c_le, c_gt, c_ge, c_is, c_isNot, eq_int, eq_bl, eq_str, is_bl, is_nn, is_in, is_bn, is_sn, is_tn, is_ln, is_rn, t_non, t_bl, t_int, t_tup, t_rol, b_add, b_sub, b_mul, b_mod, b_fdiv, b_pow, b_addT, b_addS, b_mulT, b_mulSame, f_lenT, f_lenL, f_abs, f_max, f_min, f_int, f_intB, f_tupT, f_lstT, f_lstR, f_lenR, f_tupR, f_sum, f_all, f_any, f_anyT, f_allT, f_repr, x_tup, x_rol, x_ref, l_tup, l_ref, r_tup, m_app, m_ext, m_pop, m_cnt, p_app, p_ext, p_pop, p_cnt, s_tup, s_rol, s_ref, y_ii, y_ib, y_it, y_il, y_bi, y_bb, y_bt, y_tt, y_ti, y_tb, y_tl, y_ni, y_nt, x_set, a_add, a_sub, g_name, g_many, g_nil, g_cons, startP, wipeP, Tg.slots, List.map_cons, List.map_nil, List.length_cons, List.length_nil, List.replicate_succ, List.replicate_zero, List.cons_append, List.nil_append, List.getElem?_cons_zero, List.getElem?_cons_succ, Option.join_some, List.set_cons_zero, List.set_cons_succ, Bool.true_eq_false, reduceCtorEq, Option.map_some, Option.bind_some, Nat.reduceAdd, Nat.reduceSub, Nat.zero_add, Bool.not_true, Bool.not_false, Bool.false_eq_true, true_implies, false_implies, implies_true, and_true, true_and, not_true_eq_false, not_false_eq_true, decide_eq_true_eq, Bool.not_eq_true', Bool.not_eq_false', decide_eq_false_iff_not, iL_empty, eq_iT, gc_11, gc_0, gc_1, gc_12, gc_1202, gc_1203, getP_none])
  refine sp_law_word n (k + 170) r 4 (d3.less (by omega)) r1 (by omega) (by omega) fun z h4 wz lz g4 d4 => ?_
  simp -implicitDefEqProofs only [w_cons, w_nil, w_set, w_asg, w_par2, w_par3, w_setix, w_aug, w_expr, w_ret, w_retN, w_ifs, w_brk, w_cnt, w_pass, w_raise, w_for, w_whl, e_v, e_gc, e_int, e_str, e_bl, e_non, e_neg, e_not, e_bin, e_cmp, e_chain, e_and1, e_and2, e_or1, e_or2, e_and, e_or, e_ite, e_T, e_call, e_callv, e_bi, e_isi, e_meth, e_ix, e_slF, e_slT, e_slB, e_slN, e_rev, e_tup, e_lst, e_lc, e_lcIf, es_nil, es_cons, i_val, i_rng1, i_rng2, i_zip, getP_some, getP_map, getP_bind, getP_ite, asI_int, asF_fn, asT_tup, wpE_ok, step_name, step_many, c_eq, c_ne, c_lt, c_le, c_gt, c_ge, c_is, c_isNot, eq_int, eq_bl, eq_str, is_bl, is_nn, is_in, is_bn, is_sn, is_tn, is_ln, is_rn, t_non, t_bl, t_int, t_tup, t_rol, b_add, b_sub, b_mul, b_mod, b_fdiv, b_pow, b_addT, b_addS, b_mulT, b_mulSame, f_lenT, f_lenL, f_abs, f_max, f_min, f_int, f_intB, f_tupT, f_lstT, f_lstR, f_lenR, f_tupR, f_sum, f_all, f_any, f_anyT, f_allT, f_repr, x_tup, x_rol, x_ref, l_tup, l_ref, r_tup, m_app, m_ext, m_pop, m_cnt, p_app, p_ext, p_pop, p_cnt, s_tup, s_rol, s_ref, y_ii, y_ib, y_it, y_il, y_bi, y_bb, y_bt, y_tt, y_ti, y_tb, y_tl, y_ni, y_nt, x_set, a_add, a_sub, g_name, g_many, g_nil, g_cons, startP, wipeP, Tg.slots, List.map_cons, List.map_nil, List.length_cons, List.length_nil, List.replicate_succ, List.replicate_zero, List.cons_append, List.nil_append, List.getElem?_cons_zero, List.getElem?_cons_succ, Option.join_some, List.set_cons_zero, List.set_cons_succ, Bool.true_eq_false, reduceCtorEq, Option.map_some, Option.bind_some, Nat.reduceAdd, Nat.reduceSub, Nat.zero_add, Bool.not_true, Bool.not_false, Bool.false_eq_true, true_implies, false_implies, implies_true, and_true, true_and, not_true_eq_false, not_false_eq_true, decide_eq_true_eq, Bool.not_eq_true', Bool.not_eq_false', decide_eq_false_iff_not, iL_empty, eq_iT, gc_11, gc_0, gc_1, gc_12, gc_1202, gc_1203, getP_none, b2728_2]
  have bl := br_len x y
  -- the bracket, and back
  refine sp_bracket (r : Int) x y ri1 ri4 wx (by omega) wy (by omega) fun h5 g5 => ?_
  simp -implicitDefEqProofs only [w_cons, w_nil, w_set, w_asg, w_par2, w_par3, w_setix, w_aug, w_expr, w_ret, w_retN, w_ifs, w_brk, w_cnt, w_pass, w_raise, w_for, w_whl, e_v, e_gc, e_int, e_str, e_bl, e_non, e_neg, e_not, e_bin, e_cmp, e_chain, e_and1, e_and2, e_or1, e_or2, e_and, e_or, e_ite, e_T, e_call, e_callv, e_bi, e_isi, e_meth, e_ix, e_slF, e_slT, e_slB, e_slN, e_rev, e_tup, e_lst, e_lc, e_lcIf, es_nil, es_cons, i_val, i_rng1, i_rng2, i_zip, getP_some, getP_map, getP_bind, getP_ite, asI_int, asF_fn, asT_tup, wpE_ok, step_name, step_many, c_eq, c_ne, c_lt, c_le, c_gt, c_ge, c_is, c_isNot, eq_int, eq_bl, eq_str, is_bl, is_nn, is_in, is_bn, is_sn, is_tn, is_ln, is_rn, t_non, t_bl, t_int, t_tup, t_rol, b_add, b_sub, b_mul, b_mod, b_fdiv, b_pow, b_addT, b_addS, b_mulT, b_mulSame, f_lenT, f_lenL, f_abs, f_max, f_min, f_int, f_intB, f_tupT, f_lstT, f_lstR, f_lenR, f_tupR, f_sum, f_all, f_any, f_anyT, f_allT, f_repr, x_tup, x_rol, x_ref, l_tup, l_ref, r_tup, m_app, m_ext, m_pop, m_cnt, p_app, p_ext, p_pop, p_cnt, s_tup, s_rol, s_ref, y_ii, y_ib, y_it, y_il, y_bi, y_bb, y_bt, y_tt, y_ti, y_tb, y_tl, y_ni, y_nt, x_set, a_add, a_sub, g_name, g_many, g_nil, g_cons, startP, wipeP, Tg.slots, List.map_cons, List.map_nil, List.length_cons, List.length_nil, List.replicate_succ, List.replicate_zero, List.cons_append, List.nil_append, List.getElem?_cons_zero, List.getElem?_cons_succ, Option.join_some, List.set_cons_zero, List.set_cons_succ, Bool.true_eq_false, reduceCtorEq, Option.map_some, Option.bind_some, Nat.reduceAdd, Nat.reduceSub, Nat.zero_add, Bool.not_true, Bool.not_false, Bool.false_eq_true, true_implies, false_implies, implies_true, and_true, true_and, not_true_eq_false, not_false_eq_true, decide_eq_true_eq, Bool.not_eq_true', Bool.not_eq_false', decide_eq_false_iff_not, iL_empty, eq_iT, gc_11, gc_0, gc_1, gc_12, gc_1202, gc_1203, getP_none, b2728_3]
  refine sp_law_br_bracket x y (by omega) (by omega) fun h6 g6 => ?_
  (try simp -implicitDefEqProofs only [w_cons, w_nil, w_set, w_asg, w_par2, w_par3, w_setix, w_aug, w_expr, w_ret, w_retN, w_ifs, w_brk, w_cnt, w_pass, w_raise, w_for, w_whl, e_v, e_gc, e_int, e_str, e_bl, e_non, e_neg, e_not, e_bin, e_cmp, e_chain, e_and1, e_and2, e_or1, e_or2, e_and, e_or, e_ite, e_T, e_call, e_callv, e_bi, e_isi, e_meth, e_ix, e_slF, e_slT, e_slB, e_slN, e_rev, e_tup, e_lst, e_lc, e_lcIf, es_nil, es_cons, i_val, i_rng1, i_rng2, i_zip, getP_some, getP_map, getP_bind, getP_ite, asI_int, asF_fn, asT_tup, wpE_ok, step_name, step_many, c_eq, c_ne, c_lt, c_le, c_gt, c_ge, c_is, c_isNot, eq_int, eq_bl, eq_str, is_bl, is_nn, is_in, is_bn, is_sn, is_tn, is_ln, is_rn, t_non, t_bl, t_int, t_tup, t_rol, b_add, b_sub, b_mul, b_mod, b_fdiv, b_pow, b_addT, b_addS, b_mulT, b_mulSame, f_lenT, f_lenL, f_abs, f_max, f_min, f_int, f_intB, f_tupT, f_lstT, f_lstR, f_lenR, f_tupR, f_sum, f_all, f_any, f_anyT, f_allT, f_repr, x_tup, x_rol, x_ref, l_tup, l_ref, r_tup, m_app, m_ext, m_pop, m_cnt, p_app, p_ext, p_pop, p_cnt, s_tup, s_rol, s_ref, y_ii, y_ib, y_it, y_il, y_bi, y_bb, y_bt, y_tt, y_ti, y_tb, y_tl, y_ni, y_nt, x_set, a_add, a_sub, g_name, g_many, g_nil, g_cons, startP, wipeP, Tg.slots, List.map_cons, List.map_nil, List.length_cons, List.length_nil, List.replicate_succ, List.replicate_zero, List.cons_append, List.nil_append, List.getElem?_cons_zero, List.getElem?_cons_succ, Option.join_some, List.set_cons_zero, List.set_cons_succ, Bool.true_eq_false, reduceCtorEq, Option.map_some, Option.bind_some, Nat.reduceAdd, Nat.reduceSub, Nat.zero_add, Bool.not_true, Bool.not_false, Bool.false_eq_true, true_implies, false_implies, implies_true, and_true, true_and, not_true_eq_false, not_false_eq_true, decide_eq_true_eq, Bool.not_eq_true', Bool.not_eq_false', decide_eq_false_iff_not, iL_empty, eq_iT, gc_11, gc_0, gc_1, gc_12, gc_1202, gc_1203, getP_none])
  refine sp_bracket (r : Int) y x ri1 ri4 wy (by omega) wx (by omega) fun h7 g7 => ?_
  (try simp -implicitDefEqProofs only [w_cons, w_nil, w_set, w_asg, w_par2, w_par3, w_setix, w_aug, w_expr, w_ret, w_retN, w_ifs, w_brk, w_cnt, w_pass, w_raise, w_for, w_whl, e_v, e_gc, e_int, e_str, e_bl, e_non, e_neg, e_not, e_bin, e_cmp, e_chain, e_and1, e_and2, e_or1, e_or2, e_and, e_or, e_ite, e_T, e_call, e_callv, e_bi, e_isi, e_meth, e_ix, e_slF, e_slT, e_slB, e_slN, e_rev, e_tup, e_lst, e_lc, e_lcIf, es_nil, es_cons, i_val, i_rng1, i_rng2, i_zip, getP_some, getP_map, getP_bind, getP_ite, asI_int, asF_fn, asT_tup, wpE_ok, step_name, step_many, c_eq, c_ne, c_lt, c_le, c_gt, c_ge, c_is, c_isNot, eq_int, eq_bl, eq_str, is_bl, is_nn, is_in, is_bn, is_sn, is_tn, is_ln, is_rn, t_non, t_bl, t_int, t_tup, t_rol, b_add, b_sub, b_mul, b_mod, b_fdiv, b_pow, b_addT, b_addS, b_mulT, b_mulSame, f_lenT, f_lenL, f_abs, f_max, f_min, f_int, f_intB, f_tupT, f_lstT, f_lstR, f_lenR, f_tupR, f_sum, f_all, f_any, f_anyT, f_allT, f_repr, x_tup, x_rol, x_ref, l_tup, l_ref, r_tup, m_app, m_ext, m_pop, m_cnt, p_app, p_ext, p_pop, p_cnt, s_tup, s_rol, s_ref, y_ii, y_ib, y_it, y_il, y_bi, y_bb, y_bt, y_tt, y_ti, y_tb, y_tl, y_ni, y_nt, x_set, a_add, a_sub, g_name, g_many, g_nil, g_cons, startP, wipeP, Tg.slots, List.map_cons, List.map_nil, List.length_cons, List.length_nil, List.replicate_succ, List.replicate_zero, List.cons_append, List.nil_append, List.getElem?_cons_zero, List.getElem?_cons_succ, Option.join_some, List.set_cons_zero, List.set_cons_succ, Bool.true_eq_false, reduceCtorEq, Option.map_some, Option.bind_some, Nat.reduceAdd, Nat.reduceSub, Nat.zero_add, Bool.not_true, Bool.not_false, Bool.false_eq_true, true_implies, false_implies, implies_true, and_true, true_and, not_true_eq_false, not_false_eq_true, decide_eq_true_eq, Bool.not_eq_true', Bool.not_eq_false', decide_eq_false_iff_not, iL_empty, eq_iT, gc_11, gc_0, gc_1, gc_12, gc_1202, gc_1203, getP_none])
  refine sp_law_undone (br x y) (by omega) fun h8 g8 => ?_
  rw [br_un x y]
  simp -implicitDefEqProofs only [w_cons, w_nil, w_set, w_asg, w_par2, w_par3, w_setix, w_aug, w_expr, w_ret, w_retN, w_ifs, w_brk, w_cnt, w_pass, w_raise, w_for, w_whl, e_v, e_gc, e_int, e_str, e_bl, e_non, e_neg, e_not, e_bin, e_cmp, e_chain, e_and1, e_and2, e_or1, e_or2, e_and, e_or, e_ite, e_T, e_call, e_callv, e_bi, e_isi, e_meth, e_ix, e_slF, e_slT, e_slB, e_slN, e_rev, e_tup, e_lst, e_lc, e_lcIf, es_nil, es_cons, i_val, i_rng1, i_rng2, i_zip, getP_some, getP_map, getP_bind, getP_ite, asI_int, asF_fn, asT_tup, wpE_ok, step_name, step_many, c_eq, c_ne, c_lt, c_le, c_gt, c_ge, c_is, c_isNot, eq_int, eq_bl, eq_str, is_bl, is_nn, is_in, is_bn, is_sn, is_tn, is_ln, is_rn, t_non, t_bl, t_int, t_tup, t_rol, b_add, b_sub, b_mul, b_mod, b_fdiv, b_pow, b_addT, b_addS, b_mulT, b_mulSame, f_lenT, f_lenL, f_abs, f_max, f_min, f_int, f_intB, f_tupT, f_lstT, f_lstR, f_lenR, f_tupR, f_sum, f_all, f_any, f_anyT, f_allT, f_repr, x_tup, x_rol, x_ref, l_tup, l_ref, r_tup, m_app, m_ext, m_pop, m_cnt, p_app, p_ext, p_pop, p_cnt, s_tup, s_rol, s_ref, y_ii, y_ib, y_it, y_il, y_bi, y_bb, y_bt, y_tt, y_ti, y_tb, y_tl, y_ni, y_nt, x_set, a_add, a_sub, g_name, g_many, g_nil, g_cons, startP, wipeP, Tg.slots, List.map_cons, List.map_nil, List.length_cons, List.length_nil, List.replicate_succ, List.replicate_zero, List.cons_append, List.nil_append, List.getElem?_cons_zero, List.getElem?_cons_succ, Option.join_some, List.set_cons_zero, List.set_cons_succ, Bool.true_eq_false, reduceCtorEq, Option.map_some, Option.bind_some, Nat.reduceAdd, Nat.reduceSub, Nat.zero_add, Bool.not_true, Bool.not_false, Bool.false_eq_true, true_implies, false_implies, implies_true, and_true, true_and, not_true_eq_false, not_false_eq_true, decide_eq_true_eq, Bool.not_eq_true', Bool.not_eq_false', decide_eq_false_iff_not, iL_empty, eq_iT, gc_11, gc_0, gc_1, gc_12, gc_1202, gc_1203, getP_none, b2728_4]
  -- commuting
  simp -implicitDefEqProofs only [eq_tnil, w_cons, w_nil, w_set, w_asg, w_par2, w_par3, w_setix, w_aug, w_expr, w_ret, w_retN, w_ifs, w_brk, w_cnt, w_pass, w_raise, w_for, w_whl, e_v, e_gc, e_int, e_str, e_bl, e_non, e_neg, e_not, e_bin, e_cmp, e_chain, e_and1, e_and2, e_or1, e_or2, e_and, e_or, e_ite, e_T, e_call, e_callv, e_bi, e_isi, e_meth, e_ix, e_slF, e_slT, e_slB, e_slN, e_rev, e_tup, e_lst, e_lc, e_lcIf, es_nil, es_cons, i_val, i_rng1, i_rng2, i_zip, getP_some, getP_map, getP_bind, getP_ite, asI_int, asF_fn, asT_tup, wpE_ok, step_name, step_many, c_eq, c_ne, c_lt, c_le, c_gt, c_ge, c_is, c_isNot, eq_int, eq_bl, eq_str, is_bl, is_nn, is_in, is_bn, is_sn, is_tn, is_ln, is_rn, t_non, t_bl, t_int, t_tup, t_rol, b_add, b_sub, b_mul, b_mod, b_fdiv, b_pow, b_addT, b_addS, b_mulT, b_mulSame, f_lenT, f_lenL, f_abs, f_max, f_min, f_int, f_intB, f_tupT, f_lstT, f_lstR, f_lenR, f_tupR, f_sum, f_all, f_any, f_anyT, f_allT, f_repr, x_tup, x_rol, x_ref, l_tup, l_ref, r_tup, m_app, m_ext, m_pop, m_cnt, p_app, p_ext, p_pop, p_cnt, s_tup, s_rol, s_ref, y_ii, y_ib, y_it, y_il, y_bi, y_bb, y_bt, y_tt, y_ti, y_tb, y_tl, y_ni, y_nt, x_set, a_add, a_sub, g_name, g_many, g_nil, g_cons, startP, wipeP, Tg.slots, List.map_cons, List.map_nil, List.length_cons, List.length_nil, List.replicate_succ, List.replicate_zero, List.cons_append, List.nil_append, List.getElem?_cons_zero, List.getElem?_cons_succ, Option.join_some, List.set_cons_zero, List.set_cons_succ, Bool.true_eq_false, reduceCtorEq, Option.map_some, Option.bind_some, Nat.reduceAdd, Nat.reduceSub, Nat.zero_add, Bool.not_true, Bool.not_false, Bool.false_eq_true, true_implies, false_implies, implies_true, and_true, true_and, not_true_eq_false, not_false_eq_true, decide_eq_true_eq, Bool.not_eq_true', Bool.not_eq_false', decide_eq_false_iff_not, iL_empty, eq_iT, gc_11, gc_0, gc_1, gc_12, gc_1202, gc_1203, getP_none]
  refine ⟨by decide, ?_⟩
  refine ⟨by decide, ?_⟩
  refine sp_law_productR h8.length [x, y] lst_new (by simp; omega) (by simp) fun h9 g9 => ?_
  (try simp -implicitDefEqProofs only [w_cons, w_nil, w_set, w_asg, w_par2, w_par3, w_setix, w_aug, w_expr, w_ret, w_retN, w_ifs, w_brk, w_cnt, w_pass, w_raise, w_for, w_whl, e_v, e_gc, e_int, e_str, e_bl, e_non, e_neg, e_not, e_bin, e_cmp, e_chain, e_and1, e_and2, e_or1, e_or2, e_and, e_or, e_ite, e_T, e_call, e_callv, e_bi, e_isi, e_meth, e_ix, e_slF, e_slT, e_slB, e_slN, e_rev, e_tup, e_lst, e_lc, e_lcIf, es_nil, es_cons, i_val, i_rng1, i_rng2, i_zip, getP_some, getP_map, getP_bind, getP_ite, asI_int, asF_fn, asT_tup, wpE_ok, step_name, step_many, c_eq, c_ne, c_lt, c_le, c_gt, c_ge, c_is, c_isNot, eq_int, eq_bl, eq_str, is_bl, is_nn, is_in, is_bn, is_sn, is_tn, is_ln, is_rn, t_non, t_bl, t_int, t_tup, t_rol, b_add, b_sub, b_mul, b_mod, b_fdiv, b_pow, b_addT, b_addS, b_mulT, b_mulSame, f_lenT, f_lenL, f_abs, f_max, f_min, f_int, f_intB, f_tupT, f_lstT, f_lstR, f_lenR, f_tupR, f_sum, f_all, f_any, f_anyT, f_allT, f_repr, x_tup, x_rol, x_ref, l_tup, l_ref, r_tup, m_app, m_ext, m_pop, m_cnt, p_app, p_ext, p_pop, p_cnt, s_tup, s_rol, s_ref, y_ii, y_ib, y_it, y_il, y_bi, y_bb, y_bt, y_tt, y_ti, y_tb, y_tl, y_ni, y_nt, x_set, a_add, a_sub, g_name, g_many, g_nil, g_cons, startP, wipeP, Tg.slots, List.map_cons, List.map_nil, List.length_cons, List.length_nil, List.replicate_succ, List.replicate_zero, List.cons_append, List.nil_append, List.getElem?_cons_zero, List.getElem?_cons_succ, Option.join_some, List.set_cons_zero, List.set_cons_succ, Bool.true_eq_false, reduceCtorEq, Option.map_some, Option.bind_some, Nat.reduceAdd, Nat.reduceSub, Nat.zero_add, Bool.not_true, Bool.not_false, Bool.false_eq_true, true_implies, false_implies, implies_true, and_true, true_and, not_true_eq_false, not_false_eq_true, decide_eq_true_eq, Bool.not_eq_true', Bool.not_eq_false', decide_eq_false_iff_not, iL_empty, eq_iT, gc_11, gc_0, gc_1, gc_12, gc_1202, gc_1203, getP_none])
  refine ⟨by decide, ?_⟩
  refine sp_law_productR h9.length [y, x] lst_new (by simp; omega) (by simp) fun h10 g10 => ?_
  have f1 : [x, y].flatten = x ++ y := by simp
  have f2 : [y, x].flatten = y ++ x := by simp
  have e1 : decide (br x y = []) = decide (sh [x, y].flatten = sh [y, x].flatten) := by rw [f1, f2]; exact decide_eq_decide.mpr (br_nil_iff x y)
  simp -implicitDefEqProofs only [w_cons, w_nil, w_set, w_asg, w_par2, w_par3, w_setix, w_aug, w_expr, w_ret, w_retN, w_ifs, w_brk, w_cnt, w_pass, w_raise, w_for, w_whl, e_v, e_gc, e_int, e_str, e_bl, e_non, e_neg, e_not, e_bin, e_cmp, e_chain, e_and1, e_and2, e_or1, e_or2, e_and, e_or, e_ite, e_T, e_call, e_callv, e_bi, e_isi, e_meth, e_ix, e_slF, e_slT, e_slB, e_slN, e_rev, e_tup, e_lst, e_lc, e_lcIf, es_nil, es_cons, i_val, i_rng1, i_rng2, i_zip, getP_some, getP_map, getP_bind, getP_ite, asI_int, asF_fn, asT_tup, wpE_ok, step_name, step_many, c_eq, c_ne, c_lt, c_le, c_gt, c_ge, c_is, c_isNot, eq_int, eq_bl, eq_str, is_bl, is_nn, is_in, is_bn, is_sn, is_tn, is_ln, is_rn, t_non, t_bl, t_int, t_tup, t_rol, b_add, b_sub, b_mul, b_mod, b_fdiv, b_pow, b_addT, b_addS, b_mulT, b_mulSame, f_lenT, f_lenL, f_abs, f_max, f_min, f_int, f_intB, f_tupT, f_lstT, f_lstR, f_lenR, f_tupR, f_sum, f_all, f_any, f_anyT, f_allT, f_repr, x_tup, x_rol, x_ref, l_tup, l_ref, r_tup, m_app, m_ext, m_pop, m_cnt, p_app, p_ext, p_pop, p_cnt, s_tup, s_rol, s_ref, y_ii, y_ib, y_it, y_il, y_bi, y_bb, y_bt, y_tt, y_ti, y_tb, y_tl, y_ni, y_nt, x_set, a_add, a_sub, g_name, g_many, g_nil, g_cons, startP, wipeP, Tg.slots, List.map_cons, List.map_nil, List.length_cons, List.length_nil, List.replicate_succ, List.replicate_zero, List.cons_append, List.nil_append, List.getElem?_cons_zero, List.getElem?_cons_succ, Option.join_some, List.set_cons_zero, List.set_cons_succ, Bool.true_eq_false, reduceCtorEq, Option.map_some, Option.bind_some, Nat.reduceAdd, Nat.reduceSub, Nat.zero_add, Bool.not_true, Bool.not_false, Bool.false_eq_true, true_implies, false_implies, implies_true, and_true, true_and, not_true_eq_false, not_false_eq_true, decide_eq_true_eq, Bool.not_eq_true', Bool.not_eq_false', decide_eq_false_iff_not, iL_empty, eq_iT, gc_11, gc_0, gc_1, gc_12, gc_1202, gc_1203, getP_none]
  refine ⟨fun q => absurd e1 q, fun _ => ?_⟩
  refine ⟨sz (by rw [iL_len]; omega), ?_⟩
  rw [← iL_app]
  refine sp_bracket (r : Int) x (x ++ x) ri1 ri4 wx (by omega) (wx.app wx) (by simp; omega) fun h11 g11 => ?_
  rw [br_self]
  simp -implicitDefEqProofs only [w_cons, w_nil, w_set, w_asg, w_par2, w_par3, w_setix, w_aug, w_expr, w_ret, w_retN, w_ifs, w_brk, w_cnt, w_pass, w_raise, w_for, w_whl, e_v, e_gc, e_int, e_str, e_bl, e_non, e_neg, e_not, e_bin, e_cmp, e_chain, e_and1, e_and2, e_or1, e_or2, e_and, e_or, e_ite, e_T, e_call, e_callv, e_bi, e_isi, e_meth, e_ix, e_slF, e_slT, e_slB, e_slN, e_rev, e_tup, e_lst, e_lc, e_lcIf, es_nil, es_cons, i_val, i_rng1, i_rng2, i_zip, getP_some, getP_map, getP_bind, getP_ite, asI_int, asF_fn, asT_tup, wpE_ok, step_name, step_many, c_eq, c_ne, c_lt, c_le, c_gt, c_ge, c_is, c_isNot, eq_int, eq_bl, eq_str, is_bl, is_nn, is_in, is_bn, is_sn, is_tn, is_ln, is_rn, t_non, t_bl, t_int, t_tup, t_rol, b_add, b_sub, b_mul, b_mod, b_fdiv, b_pow, b_addT, b_addS, b_mulT, b_mulSame, f_lenT, f_lenL, f_abs, f_max, f_min, f_int, f_intB, f_tupT, f_lstT, f_lstR, f_lenR, f_tupR, f_sum, f_all, f_any, f_anyT, f_allT, f_repr, x_tup, x_rol, x_ref, l_tup, l_ref, r_tup, m_app, m_ext, m_pop, m_cnt, p_app, p_ext, p_pop, p_cnt, s_tup, s_rol, s_ref, y_ii, y_ib, y_it, y_il, y_bi, y_bb, y_bt, y_tt, y_ti, y_tb, y_tl, y_ni, y_nt, x_set, a_add, a_sub, g_name, g_many, g_nil, g_cons, startP, wipeP, Tg.slots, List.map_cons, List.map_nil, List.length_cons, List.length_nil, List.replicate_succ, List.replicate_zero, List.cons_append, List.nil_append, List.getElem?_cons_zero, List.getElem?_cons_succ, Option.join_some, List.set_cons_zero, List.set_cons_succ, Bool.true_eq_false, reduceCtorEq, Option.map_some, Option.bind_some, Nat.reduceAdd, Nat.reduceSub, Nat.zero_add, Bool.not_true, Bool.not_false, Bool.false_eq_true, true_implies, false_implies, implies_true, and_true, true_and, not_true_eq_false, not_false_eq_true, decide_eq_true_eq, Bool.not_eq_true', Bool.not_eq_false', decide_eq_false_iff_not, iL_empty, eq_iT, gc_11, gc_0, gc_1, gc_12, gc_1202, gc_1203, getP_none, eq_tnil]
  refine ⟨by decide, ?_⟩
  simp -implicitDefEqProofs only [w_cons, w_nil, w_set, w_asg, w_par2, w_par3, w_setix, w_aug, w_expr, w_ret, w_retN, w_ifs, w_brk, w_cnt, w_pass, w_raise, w_for, w_whl, e_v, e_gc, e_int, e_str, e_bl, e_non, e_neg, e_not, e_bin, e_cmp, e_chain, e_and1, e_and2, e_or1, e_or2, e_and, e_or, e_ite, e_T, e_call, e_callv, e_bi, e_isi, e_meth, e_ix, e_slF, e_slT, e_slB, e_slN, e_rev, e_tup, e_lst, e_lc, e_lcIf, es_nil, es_cons, i_val, i_rng1, i_rng2, i_zip, getP_some, getP_map, getP_bind, getP_ite, asI_int, asF_fn, asT_tup, wpE_ok, step_name, step_many, c_eq, c_ne, c_lt, c_le, c_gt, c_ge, c_is, c_isNot, eq_int, eq_bl, eq_str, is_bl, is_nn, is_in, is_bn, is_sn, is_tn, is_ln, is_rn, t_non, t_bl, t_int, t_tup, t_rol, b_add, b_sub, b_mul, b_mod, b_fdiv, b_pow, b_addT, b_addS, b_mulT, b_mulSame, f_lenT, f_lenL, f_abs, f_max, f_min, f_int, f_intB, f_tupT, f_lstT, f_lstR, f_lenR, f_tupR, f_sum, f_all, f_any, f_anyT, f_allT, f_repr, x_tup, x_rol, x_ref, l_tup, l_ref, r_tup, m_app, m_ext, m_pop, m_cnt, p_app, p_ext, p_pop, p_cnt, s_tup, s_rol, s_ref, y_ii, y_ib, y_it, y_il, y_bi, y_bb, y_bt, y_tt, y_ti, y_tb, y_tl, y_ni, y_nt, x_set, a_add, a_sub, g_name, g_many, g_nil, g_cons, startP, wipeP, Tg.slots, List.map_cons, List.map_nil, List.length_cons, List.length_nil, List.replicate_succ, List.replicate_zero, List.cons_append, List.nil_append, List.getElem?_cons_zero, List.getElem?_cons_succ, Option.join_some, List.set_cons_zero, List.set_cons_succ, Bool.true_eq_false, reduceCtorEq, Option.map_some, Option.bind_some, Nat.reduceAdd, Nat.reduceSub, Nat.zero_add, Bool.not_true, Bool.not_false, Bool.false_eq_true, true_implies, false_implies, implies_true, and_true, true_and, not_true_eq_false, not_false_eq_true, decide_eq_true_eq, Bool.not_eq_true', Bool.not_eq_false', decide_eq_false_iff_not, iL_empty, eq_iT, gc_11, gc_0, gc_1, gc_12, gc_1202, gc_1203, getP_none, b2728_5]
  -- turned words
  refine sp_conjugate (r : Int) x y ri1 ri4 wx (by omega) wy (by omega) fun h12 g12 => ?_
  (try simp -implicitDefEqProofs only [w_cons, w_nil, w_set, w_asg, w_par2, w_par3, w_setix, w_aug, w_expr, w_ret, w_retN, w_ifs, w_brk, w_cnt, w_pass, w_raise, w_for, w_whl, e_v, e_gc, e_int, e_str, e_bl, e_non, e_neg, e_not, e_bin, e_cmp, e_chain, e_and1, e_and2, e_or1, e_or2, e_and, e_or, e_ite, e_T, e_call, e_callv, e_bi, e_isi, e_meth, e_ix, e_slF, e_slT, e_slB, e_slN, e_rev, e_tup, e_lst, e_lc, e_lcIf, es_nil, es_cons, i_val, i_rng1, i_rng2, i_zip, getP_some, getP_map, getP_bind, getP_ite, asI_int, asF_fn, asT_tup, wpE_ok, step_name, step_many, c_eq, c_ne, c_lt, c_le, c_gt, c_ge, c_is, c_isNot, eq_int, eq_bl, eq_str, is_bl, is_nn, is_in, is_bn, is_sn, is_tn, is_ln, is_rn, t_non, t_bl, t_int, t_tup, t_rol, b_add, b_sub, b_mul, b_mod, b_fdiv, b_pow, b_addT, b_addS, b_mulT, b_mulSame, f_lenT, f_lenL, f_abs, f_max, f_min, f_int, f_intB, f_tupT, f_lstT, f_lstR, f_lenR, f_tupR, f_sum, f_all, f_any, f_anyT, f_allT, f_repr, x_tup, x_rol, x_ref, l_tup, l_ref, r_tup, m_app, m_ext, m_pop, m_cnt, p_app, p_ext, p_pop, p_cnt, s_tup, s_rol, s_ref, y_ii, y_ib, y_it, y_il, y_bi, y_bb, y_bt, y_tt, y_ti, y_tb, y_tl, y_ni, y_nt, x_set, a_add, a_sub, g_name, g_many, g_nil, g_cons, startP, wipeP, Tg.slots, List.map_cons, List.map_nil, List.length_cons, List.length_nil, List.replicate_succ, List.replicate_zero, List.cons_append, List.nil_append, List.getElem?_cons_zero, List.getElem?_cons_succ, Option.join_some, List.set_cons_zero, List.set_cons_succ, Bool.true_eq_false, reduceCtorEq, Option.map_some, Option.bind_some, Nat.reduceAdd, Nat.reduceSub, Nat.zero_add, Bool.not_true, Bool.not_false, Bool.false_eq_true, true_implies, false_implies, implies_true, and_true, true_and, not_true_eq_false, not_false_eq_true, decide_eq_true_eq, Bool.not_eq_true', Bool.not_eq_false', decide_eq_false_iff_not, iL_empty, eq_iT, gc_11, gc_0, gc_1, gc_12, gc_1202, gc_1203, getP_none])
  refine sp_law_undone y (by omega) fun h13 g13 => ?_
  (try simp -implicitDefEqProofs only [w_cons, w_nil, w_set, w_asg, w_par2, w_par3, w_setix, w_aug, w_expr, w_ret, w_retN, w_ifs, w_brk, w_cnt, w_pass, w_raise, w_for, w_whl, e_v, e_gc, e_int, e_str, e_bl, e_non, e_neg, e_not, e_bin, e_cmp, e_chain, e_and1, e_and2, e_or1, e_or2, e_and, e_or, e_ite, e_T, e_call, e_callv, e_bi, e_isi, e_meth, e_ix, e_slF, e_slT, e_slB, e_slN, e_rev, e_tup, e_lst, e_lc, e_lcIf, es_nil, es_cons, i_val, i_rng1, i_rng2, i_zip, getP_some, getP_map, getP_bind, getP_ite, asI_int, asF_fn, asT_tup, wpE_ok, step_name, step_many, c_eq, c_ne, c_lt, c_le, c_gt, c_ge, c_is, c_isNot, eq_int, eq_bl, eq_str, is_bl, is_nn, is_in, is_bn, is_sn, is_tn, is_ln, is_rn, t_non, t_bl, t_int, t_tup, t_rol, b_add, b_sub, b_mul, b_mod, b_fdiv, b_pow, b_addT, b_addS, b_mulT, b_mulSame, f_lenT, f_lenL, f_abs, f_max, f_min, f_int, f_intB, f_tupT, f_lstT, f_lstR, f_lenR, f_tupR, f_sum, f_all, f_any, f_anyT, f_allT, f_repr, x_tup, x_rol, x_ref, l_tup, l_ref, r_tup, m_app, m_ext, m_pop, m_cnt, p_app, p_ext, p_pop, p_cnt, s_tup, s_rol, s_ref, y_ii, y_ib, y_it, y_il, y_bi, y_bb, y_bt, y_tt, y_ti, y_tb, y_tl, y_ni, y_nt, x_set, a_add, a_sub, g_name, g_many, g_nil, g_cons, startP, wipeP, Tg.slots, List.map_cons, List.map_nil, List.length_cons, List.length_nil, List.replicate_succ, List.replicate_zero, List.cons_append, List.nil_append, List.getElem?_cons_zero, List.getElem?_cons_succ, Option.join_some, List.set_cons_zero, List.set_cons_succ, Bool.true_eq_false, reduceCtorEq, Option.map_some, Option.bind_some, Nat.reduceAdd, Nat.reduceSub, Nat.zero_add, Bool.not_true, Bool.not_false, Bool.false_eq_true, true_implies, false_implies, implies_true, and_true, true_and, not_true_eq_false, not_false_eq_true, decide_eq_true_eq, Bool.not_eq_true', Bool.not_eq_false', decide_eq_false_iff_not, iL_empty, eq_iT, gc_11, gc_0, gc_1, gc_12, gc_1202, gc_1203, getP_none])
  refine ⟨by decide, ?_⟩
  refine sp_law_productR h13.length [y, x, un y] lst_new (by simp [un_len]; omega) (by simp) fun h14 g14 => ?_
  have f3 : sh [y, x, un y].flatten = cj x y := by simp [cj]
  rw [f3]
  simp -implicitDefEqProofs only [w_cons, w_nil, w_set, w_asg, w_par2, w_par3, w_setix, w_aug, w_expr, w_ret, w_retN, w_ifs, w_brk, w_cnt, w_pass, w_raise, w_for, w_whl, e_v, e_gc, e_int, e_str, e_bl, e_non, e_neg, e_not, e_bin, e_cmp, e_chain, e_and1, e_and2, e_or1, e_or2, e_and, e_or, e_ite, e_T, e_call, e_callv, e_bi, e_isi, e_meth, e_ix, e_slF, e_slT, e_slB, e_slN, e_rev, e_tup, e_lst, e_lc, e_lcIf, es_nil, es_cons, i_val, i_rng1, i_rng2, i_zip, getP_some, getP_map, getP_bind, getP_ite, asI_int, asF_fn, asT_tup, wpE_ok, step_name, step_many, c_eq, c_ne, c_lt, c_le, c_gt, c_ge, c_is, c_isNot, eq_int, eq_bl, eq_str, is_bl, is_nn, is_in, is_bn, is_sn, is_tn, is_ln, is_rn, t_non, t_bl, t_int, t_tup, t_rol, b_add, b_sub, b_mul, b_mod, b_fdiv, b_pow, b_addT, b_addS, b_mulT, b_mulSame, f_lenT, f_lenL, f_abs, f_max, f_min, f_int, f_intB, f_tupT, f_lstT, f_lstR, f_lenR, f_tupR, f_sum, f_all, f_any, f_anyT, f_allT, f_repr, x_tup, x_rol, x_ref, l_tup, l_ref, r_tup, m_app, m_ext, m_pop, m_cnt, p_app, p_ext, p_pop, p_cnt, s_tup, s_rol, s_ref, y_ii, y_ib, y_it, y_il, y_bi, y_bb, y_bt, y_tt, y_ti, y_tb, y_tl, y_ni, y_nt, x_set, a_add, a_sub, g_name, g_many, g_nil, g_cons, startP, wipeP, Tg.slots, List.map_cons, List.map_nil, List.length_cons, List.length_nil, List.replicate_succ, List.replicate_zero, List.cons_append, List.nil_append, List.getElem?_cons_zero, List.getElem?_cons_succ, Option.join_some, List.set_cons_zero, List.set_cons_succ, Bool.true_eq_false, reduceCtorEq, Option.map_some, Option.bind_some, Nat.reduceAdd, Nat.reduceSub, Nat.zero_add, Bool.not_true, Bool.not_false, Bool.false_eq_true, true_implies, false_implies, implies_true, and_true, true_and, not_true_eq_false, not_false_eq_true, decide_eq_true_eq, Bool.not_eq_true', Bool.not_eq_false', decide_eq_false_iff_not, iL_empty, eq_iT, gc_11, gc_0, gc_1, gc_12, gc_1202, gc_1203, getP_none, b2728_6]
  have wt := wx.br wy
  have wcx := wx.cj wz
  have wcy := wy.cj wz
  have lcx := cj_len x z
  have lcy := cj_len y z
  refine sp_conjugate (r : Int) x z ri1 ri4 wx (by omega) wz (by omega) fun h15 g15 => ?_
  (try simp -implicitDefEqProofs only [w_cons, w_nil, w_set, w_asg, w_par2, w_par3, w_setix, w_aug, w_expr, w_ret, w_retN, w_ifs, w_brk, w_cnt, w_pass, w_raise, w_for, w_whl, e_v, e_gc, e_int, e_str, e_bl, e_non, e_neg, e_not, e_bin, e_cmp, e_chain, e_and1, e_and2, e_or1, e_or2, e_and, e_or, e_ite, e_T, e_call, e_callv, e_bi, e_isi, e_meth, e_ix, e_slF, e_slT, e_slB, e_slN, e_rev, e_tup, e_lst, e_lc, e_lcIf, es_nil, es_cons, i_val, i_rng1, i_rng2, i_zip, getP_some, getP_map, getP_bind, getP_ite, asI_int, asF_fn, asT_tup, wpE_ok, step_name, step_many, c_eq, c_ne, c_lt, c_le, c_gt, c_ge, c_is, c_isNot, eq_int, eq_bl, eq_str, is_bl, is_nn, is_in, is_bn, is_sn, is_tn, is_ln, is_rn, t_non, t_bl, t_int, t_tup, t_rol, b_add, b_sub, b_mul, b_mod, b_fdiv, b_pow, b_addT, b_addS, b_mulT, b_mulSame, f_lenT, f_lenL, f_abs, f_max, f_min, f_int, f_intB, f_tupT, f_lstT, f_lstR, f_lenR, f_tupR, f_sum, f_all, f_any, f_anyT, f_allT, f_repr, x_tup, x_rol, x_ref, l_tup, l_ref, r_tup, m_app, m_ext, m_pop, m_cnt, p_app, p_ext, p_pop, p_cnt, s_tup, s_rol, s_ref, y_ii, y_ib, y_it, y_il, y_bi, y_bb, y_bt, y_tt, y_ti, y_tb, y_tl, y_ni, y_nt, x_set, a_add, a_sub, g_name, g_many, g_nil, g_cons, startP, wipeP, Tg.slots, List.map_cons, List.map_nil, List.length_cons, List.length_nil, List.replicate_succ, List.replicate_zero, List.cons_append, List.nil_append, List.getElem?_cons_zero, List.getElem?_cons_succ, Option.join_some, List.set_cons_zero, List.set_cons_succ, Bool.true_eq_false, reduceCtorEq, Option.map_some, Option.bind_some, Nat.reduceAdd, Nat.reduceSub, Nat.zero_add, Bool.not_true, Bool.not_false, Bool.false_eq_true, true_implies, false_implies, implies_true, and_true, true_and, not_true_eq_false, not_false_eq_true, decide_eq_true_eq, Bool.not_eq_true', Bool.not_eq_false', decide_eq_false_iff_not, iL_empty, eq_iT, gc_11, gc_0, gc_1, gc_12, gc_1202, gc_1203, getP_none])
  refine sp_conjugate (r : Int) y z ri1 ri4 wy (by omega) wz (by omega) fun h16 g16 => ?_
  (try simp -implicitDefEqProofs only [w_cons, w_nil, w_set, w_asg, w_par2, w_par3, w_setix, w_aug, w_expr, w_ret, w_retN, w_ifs, w_brk, w_cnt, w_pass, w_raise, w_for, w_whl, e_v, e_gc, e_int, e_str, e_bl, e_non, e_neg, e_not, e_bin, e_cmp, e_chain, e_and1, e_and2, e_or1, e_or2, e_and, e_or, e_ite, e_T, e_call, e_callv, e_bi, e_isi, e_meth, e_ix, e_slF, e_slT, e_slB, e_slN, e_rev, e_tup, e_lst, e_lc, e_lcIf, es_nil, es_cons, i_val, i_rng1, i_rng2, i_zip, getP_some, getP_map, getP_bind, getP_ite, asI_int, asF_fn, asT_tup, wpE_ok, step_name, step_many, c_eq, c_ne, c_lt, c_le, c_gt, c_ge, c_is, c_isNot, eq_int, eq_bl, eq_str, is_bl, is_nn, is_in, is_bn, is_sn, is_tn, is_ln, is_rn, t_non, t_bl, t_int, t_tup, t_rol, b_add, b_sub, b_mul, b_mod, b_fdiv, b_pow, b_addT, b_addS, b_mulT, b_mulSame, f_lenT, f_lenL, f_abs, f_max, f_min, f_int, f_intB, f_tupT, f_lstT, f_lstR, f_lenR, f_tupR, f_sum, f_all, f_any, f_anyT, f_allT, f_repr, x_tup, x_rol, x_ref, l_tup, l_ref, r_tup, m_app, m_ext, m_pop, m_cnt, p_app, p_ext, p_pop, p_cnt, s_tup, s_rol, s_ref, y_ii, y_ib, y_it, y_il, y_bi, y_bb, y_bt, y_tt, y_ti, y_tb, y_tl, y_ni, y_nt, x_set, a_add, a_sub, g_name, g_many, g_nil, g_cons, startP, wipeP, Tg.slots, List.map_cons, List.map_nil, List.length_cons, List.length_nil, List.replicate_succ, List.replicate_zero, List.cons_append, List.nil_append, List.getElem?_cons_zero, List.getElem?_cons_succ, Option.join_some, List.set_cons_zero, List.set_cons_succ, Bool.true_eq_false, reduceCtorEq, Option.map_some, Option.bind_some, Nat.reduceAdd, Nat.reduceSub, Nat.zero_add, Bool.not_true, Bool.not_false, Bool.false_eq_true, true_implies, false_implies, implies_true, and_true, true_and, not_true_eq_false, not_false_eq_true, decide_eq_true_eq, Bool.not_eq_true', Bool.not_eq_false', decide_eq_false_iff_not, iL_empty, eq_iT, gc_11, gc_0, gc_1, gc_12, gc_1202, gc_1203, getP_none])
  refine sp_bracket (r : Int) (cj x z) (cj y z) ri1 ri4 wcx (by omega) wcy (by omega) fun h17 g17 => ?_
  (try simp -implicitDefEqProofs only [w_cons, w_nil, w_set, w_asg, w_par2, w_par3, w_setix, w_aug, w_expr, w_ret, w_retN, w_ifs, w_brk, w_cnt, w_pass, w_raise, w_for, w_whl, e_v, e_gc, e_int, e_str, e_bl, e_non, e_neg, e_not, e_bin, e_cmp, e_chain, e_and1, e_and2, e_or1, e_or2, e_and, e_or, e_ite, e_T, e_call, e_callv, e_bi, e_isi, e_meth, e_ix, e_slF, e_slT, e_slB, e_slN, e_rev, e_tup, e_lst, e_lc, e_lcIf, es_nil, es_cons, i_val, i_rng1, i_rng2, i_zip, getP_some, getP_map, getP_bind, getP_ite, asI_int, asF_fn, asT_tup, wpE_ok, step_name, step_many, c_eq, c_ne, c_lt, c_le, c_gt, c_ge, c_is, c_isNot, eq_int, eq_bl, eq_str, is_bl, is_nn, is_in, is_bn, is_sn, is_tn, is_ln, is_rn, t_non, t_bl, t_int, t_tup, t_rol, b_add, b_sub, b_mul, b_mod, b_fdiv, b_pow, b_addT, b_addS, b_mulT, b_mulSame, f_lenT, f_lenL, f_abs, f_max, f_min, f_int, f_intB, f_tupT, f_lstT, f_lstR, f_lenR, f_tupR, f_sum, f_all, f_any, f_anyT, f_allT, f_repr, x_tup, x_rol, x_ref, l_tup, l_ref, r_tup, m_app, m_ext, m_pop, m_cnt, p_app, p_ext, p_pop, p_cnt, s_tup, s_rol, s_ref, y_ii, y_ib, y_it, y_il, y_bi, y_bb, y_bt, y_tt, y_ti, y_tb, y_tl, y_ni, y_nt, x_set, a_add, a_sub, g_name, g_many, g_nil, g_cons, startP, wipeP, Tg.slots, List.map_cons, List.map_nil, List.length_cons, List.length_nil, List.replicate_succ, List.replicate_zero, List.cons_append, List.nil_append, List.getElem?_cons_zero, List.getElem?_cons_succ, Option.join_some, List.set_cons_zero, List.set_cons_succ, Bool.true_eq_false, reduceCtorEq, Option.map_some, Option.bind_some, Nat.reduceAdd, Nat.reduceSub, Nat.zero_add, Bool.not_true, Bool.not_false, Bool.false_eq_true, true_implies, false_implies, implies_true, and_true, true_and, not_true_eq_false, not_false_eq_true, decide_eq_true_eq, Bool.not_eq_true', Bool.not_eq_false', decide_eq_false_iff_not, iL_empty, eq_iT, gc_11, gc_0, gc_1, gc_12, gc_1202, gc_1203, getP_none])
  refine sp_conjugate (r : Int) (br x y) z ri1 ri4 wt (by omega) wz (by omega) fun h18 g18 => ?_
  rw [br_cj]
  simp -implicitDefEqProofs only [w_cons, w_nil, w_set, w_asg, w_par2, w_par3, w_setix, w_aug, w_expr, w_ret, w_retN, w_ifs, w_brk, w_cnt, w_pass, w_raise, w_for, w_whl, e_v, e_gc, e_int, e_str, e_bl, e_non, e_neg, e_not, e_bin, e_cmp, e_chain, e_and1, e_and2, e_or1, e_or2, e_and, e_or, e_ite, e_T, e_call, e_callv, e_bi, e_isi, e_meth, e_ix, e_slF, e_slT, e_slB, e_slN, e_rev, e_tup, e_lst, e_lc, e_lcIf, es_nil, es_cons, i_val, i_rng1, i_rng2, i_zip, getP_some, getP_map, getP_bind, getP_ite, asI_int, asF_fn, asT_tup, wpE_ok, step_name, step_many, c_eq, c_ne, c_lt, c_le, c_gt, c_ge, c_is, c_isNot, eq_int, eq_bl, eq_str, is_bl, is_nn, is_in, is_bn, is_sn, is_tn, is_ln, is_rn, t_non, t_bl, t_int, t_tup, t_rol, b_add, b_sub, b_mul, b_mod, b_fdiv, b_pow, b_addT, b_addS, b_mulT, b_mulSame, f_lenT, f_lenL, f_abs, f_max, f_min, f_int, f_intB, f_tupT, f_lstT, f_lstR, f_lenR, f_tupR, f_sum, f_all, f_any, f_anyT, f_allT, f_repr, x_tup, x_rol, x_ref, l_tup, l_ref, r_tup, m_app, m_ext, m_pop, m_cnt, p_app, p_ext, p_pop, p_cnt, s_tup, s_rol, s_ref, y_ii, y_ib, y_it, y_il, y_bi, y_bb, y_bt, y_tt, y_ti, y_tb, y_tl, y_ni, y_nt, x_set, a_add, a_sub, g_name, g_many, g_nil, g_cons, startP, wipeP, Tg.slots, List.map_cons, List.map_nil, List.length_cons, List.length_nil, List.replicate_succ, List.replicate_zero, List.cons_append, List.nil_append, List.getElem?_cons_zero, List.getElem?_cons_succ, Option.join_some, List.set_cons_zero, List.set_cons_succ, Bool.true_eq_false, reduceCtorEq, Option.map_some, Option.bind_some, Nat.reduceAdd, Nat.reduceSub, Nat.zero_add, Bool.not_true, Bool.not_false, Bool.false_eq_true, true_implies, false_implies, implies_true, and_true, true_and, not_true_eq_false, not_false_eq_true, decide_eq_true_eq, Bool.not_eq_true', Bool.not_eq_false', decide_eq_false_iff_not, iL_empty, eq_iT, gc_11, gc_0, gc_1, gc_12, gc_1202, gc_1203, getP_none, b2728_7]
  -- a row of brackets
  have g418 : Gr [] h4 h18 := ((((((((((((g5.trans g6).trans g7).trans g8).new.trans g9).new.trans g10).trans g11).trans g12).trans g13).new.trans g14).trans g15).trans g16).trans g17).trans g18
  have d18 := d4.keep g418 (by simp)
  refine sp_roll n (k + 100) _ (d18.less (by omega)) (by omega) (by omega) fun v h19 a19 b19 g19 d19 => ?_
  obtain ⟨t, rfl⟩ := Int.eq_ofNat_of_zero_le a19
  have ht : t < 4 := by omega
  (try simp -implicitDefEqProofs only [w_cons, w_nil, w_set, w_asg, w_par2, w_par3, w_setix, w_aug, w_expr, w_ret, w_retN, w_ifs, w_brk, w_cnt, w_pass, w_raise, w_for, w_whl, e_v, e_gc, e_int, e_str, e_bl, e_non, e_neg, e_not, e_bin, e_cmp, e_chain, e_and1, e_and2, e_or1, e_or2, e_and, e_or, e_ite, e_T, e_call, e_callv, e_bi, e_isi, e_meth, e_ix, e_slF, e_slT, e_slB, e_slN, e_rev, e_tup, e_lst, e_lc, e_lcIf, es_nil, es_cons, i_val, i_rng1, i_rng2, i_zip, getP_some, getP_map, getP_bind, getP_ite, asI_int, asF_fn, asT_tup, wpE_ok, step_name, step_many, c_eq, c_ne, c_lt, c_le, c_gt, c_ge, c_is, c_isNot, eq_int, eq_bl, eq_str, is_bl, is_nn, is_in, is_bn, is_sn, is_tn, is_ln, is_rn, t_non, t_bl, t_int, t_tup, t_rol, b_add, b_sub, b_mul, b_mod, b_fdiv, b_pow, b_addT, b_addS, b_mulT, b_mulSame, f_lenT, f_lenL, f_abs, f_max, f_min, f_int, f_intB, f_tupT, f_lstT, f_lstR, f_lenR, f_tupR, f_sum, f_all, f_any, f_anyT, f_allT, f_repr, x_tup, x_rol, x_ref, l_tup, l_ref, r_tup, m_app, m_ext, m_pop, m_cnt, p_app, p_ext, p_pop, p_cnt, s_tup, s_rol, s_ref, y_ii, y_ib, y_it, y_il, y_bi, y_bb, y_bt, y_tt, y_ti, y_tb, y_tl, y_ni, y_nt, x_set, a_add, a_sub, g_name, g_many, g_nil, g_cons, startP, wipeP, Tg.slots, List.map_cons, List.map_nil, List.length_cons, List.length_nil, List.replicate_succ, List.replicate_zero, List.cons_append, List.nil_append, List.getElem?_cons_zero, List.getElem?_cons_succ, Option.join_some, List.set_cons_zero, List.set_cons_succ, Bool.true_eq_false, reduceCtorEq, Option.map_some, Option.bind_some, Nat.reduceAdd, Nat.reduceSub, Nat.zero_add, Bool.not_true, Bool.not_false, Bool.false_eq_true, true_implies, false_implies, implies_true, and_true, true_and, not_true_eq_false, not_false_eq_true, decide_eq_true_eq, Bool.not_eq_true', Bool.not_eq_false', decide_eq_false_iff_not, iL_empty, eq_iT, gc_11, gc_0, gc_1, gc_12, gc_1202, gc_1203, getP_none])
  refine ⟨inr_small (by omega) (by omega), ?_⟩
  rw [show ((1 : Int) + (t : Int)).toNat = t + 1 by omega]
  refine lc_src (xs := rngL 0 (t + 1)) (fun i acc h'' => ∃ ws, acc = wL ws ∧ (∀ w ∈ ws, Wd r w ∧ w.length ≤ 3) ∧ ws.length = i ∧ Gr [n] h19 h'' ∧ Dice h'' n (k + 10 + (4 - i) * 4)) ⟨[], rfl, by simp, rfl, .refl, d19.less (by omega)⟩ (fun _ _ _ _ _ => rfl) (fun i x acc h'' hx _ hI => ?_) (fun acc h'' hI => ?_) (by rw [rngL_len]; exact sz (by omega)) (gf (by rw [rngL_len]; omega))
  · obtain ⟨ws, rfl, hw, hl, hg2, hd2⟩ := hI
    obtain ⟨lt, rfl⟩ := rngL_get hx
    (try simp -implicitDefEqProofs only [w_cons, w_nil, w_set, w_asg, w_par2, w_par3, w_setix, w_aug, w_expr, w_ret, w_retN, w_ifs, w_brk, w_cnt, w_pass, w_raise, w_for, w_whl, e_v, e_gc, e_int, e_str, e_bl, e_non, e_neg, e_not, e_bin, e_cmp, e_chain, e_and1, e_and2, e_or1, e_or2, e_and, e_or, e_ite, e_T, e_call, e_callv, e_bi, e_isi, e_meth, e_ix, e_slF, e_slT, e_slB, e_slN, e_rev, e_tup, e_lst, e_lc, e_lcIf, es_nil, es_cons, i_val, i_rng1, i_rng2, i_zip, getP_some, getP_map, getP_bind, getP_ite, asI_int, asF_fn, asT_tup, wpE_ok, step_name, step_many, c_eq, c_ne, c_lt, c_le, c_gt, c_ge, c_is, c_isNot, eq_int, eq_bl, eq_str, is_bl, is_nn, is_in, is_bn, is_sn, is_tn, is_ln, is_rn, t_non, t_bl, t_int, t_tup, t_rol, b_add, b_sub, b_mul, b_mod, b_fdiv, b_pow, b_addT, b_addS, b_mulT, b_mulSame, f_lenT, f_lenL, f_abs, f_max, f_min, f_int, f_intB, f_tupT, f_lstT, f_lstR, f_lenR, f_tupR, f_sum, f_all, f_any, f_anyT, f_allT, f_repr, x_tup, x_rol, x_ref, l_tup, l_ref, r_tup, m_app, m_ext, m_pop, m_cnt, p_app, p_ext, p_pop, p_cnt, s_tup, s_rol, s_ref, y_ii, y_ib, y_it, y_il, y_bi, y_bb, y_bt, y_tt, y_ti, y_tb, y_tl, y_ni, y_nt, x_set, a_add, a_sub, g_name, g_many, g_nil, g_cons, startP, wipeP, Tg.slots, List.map_cons, List.map_nil, List.length_cons, List.length_nil, List.replicate_succ, List.replicate_zero, List.cons_append, List.nil_append, List.getElem?_cons_zero, List.getElem?_cons_succ, Option.join_some, List.set_cons_zero, List.set_cons_succ, Bool.true_eq_false, reduceCtorEq, Option.map_some, Option.bind_some, Nat.reduceAdd, Nat.reduceSub, Nat.zero_add, Bool.not_true, Bool.not_false, Bool.false_eq_true, true_implies, false_implies, implies_true, and_true, true_and, not_true_eq_false, not_false_eq_true, decide_eq_true_eq, Bool.not_eq_true', Bool.not_eq_false', decide_eq_false_iff_not, iL_empty, eq_iT, gc_11, gc_0, gc_1, gc_12, gc_1202, gc_1203, getP_none])
    refine sp_law_word n (k + 10 + (4 - (i + 1)) * 4) r 3 (hd2.less (by omega)) r1 (by omega) (by omega) fun w h3 hw3 hl3 hg3 hd3 => ?_
    refine ⟨ws ++ [w], by simp [wL], fun x hx => ?_, by simp [hl], hg2.trans hg3, hd3⟩
    rcases List.mem_append.mp hx with hx | hx
    · exact hw x hx
    · rw [List.mem_singleton.mp hx]; exact ⟨hw3, hl3⟩
  · obtain ⟨ws, rfl, hw, hl, hg2, hd2⟩ := hI
    rw [rngL_len] at hl
    obtain ⟨w, ws, rfl⟩ : ∃ w ws', ws = w :: ws' := by
      cases ws with
      | nil => simp at hl
      | cons w ws => exact ⟨w, ws, rfl⟩
    have hl' : ws.length ≤ 3 := by simp at hl; omega
    have lw := (hw w (by simp)).2
    have lsw := sh_len w
    have ft : fits 400 (sh w) ws := fits_3 ws (sh w) 3 3 hl' (fun v hv => (hw v (by simp [hv])).2) (by omega) (by decide)
    have fl : (w :: ws).flatten.length ≤ 12 := by
      have : ∀ l : List (List Int), (∀ w ∈ l, w.length ≤ 3) → l.flatten.length ≤ 3 * l.length := by
        intro l
        induction l with
        | nil => intro _; simp
        | cons w l ih =>
          intro hl
          have h1 := hl w List.mem_cons_self
          have h2 := ih fun x hx => hl x (List.mem_cons_of_mem _ hx)
          simp only [List.flatten_cons, List.length_append, List.length_cons]
          omega
      have := this (w :: ws) fun v hv => (hw v hv).2
      simp only [List.length_cons] at this
      omega
    simp -implicitDefEqProofs only [w_cons, w_nil, w_set, w_asg, w_par2, w_par3, w_setix, w_aug, w_expr, w_ret, w_retN, w_ifs, w_brk, w_cnt, w_pass, w_raise, w_for, w_whl, e_v, e_gc, e_int, e_str, e_bl, e_non, e_neg, e_not, e_bin, e_cmp, e_chain, e_and1, e_and2, e_or1, e_or2, e_and, e_or, e_ite, e_T, e_call, e_callv, e_bi, e_isi, e_meth, e_ix, e_slF, e_slT, e_slB, e_slN, e_rev, e_tup, e_lst, e_lc, e_lcIf, es_nil, es_cons, i_val, i_rng1, i_rng2, i_zip, getP_some, getP_map, getP_bind, getP_ite, asI_int, asF_fn, asT_tup, wpE_ok, step_name, step_many, c_eq, c_ne, c_lt, c_le, c_gt, c_ge, c_is, c_isNot, eq_int, eq_bl, eq_str, is_bl, is_nn, is_in, is_bn, is_sn, is_tn, is_ln, is_rn, t_non, t_bl, t_int, t_tup, t_rol, b_add, b_sub, b_mul, b_mod, b_fdiv, b_pow, b_addT, b_addS, b_mulT, b_mulSame, f_lenT, f_lenL, f_abs, f_max, f_min, f_int, f_intB, f_tupT, f_lstT, f_lstR, f_lenR, f_tupR, f_sum, f_all, f_any, f_anyT, f_allT, f_repr, x_tup, x_rol, x_ref, l_tup, l_ref, r_tup, m_app, m_ext, m_pop, m_cnt, p_app, p_ext, p_pop, p_cnt, s_tup, s_rol, s_ref, y_ii, y_ib, y_it, y_il, y_bi, y_bb, y_bt, y_tt, y_ti, y_tb, y_tl, y_ni, y_nt, x_set, a_add, a_sub, g_name, g_many, g_nil, g_cons, startP, wipeP, Tg.slots, List.map_cons, List.map_nil, List.length_cons, List.length_nil, List.replicate_succ, List.replicate_zero, List.cons_append, List.nil_append, List.getElem?_cons_zero, List.getElem?_cons_succ, Option.join_some, List.set_cons_zero, List.set_cons_succ, Bool.true_eq_false, reduceCtorEq, Option.map_some, Option.bind_some, Nat.reduceAdd, Nat.reduceSub, Nat.zero_add, Bool.not_true, Bool.not_false, Bool.false_eq_true, true_implies, false_implies, implies_true, and_true, true_and, not_true_eq_false, not_false_eq_true, decide_eq_true_eq, Bool.not_eq_true', Bool.not_eq_false', decide_eq_false_iff_not, iL_empty, eq_iT, gc_11, gc_0, gc_1, gc_12, gc_1202, gc_1203, getP_none, lst_new, b2728_8]
    have g20 : Gr [] h'' (h'' ++ [Cell.lst (wL (w :: ws))]) := Gr.new .refl
    have d20 := hd2.keep g20 (by simp)
    refine sp_bracket_row (r : Int) w ws ri1 ri4 (fun v hv => ⟨(hw v hv).1, by have := (hw v hv).2; omega⟩) (by simp; omega) (by omega) ft fun h21 g21 => ?_
    (try simp -implicitDefEqProofs only [w_cons, w_nil, w_set, w_asg, w_par2, w_par3, w_setix, w_aug, w_expr, w_ret, w_retN, w_ifs, w_brk, w_cnt, w_pass, w_raise, w_for, w_whl, e_v, e_gc, e_int, e_str, e_bl, e_non, e_neg, e_not, e_bin, e_cmp, e_chain, e_and1, e_and2, e_or1, e_or2, e_and, e_or, e_ite, e_T, e_call, e_callv, e_bi, e_isi, e_meth, e_ix, e_slF, e_slT, e_slB, e_slN, e_rev, e_tup, e_lst, e_lc, e_lcIf, es_nil, es_cons, i_val, i_rng1, i_rng2, i_zip, getP_some, getP_map, getP_bind, getP_ite, asI_int, asF_fn, asT_tup, wpE_ok, step_name, step_many, c_eq, c_ne, c_lt, c_le, c_gt, c_ge, c_is, c_isNot, eq_int, eq_bl, eq_str, is_bl, is_nn, is_in, is_bn, is_sn, is_tn, is_ln, is_rn, t_non, t_bl, t_int, t_tup, t_rol, b_add, b_sub, b_mul, b_mod, b_fdiv, b_pow, b_addT, b_addS, b_mulT, b_mulSame, f_lenT, f_lenL, f_abs, f_max, f_min, f_int, f_intB, f_tupT, f_lstT, f_lstR, f_lenR, f_tupR, f_sum, f_all, f_any, f_anyT, f_allT, f_repr, x_tup, x_rol, x_ref, l_tup, l_ref, r_tup, m_app, m_ext, m_pop, m_cnt, p_app, p_ext, p_pop, p_cnt, s_tup, s_rol, s_ref, y_ii, y_ib, y_it, y_il, y_bi, y_bb, y_bt, y_tt, y_ti, y_tb, y_tl, y_ni, y_nt, x_set, a_add, a_sub, g_name, g_many, g_nil, g_cons, startP, wipeP, Tg.slots, List.map_cons, List.map_nil, List.length_cons, List.length_nil, List.replicate_succ, List.replicate_zero, List.cons_append, List.nil_append, List.getElem?_cons_zero, List.getElem?_cons_succ, Option.join_some, List.set_cons_zero, List.set_cons_succ, Bool.true_eq_false, reduceCtorEq, Option.map_some, Option.bind_some, Nat.reduceAdd, Nat.reduceSub, Nat.zero_add, Bool.not_true, Bool.not_false, Bool.false_eq_true, true_implies, false_implies, implies_true, and_true, true_and, not_true_eq_false, not_false_eq_true, decide_eq_true_eq, Bool.not_eq_true', Bool.not_eq_false', decide_eq_false_iff_not, iL_empty, eq_iT, gc_11, gc_0, gc_1, gc_12, gc_1202, gc_1203, getP_none])
    refine sp_law_row_of w ws (by omega) (fun v hv => by have := (hw v (by simp [hv])).2; omega) (by omega) ft fun h22 g22 => ?_
    simp -implicitDefEqProofs only [w_cons, w_nil, w_set, w_asg, w_par2, w_par3, w_setix, w_aug, w_expr, w_ret, w_retN, w_ifs, w_brk, w_cnt, w_pass, w_raise, w_for, w_whl, e_v, e_gc, e_int, e_str, e_bl, e_non, e_neg, e_not, e_bin, e_cmp, e_chain, e_and1, e_and2, e_or1, e_or2, e_and, e_or, e_ite, e_T, e_call, e_callv, e_bi, e_isi, e_meth, e_ix, e_slF, e_slT, e_slB, e_slN, e_rev, e_tup, e_lst, e_lc, e_lcIf, es_nil, es_cons, i_val, i_rng1, i_rng2, i_zip, getP_some, getP_map, getP_bind, getP_ite, asI_int, asF_fn, asT_tup, wpE_ok, step_name, step_many, c_eq, c_ne, c_lt, c_le, c_gt, c_ge, c_is, c_isNot, eq_int, eq_bl, eq_str, is_bl, is_nn, is_in, is_bn, is_sn, is_tn, is_ln, is_rn, t_non, t_bl, t_int, t_tup, t_rol, b_add, b_sub, b_mul, b_mod, b_fdiv, b_pow, b_addT, b_addS, b_mulT, b_mulSame, f_lenT, f_lenL, f_abs, f_max, f_min, f_int, f_intB, f_tupT, f_lstT, f_lstR, f_lenR, f_tupR, f_sum, f_all, f_any, f_anyT, f_allT, f_repr, x_tup, x_rol, x_ref, l_tup, l_ref, r_tup, m_app, m_ext, m_pop, m_cnt, p_app, p_ext, p_pop, p_cnt, s_tup, s_rol, s_ref, y_ii, y_ib, y_it, y_il, y_bi, y_bb, y_bt, y_tt, y_ti, y_tb, y_tl, y_ni, y_nt, x_set, a_add, a_sub, g_name, g_many, g_nil, g_cons, startP, wipeP, Tg.slots, List.map_cons, List.map_nil, List.length_cons, List.length_nil, List.replicate_succ, List.replicate_zero, List.cons_append, List.nil_append, List.getElem?_cons_zero, List.getElem?_cons_succ, Option.join_some, List.set_cons_zero, List.set_cons_succ, Bool.true_eq_false, reduceCtorEq, Option.map_some, Option.bind_some, Nat.reduceAdd, Nat.reduceSub, Nat.zero_add, Bool.not_true, Bool.not_false, Bool.false_eq_true, true_implies, false_implies, implies_true, and_true, true_and, not_true_eq_false, not_false_eq_true, decide_eq_true_eq, Bool.not_eq_true', Bool.not_eq_false', decide_eq_false_iff_not, iL_empty, eq_iT, gc_11, gc_0, gc_1, gc_12, gc_1202, gc_1203, getP_none, b2728_9]
    refine ⟨sz (by rw [iL_len, iL_len]; omega), ?_⟩
    refine sp_law_undone x (by omega) fun h23 g23 => ?_
    simp -implicitDefEqProofs only [w_cons, w_nil, w_set, w_asg, w_par2, w_par3, w_setix, w_aug, w_expr, w_ret, w_retN, w_ifs, w_brk, w_cnt, w_pass, w_raise, w_for, w_whl, e_v, e_gc, e_int, e_str, e_bl, e_non, e_neg, e_not, e_bin, e_cmp, e_chain, e_and1, e_and2, e_or1, e_or2, e_and, e_or, e_ite, e_T, e_call, e_callv, e_bi, e_isi, e_meth, e_ix, e_slF, e_slT, e_slB, e_slN, e_rev, e_tup, e_lst, e_lc, e_lcIf, es_nil, es_cons, i_val, i_rng1, i_rng2, i_zip, getP_some, getP_map, getP_bind, getP_ite, asI_int, asF_fn, asT_tup, wpE_ok, step_name, step_many, c_eq, c_ne, c_lt, c_le, c_gt, c_ge, c_is, c_isNot, eq_int, eq_bl, eq_str, is_bl, is_nn, is_in, is_bn, is_sn, is_tn, is_ln, is_rn, t_non, t_bl, t_int, t_tup, t_rol, b_add, b_sub, b_mul, b_mod, b_fdiv, b_pow, b_addT, b_addS, b_mulT, b_mulSame, f_lenT, f_lenL, f_abs, f_max, f_min, f_int, f_intB, f_tupT, f_lstT, f_lstR, f_lenR, f_tupR, f_sum, f_all, f_any, f_anyT, f_allT, f_repr, x_tup, x_rol, x_ref, l_tup, l_ref, r_tup, m_app, m_ext, m_pop, m_cnt, p_app, p_ext, p_pop, p_cnt, s_tup, s_rol, s_ref, y_ii, y_ib, y_it, y_il, y_bi, y_bb, y_bt, y_tt, y_ti, y_tb, y_tl, y_ni, y_nt, x_set, a_add, a_sub, g_name, g_many, g_nil, g_cons, startP, wipeP, Tg.slots, List.map_cons, List.map_nil, List.length_cons, List.length_nil, List.replicate_succ, List.replicate_zero, List.cons_append, List.nil_append, List.getElem?_cons_zero, List.getElem?_cons_succ, Option.join_some, List.set_cons_zero, List.set_cons_succ, Bool.true_eq_false, reduceCtorEq, Option.map_some, Option.bind_some, Nat.reduceAdd, Nat.reduceSub, Nat.zero_add, Bool.not_true, Bool.not_false, Bool.false_eq_true, true_implies, false_implies, implies_true, and_true, true_and, not_true_eq_false, not_false_eq_true, decide_eq_true_eq, Bool.not_eq_true', Bool.not_eq_false', decide_eq_false_iff_not, iL_empty, eq_iT, gc_11, gc_0, gc_1, gc_12, gc_1202, gc_1203, getP_none, ← iL_app]
    refine ⟨sz (by rw [iL_len, iL_len, List.length_append, un_len]; omega), ?_⟩
    refine sp_law_undone x (by omega) fun h24 g24 => ?_
    simp -implicitDefEqProofs only [w_cons, w_nil, w_set, w_asg, w_par2, w_par3, w_setix, w_aug, w_expr, w_ret, w_retN, w_ifs, w_brk, w_cnt, w_pass, w_raise, w_for, w_whl, e_v, e_gc, e_int, e_str, e_bl, e_non, e_neg, e_not, e_bin, e_cmp, e_chain, e_and1, e_and2, e_or1, e_or2, e_and, e_or, e_ite, e_T, e_call, e_callv, e_bi, e_isi, e_meth, e_ix, e_slF, e_slT, e_slB, e_slN, e_rev, e_tup, e_lst, e_lc, e_lcIf, es_nil, es_cons, i_val, i_rng1, i_rng2, i_zip, getP_some, getP_map, getP_bind, getP_ite, asI_int, asF_fn, asT_tup, wpE_ok, step_name, step_many, c_eq, c_ne, c_lt, c_le, c_gt, c_ge, c_is, c_isNot, eq_int, eq_bl, eq_str, is_bl, is_nn, is_in, is_bn, is_sn, is_tn, is_ln, is_rn, t_non, t_bl, t_int, t_tup, t_rol, b_add, b_sub, b_mul, b_mod, b_fdiv, b_pow, b_addT, b_addS, b_mulT, b_mulSame, f_lenT, f_lenL, f_abs, f_max, f_min, f_int, f_intB, f_tupT, f_lstT, f_lstR, f_lenR, f_tupR, f_sum, f_all, f_any, f_anyT, f_allT, f_repr, x_tup, x_rol, x_ref, l_tup, l_ref, r_tup, m_app, m_ext, m_pop, m_cnt, p_app, p_ext, p_pop, p_cnt, s_tup, s_rol, s_ref, y_ii, y_ib, y_it, y_il, y_bi, y_bb, y_bt, y_tt, y_ti, y_tb, y_tl, y_ni, y_nt, x_set, a_add, a_sub, g_name, g_many, g_nil, g_cons, startP, wipeP, Tg.slots, List.map_cons, List.map_nil, List.length_cons, List.length_nil, List.replicate_succ, List.replicate_zero, List.cons_append, List.nil_append, List.getElem?_cons_zero, List.getElem?_cons_succ, Option.join_some, List.set_cons_zero, List.set_cons_succ, Bool.true_eq_false, reduceCtorEq, Option.map_some, Option.bind_some, Nat.reduceAdd, Nat.reduceSub, Nat.zero_add, Bool.not_true, Bool.not_false, Bool.false_eq_true, true_implies, false_implies, implies_true, and_true, true_and, not_true_eq_false, not_false_eq_true, decide_eq_true_eq, Bool.not_eq_true', Bool.not_eq_false', decide_eq_false_iff_not, iL_empty, eq_iT, gc_11, gc_0, gc_1, gc_12, gc_1202, gc_1203, getP_none, ← iL_app]
    refine ⟨sz (by rw [iL_len, iL_len, un_len]; omega), by decide, ?_⟩
    have hv : ∀ v ∈ [x, br x y, x ++ y ++ un x, x ++ un x], Wd r v ∧ v.length ≤ 400 := fun v hv => by
      simp only [List.mem_cons, List.not_mem_nil, or_false] at hv
      rcases hv with rfl | rfl | rfl | rfl
      · exact ⟨wx, by omega⟩
      · exact ⟨wt, by omega⟩
      · exact ⟨(wx.app wy).app wx.un, by simp [un_len]; omega⟩
      · exact ⟨wx.app wx.un, by simp [un_len]; omega⟩
    have g2224 : Gr [] h21 h24 := (g22.trans g23).trans g24
    have d24 := (d20.keep g21 (by simp)).keep g2224 (by simp)
    have gAll : Gr [n] h h24 := (((((((g1.trans g2).trans g3).trans g4).trans g418.any).trans g19).trans hg2).trans g20.any).trans (g21.any.trans g2224.any)
    refine for_fix (xs := wL [x, br x y, x ++ y ++ un x, x ++ un x]) (fun i ρ h' => ∃ o, ρ = [some (.ref n), some (.int (r : Nat)), some (iT (br x y)), some (wT (w :: ws)), o, some (iT x), some (iT y), some (iT z), none] ∧ Gr [] h24 h') ⟨none, rfl, .refl⟩ (fun i p ρ h' hp hI => ?_) (fun ρ h' hI => ?_) (gf (by simp [wL]))
    · obtain ⟨o, rfl, hg⟩ := hI
      obtain ⟨v, hv', rfl⟩ := wL_get hp
      obtain ⟨wv, lv⟩ := hv v (List.mem_of_getElem? hv')
      simp -implicitDefEqProofs only [w_cons, w_nil, w_set, w_asg, w_par2, w_par3, w_setix, w_aug, w_expr, w_ret, w_retN, w_ifs, w_brk, w_cnt, w_pass, w_raise, w_for, w_whl, e_v, e_gc, e_int, e_str, e_bl, e_non, e_neg, e_not, e_bin, e_cmp, e_chain, e_and1, e_and2, e_or1, e_or2, e_and, e_or, e_ite, e_T, e_call, e_callv, e_bi, e_isi, e_meth, e_ix, e_slF, e_slT, e_slB, e_slN, e_rev, e_tup, e_lst, e_lc, e_lcIf, es_nil, es_cons, i_val, i_rng1, i_rng2, i_zip, getP_some, getP_map, getP_bind, getP_ite, asI_int, asF_fn, asT_tup, wpE_ok, step_name, step_many, c_eq, c_ne, c_lt, c_le, c_gt, c_ge, c_is, c_isNot, eq_int, eq_bl, eq_str, is_bl, is_nn, is_in, is_bn, is_sn, is_tn, is_ln, is_rn, t_non, t_bl, t_int, t_tup, t_rol, b_add, b_sub, b_mul, b_mod, b_fdiv, b_pow, b_addT, b_addS, b_mulT, b_mulSame, f_lenT, f_lenL, f_abs, f_max, f_min, f_int, f_intB, f_tupT, f_lstT, f_lstR, f_lenR, f_tupR, f_sum, f_all, f_any, f_anyT, f_allT, f_repr, x_tup, x_rol, x_ref, l_tup, l_ref, r_tup, m_app, m_ext, m_pop, m_cnt, p_app, p_ext, p_pop, p_cnt, s_tup, s_rol, s_ref, y_ii, y_ib, y_it, y_il, y_bi, y_bb, y_bt, y_tt, y_ti, y_tb, y_tl, y_ni, y_nt, x_set, a_add, a_sub, g_name, g_many, g_nil, g_cons, startP, wipeP, Tg.slots, List.map_cons, List.map_nil, List.length_cons, List.length_nil, List.replicate_succ, List.replicate_zero, List.cons_append, List.nil_append, List.getElem?_cons_zero, List.getElem?_cons_succ, Option.join_some, List.set_cons_zero, List.set_cons_succ, Bool.true_eq_false, reduceCtorEq, Option.map_some, Option.bind_some, Nat.reduceAdd, Nat.reduceSub, Nat.zero_add, Bool.not_true, Bool.not_false, Bool.false_eq_true, true_implies, false_implies, implies_true, and_true, true_and, not_true_eq_false, not_false_eq_true, decide_eq_true_eq, Bool.not_eq_true', Bool.not_eq_false', decide_eq_false_iff_not, iL_empty, eq_iT, gc_11, gc_0, gc_1, gc_12, gc_1202, gc_1203, getP_none, l2728_0_0]
      refine sp_has_no_counts r v r1 r4 wv lv fun h25 g25 => ?_
      simp -implicitDefEqProofs only [w_cons, w_nil, w_set, w_asg, w_par2, w_par3, w_setix, w_aug, w_expr, w_ret, w_retN, w_ifs, w_brk, w_cnt, w_pass, w_raise, w_for, w_whl, e_v, e_gc, e_int, e_str, e_bl, e_non, e_neg, e_not, e_bin, e_cmp, e_chain, e_and1, e_and2, e_or1, e_or2, e_and, e_or, e_ite, e_T, e_call, e_callv, e_bi, e_isi, e_meth, e_ix, e_slF, e_slT, e_slB, e_slN, e_rev, e_tup, e_lst, e_lc, e_lcIf, es_nil, es_cons, i_val, i_rng1, i_rng2, i_zip, getP_some, getP_map, getP_bind, getP_ite, asI_int, asF_fn, asT_tup, wpE_ok, step_name, step_many, c_eq, c_ne, c_lt, c_le, c_gt, c_ge, c_is, c_isNot, eq_int, eq_bl, eq_str, is_bl, is_nn, is_in, is_bn, is_sn, is_tn, is_ln, is_rn, t_non, t_bl, t_int, t_tup, t_rol, b_add, b_sub, b_mul, b_mod, b_fdiv, b_pow, b_addT, b_addS, b_mulT, b_mulSame, f_lenT, f_lenL, f_abs, f_max, f_min, f_int, f_intB, f_tupT, f_lstT, f_lstR, f_lenR, f_tupR, f_sum, f_all, f_any, f_anyT, f_allT, f_repr, x_tup, x_rol, x_ref, l_tup, l_ref, r_tup, m_app, m_ext, m_pop, m_cnt, p_app, p_ext, p_pop, p_cnt, s_tup, s_rol, s_ref, y_ii, y_ib, y_it, y_il, y_bi, y_bb, y_bt, y_tt, y_ti, y_tb, y_tl, y_ni, y_nt, x_set, a_add, a_sub, g_name, g_many, g_nil, g_cons, startP, wipeP, Tg.slots, List.map_cons, List.map_nil, List.length_cons, List.length_nil, List.replicate_succ, List.replicate_zero, List.cons_append, List.nil_append, List.getElem?_cons_zero, List.getElem?_cons_succ, Option.join_some, List.set_cons_zero, List.set_cons_succ, Bool.true_eq_false, reduceCtorEq, Option.map_some, Option.bind_some, Nat.reduceAdd, Nat.reduceSub, Nat.zero_add, Bool.not_true, Bool.not_false, Bool.false_eq_true, true_implies, false_implies, implies_true, and_true, true_and, not_true_eq_false, not_false_eq_true, decide_eq_true_eq, Bool.not_eq_true', Bool.not_eq_false', decide_eq_false_iff_not, iL_empty, eq_iT, gc_11, gc_0, gc_1, gc_12, gc_1202, gc_1203, getP_none, repr_bl]
      refine sp_law_br_counts r v (by omega) (by omega) fun m h26 hm g26 => ?_
      have ml := lstAt_lt hm
      have hm2 : ∀ c, lstAt (h26 ++ [c]) m = some (iL (cts r v)) := fun c => by rw [lst_old ml]; exact hm
      simp -implicitDefEqProofs only [w_cons, w_nil, w_set, w_asg, w_par2, w_par3, w_setix, w_aug, w_expr, w_ret, w_retN, w_ifs, w_brk, w_cnt, w_pass, w_raise, w_for, w_whl, e_v, e_gc, e_int, e_str, e_bl, e_non, e_neg, e_not, e_bin, e_cmp, e_chain, e_and1, e_and2, e_or1, e_or2, e_and, e_or, e_ite, e_T, e_call, e_callv, e_bi, e_isi, e_meth, e_ix, e_slF, e_slT, e_slB, e_slN, e_rev, e_tup, e_lst, e_lc, e_lcIf, es_nil, es_cons, i_val, i_rng1, i_rng2, i_zip, getP_some, getP_map, getP_bind, getP_ite, asI_int, asF_fn, asT_tup, wpE_ok, step_name, step_many, c_eq, c_ne, c_lt, c_le, c_gt, c_ge, c_is, c_isNot, eq_int, eq_bl, eq_str, is_bl, is_nn, is_in, is_bn, is_sn, is_tn, is_ln, is_rn, t_non, t_bl, t_int, t_tup, t_rol, b_add, b_sub, b_mul, b_mod, b_fdiv, b_pow, b_addT, b_addS, b_mulT, b_mulSame, f_lenT, f_lenL, f_abs, f_max, f_min, f_int, f_intB, f_tupT, f_lstT, f_lstR, f_lenR, f_tupR, f_sum, f_all, f_any, f_anyT, f_allT, f_repr, x_tup, x_rol, x_ref, l_tup, l_ref, r_tup, m_app, m_ext, m_pop, m_cnt, p_app, p_ext, p_pop, p_cnt, s_tup, s_rol, s_ref, y_ii, y_ib, y_it, y_il, y_bi, y_bb, y_bt, y_tt, y_ti, y_tb, y_tl, y_ni, y_nt, x_set, a_add, a_sub, g_name, g_many, g_nil, g_cons, startP, wipeP, Tg.slots, List.map_cons, List.map_nil, List.length_cons, List.length_nil, List.replicate_succ, List.replicate_zero, List.cons_append, List.nil_append, List.getElem?_cons_zero, List.getElem?_cons_succ, Option.join_some, List.set_cons_zero, List.set_cons_succ, Bool.true_eq_false, reduceCtorEq, Option.map_some, Option.bind_some, Nat.reduceAdd, Nat.reduceSub, Nat.zero_add, Bool.not_true, Bool.not_false, Bool.false_eq_true, true_implies, false_implies, implies_true, and_true, true_and, not_true_eq_false, not_false_eq_true, decide_eq_true_eq, Bool.not_eq_true', Bool.not_eq_false', decide_eq_false_iff_not, iL_empty, eq_iT, gc_11, gc_0, gc_1, gc_12, gc_1202, gc_1203, getP_none, binO, lst_new]
      refine ⟨by decide, ⟨by omega, by omega, by simp; exact sz (by omega)⟩, ?_⟩
      have rz : ((r : Int)).toNat = r := Int.toNat_natCast r
      rw [rz, zeros]
      have hm3 : ∀ c c', lstAt (h26 ++ [c] ++ [c']) m = some (iL (cts r v)) := fun c c' => by rw [lst_old (by simp; omega)]; exact hm2 c
      simp -implicitDefEqProofs only [w_cons, w_nil, w_set, w_asg, w_par2, w_par3, w_setix, w_aug, w_expr, w_ret, w_retN, w_ifs, w_brk, w_cnt, w_pass, w_raise, w_for, w_whl, e_v, e_gc, e_int, e_str, e_bl, e_non, e_neg, e_not, e_bin, e_cmp, e_chain, e_and1, e_and2, e_or1, e_or2, e_and, e_or, e_ite, e_T, e_call, e_callv, e_bi, e_isi, e_meth, e_ix, e_slF, e_slT, e_slB, e_slN, e_rev, e_tup, e_lst, e_lc, e_lcIf, es_nil, es_cons, i_val, i_rng1, i_rng2, i_zip, getP_some, getP_map, getP_bind, getP_ite, asI_int, asF_fn, asT_tup, wpE_ok, step_name, step_many, c_eq, c_ne, c_lt, c_le, c_gt, c_ge, c_is, c_isNot, eq_int, eq_bl, eq_str, is_bl, is_nn, is_in, is_bn, is_sn, is_tn, is_ln, is_rn, t_non, t_bl, t_int, t_tup, t_rol, b_add, b_sub, b_mul, b_mod, b_fdiv, b_pow, b_addT, b_addS, b_mulT, b_mulSame, f_lenT, f_lenL, f_abs, f_max, f_min, f_int, f_intB, f_tupT, f_lstT, f_lstR, f_lenR, f_tupR, f_sum, f_all, f_any, f_anyT, f_allT, f_repr, x_tup, x_rol, x_ref, l_tup, l_ref, r_tup, m_app, m_ext, m_pop, m_cnt, p_app, p_ext, p_pop, p_cnt, s_tup, s_rol, s_ref, y_ii, y_ib, y_it, y_il, y_bi, y_bb, y_bt, y_tt, y_ti, y_tb, y_tl, y_ni, y_nt, x_set, a_add, a_sub, g_name, g_many, g_nil, g_cons, startP, wipeP, Tg.slots, List.map_cons, List.map_nil, List.length_cons, List.length_nil, List.replicate_succ, List.replicate_zero, List.cons_append, List.nil_append, List.getElem?_cons_zero, List.getElem?_cons_succ, Option.join_some, List.set_cons_zero, List.set_cons_succ, Bool.true_eq_false, reduceCtorEq, Option.map_some, Option.bind_some, Nat.reduceAdd, Nat.reduceSub, Nat.zero_add, Bool.not_true, Bool.not_false, Bool.false_eq_true, true_implies, false_implies, implies_true, and_true, true_and, not_true_eq_false, not_false_eq_true, decide_eq_true_eq, Bool.not_eq_true', Bool.not_eq_false', decide_eq_false_iff_not, iL_empty, eq_iT, gc_11, gc_0, gc_1, gc_12, gc_1202, gc_1203, getP_none, eq_lsts (hm3 _ _) lst_new, noC_eq, repr_bl]
      exact ⟨_, rfl, ((hg.trans g25).trans g26).new.new⟩
    · obtain ⟨o, rfl, hg⟩ := hI
      have lxz := br_len x z
      have lcb := cj_len (br x z) y
      simp -implicitDefEqProofs only [w_cons, w_nil, w_set, w_asg, w_par2, w_par3, w_setix, w_aug, w_expr, w_ret, w_retN, w_ifs, w_brk, w_cnt, w_pass, w_raise, w_for, w_whl, e_v, e_gc, e_int, e_str, e_bl, e_non, e_neg, e_not, e_bin, e_cmp, e_chain, e_and1, e_and2, e_or1, e_or2, e_and, e_or, e_ite, e_T, e_call, e_callv, e_bi, e_isi, e_meth, e_ix, e_slF, e_slT, e_slB, e_slN, e_rev, e_tup, e_lst, e_lc, e_lcIf, es_nil, es_cons, i_val, i_rng1, i_rng2, i_zip, getP_some, getP_map, getP_bind, getP_ite, asI_int, asF_fn, asT_tup, wpE_ok, step_name, step_many, c_eq, c_ne, c_lt, c_le, c_gt, c_ge, c_is, c_isNot, eq_int, eq_bl, eq_str, is_bl, is_nn, is_in, is_bn, is_sn, is_tn, is_ln, is_rn, t_non, t_bl, t_int, t_tup, t_rol, b_add, b_sub, b_mul, b_mod, b_fdiv, b_pow, b_addT, b_addS, b_mulT, b_mulSame, f_lenT, f_lenL, f_abs, f_max, f_min, f_int, f_intB, f_tupT, f_lstT, f_lstR, f_lenR, f_tupR, f_sum, f_all, f_any, f_anyT, f_allT, f_repr, x_tup, x_rol, x_ref, l_tup, l_ref, r_tup, m_app, m_ext, m_pop, m_cnt, p_app, p_ext, p_pop, p_cnt, s_tup, s_rol, s_ref, y_ii, y_ib, y_it, y_il, y_bi, y_bb, y_bt, y_tt, y_ti, y_tb, y_tl, y_ni, y_nt, x_set, a_add, a_sub, g_name, g_many, g_nil, g_cons, startP, wipeP, Tg.slots, List.map_cons, List.map_nil, List.length_cons, List.length_nil, List.replicate_succ, List.replicate_zero, List.cons_append, List.nil_append, List.getElem?_cons_zero, List.getElem?_cons_succ, Option.join_some, List.set_cons_zero, List.set_cons_succ, Bool.true_eq_false, reduceCtorEq, Option.map_some, Option.bind_some, Nat.reduceAdd, Nat.reduceSub, Nat.zero_add, Bool.not_true, Bool.not_false, Bool.false_eq_true, true_implies, false_implies, implies_true, and_true, true_and, not_true_eq_false, not_false_eq_true, decide_eq_true_eq, Bool.not_eq_true', Bool.not_eq_false', decide_eq_false_iff_not, iL_empty, eq_iT, gc_11, gc_0, gc_1, gc_12, gc_1202, gc_1203, getP_none, b2728_10, ← iL_app]
      refine ⟨sz (by rw [iL_len, iL_len]; omega), ?_⟩
      refine sp_bracket (r : Int) x (y ++ z) ri1 ri4 wx (by omega) (wy.app wz) (by simp; omega) fun h27 g27 => ?_
      (try simp -implicitDefEqProofs only [w_cons, w_nil, w_set, w_asg, w_par2, w_par3, w_setix, w_aug, w_expr, w_ret, w_retN, w_ifs, w_brk, w_cnt, w_pass, w_raise, w_for, w_whl, e_v, e_gc, e_int, e_str, e_bl, e_non, e_neg, e_not, e_bin, e_cmp, e_chain, e_and1, e_and2, e_or1, e_or2, e_and, e_or, e_ite, e_T, e_call, e_callv, e_bi, e_isi, e_meth, e_ix, e_slF, e_slT, e_slB, e_slN, e_rev, e_tup, e_lst, e_lc, e_lcIf, es_nil, es_cons, i_val, i_rng1, i_rng2, i_zip, getP_some, getP_map, getP_bind, getP_ite, asI_int, asF_fn, asT_tup, wpE_ok, step_name, step_many, c_eq, c_ne, c_lt, c_le, c_gt, c_ge, c_is, c_isNot, eq_int, eq_bl, eq_str, is_bl, is_nn, is_in, is_bn, is_sn, is_tn, is_ln, is_rn, t_non, t_bl, t_int, t_tup, t_rol, b_add, b_sub, b_mul, b_mod, b_fdiv, b_pow, b_addT, b_addS, b_mulT, b_mulSame, f_lenT, f_lenL, f_abs, f_max, f_min, f_int, f_intB, f_tupT, f_lstT, f_lstR, f_lenR, f_tupR, f_sum, f_all, f_any, f_anyT, f_allT, f_repr, x_tup, x_rol, x_ref, l_tup, l_ref, r_tup, m_app, m_ext, m_pop, m_cnt, p_app, p_ext, p_pop, p_cnt, s_tup, s_rol, s_ref, y_ii, y_ib, y_it, y_il, y_bi, y_bb, y_bt, y_tt, y_ti, y_tb, y_tl, y_ni, y_nt, x_set, a_add, a_sub, g_name, g_many, g_nil, g_cons, startP, wipeP, Tg.slots, List.map_cons, List.map_nil, List.length_cons, List.length_nil, List.replicate_succ, List.replicate_zero, List.cons_append, List.nil_append, List.getElem?_cons_zero, List.getElem?_cons_succ, Option.join_some, List.set_cons_zero, List.set_cons_succ, Bool.true_eq_false, reduceCtorEq, Option.map_some, Option.bind_some, Nat.reduceAdd, Nat.reduceSub, Nat.zero_add, Bool.not_true, Bool.not_false, Bool.false_eq_true, true_implies, false_implies, implies_true, and_true, true_and, not_true_eq_false, not_false_eq_true, decide_eq_true_eq, Bool.not_eq_true', Bool.not_eq_false', decide_eq_false_iff_not, iL_empty, eq_iT, gc_11, gc_0, gc_1, gc_12, gc_1202, gc_1203, getP_none])
      refine sp_bracket (r : Int) x z ri1 ri4 wx (by omega) wz (by omega) fun h28 g28 => ?_
      (try simp -implicitDefEqProofs only [w_cons, w_nil, w_set, w_asg, w_par2, w_par3, w_setix, w_aug, w_expr, w_ret, w_retN, w_ifs, w_brk, w_cnt, w_pass, w_raise, w_for, w_whl, e_v, e_gc, e_int, e_str, e_bl, e_non, e_neg, e_not, e_bin, e_cmp, e_chain, e_and1, e_and2, e_or1, e_or2, e_and, e_or, e_ite, e_T, e_call, e_callv, e_bi, e_isi, e_meth, e_ix, e_slF, e_slT, e_slB, e_slN, e_rev, e_tup, e_lst, e_lc, e_lcIf, es_nil, es_cons, i_val, i_rng1, i_rng2, i_zip, getP_some, getP_map, getP_bind, getP_ite, asI_int, asF_fn, asT_tup, wpE_ok, step_name, step_many, c_eq, c_ne, c_lt, c_le, c_gt, c_ge, c_is, c_isNot, eq_int, eq_bl, eq_str, is_bl, is_nn, is_in, is_bn, is_sn, is_tn, is_ln, is_rn, t_non, t_bl, t_int, t_tup, t_rol, b_add, b_sub, b_mul, b_mod, b_fdiv, b_pow, b_addT, b_addS, b_mulT, b_mulSame, f_lenT, f_lenL, f_abs, f_max, f_min, f_int, f_intB, f_tupT, f_lstT, f_lstR, f_lenR, f_tupR, f_sum, f_all, f_any, f_anyT, f_allT, f_repr, x_tup, x_rol, x_ref, l_tup, l_ref, r_tup, m_app, m_ext, m_pop, m_cnt, p_app, p_ext, p_pop, p_cnt, s_tup, s_rol, s_ref, y_ii, y_ib, y_it, y_il, y_bi, y_bb, y_bt, y_tt, y_ti, y_tb, y_tl, y_ni, y_nt, x_set, a_add, a_sub, g_name, g_many, g_nil, g_cons, startP, wipeP, Tg.slots, List.map_cons, List.map_nil, List.length_cons, List.length_nil, List.replicate_succ, List.replicate_zero, List.cons_append, List.nil_append, List.getElem?_cons_zero, List.getElem?_cons_succ, Option.join_some, List.set_cons_zero, List.set_cons_succ, Bool.true_eq_false, reduceCtorEq, Option.map_some, Option.bind_some, Nat.reduceAdd, Nat.reduceSub, Nat.zero_add, Bool.not_true, Bool.not_false, Bool.false_eq_true, true_implies, false_implies, implies_true, and_true, true_and, not_true_eq_false, not_false_eq_true, decide_eq_true_eq, Bool.not_eq_true', Bool.not_eq_false', decide_eq_false_iff_not, iL_empty, eq_iT, gc_11, gc_0, gc_1, gc_12, gc_1202, gc_1203, getP_none])
      refine sp_conjugate (r : Int) (br x z) y ri1 ri4 (wx.br wz) (by omega) wy (by omega) fun h29 g29 => ?_
      (try simp -implicitDefEqProofs only [w_cons, w_nil, w_set, w_asg, w_par2, w_par3, w_setix, w_aug, w_expr, w_ret, w_retN, w_ifs, w_brk, w_cnt, w_pass, w_raise, w_for, w_whl, e_v, e_gc, e_int, e_str, e_bl, e_non, e_neg, e_not, e_bin, e_cmp, e_chain, e_and1, e_and2, e_or1, e_or2, e_and, e_or, e_ite, e_T, e_call, e_callv, e_bi, e_isi, e_meth, e_ix, e_slF, e_slT, e_slB, e_slN, e_rev, e_tup, e_lst, e_lc, e_lcIf, es_nil, es_cons, i_val, i_rng1, i_rng2, i_zip, getP_some, getP_map, getP_bind, getP_ite, asI_int, asF_fn, asT_tup, wpE_ok, step_name, step_many, c_eq, c_ne, c_lt, c_le, c_gt, c_ge, c_is, c_isNot, eq_int, eq_bl, eq_str, is_bl, is_nn, is_in, is_bn, is_sn, is_tn, is_ln, is_rn, t_non, t_bl, t_int, t_tup, t_rol, b_add, b_sub, b_mul, b_mod, b_fdiv, b_pow, b_addT, b_addS, b_mulT, b_mulSame, f_lenT, f_lenL, f_abs, f_max, f_min, f_int, f_intB, f_tupT, f_lstT, f_lstR, f_lenR, f_tupR, f_sum, f_all, f_any, f_anyT, f_allT, f_repr, x_tup, x_rol, x_ref, l_tup, l_ref, r_tup, m_app, m_ext, m_pop, m_cnt, p_app, p_ext, p_pop, p_cnt, s_tup, s_rol, s_ref, y_ii, y_ib, y_it, y_il, y_bi, y_bb, y_bt, y_tt, y_ti, y_tb, y_tl, y_ni, y_nt, x_set, a_add, a_sub, g_name, g_many, g_nil, g_cons, startP, wipeP, Tg.slots, List.map_cons, List.map_nil, List.length_cons, List.length_nil, List.replicate_succ, List.replicate_zero, List.cons_append, List.nil_append, List.getElem?_cons_zero, List.getElem?_cons_succ, Option.join_some, List.set_cons_zero, List.set_cons_succ, Bool.true_eq_false, reduceCtorEq, Option.map_some, Option.bind_some, Nat.reduceAdd, Nat.reduceSub, Nat.zero_add, Bool.not_true, Bool.not_false, Bool.false_eq_true, true_implies, false_implies, implies_true, and_true, true_and, not_true_eq_false, not_false_eq_true, decide_eq_true_eq, Bool.not_eq_true', Bool.not_eq_false', decide_eq_false_iff_not, iL_empty, eq_iT, gc_11, gc_0, gc_1, gc_12, gc_1202, gc_1203, getP_none])
      refine ⟨by decide, ?_⟩
      refine sp_law_productR h29.length [br x y, cj (br x z) y] lst_new (by simp; omega) (by simp) fun h30 g30 => ?_
      have f9 : sh [br x y, cj (br x z) y].flatten = br x (y ++ z) := by rw [br_app]; simp
      rw [f9]
      simp -implicitDefEqProofs only [w_cons, w_nil, w_set, w_asg, w_par2, w_par3, w_setix, w_aug, w_expr, w_ret, w_retN, w_ifs, w_brk, w_cnt, w_pass, w_raise, w_for, w_whl, e_v, e_gc, e_int, e_str, e_bl, e_non, e_neg, e_not, e_bin, e_cmp, e_chain, e_and1, e_and2, e_or1, e_or2, e_and, e_or, e_ite, e_T, e_call, e_callv, e_bi, e_isi, e_meth, e_ix, e_slF, e_slT, e_slB, e_slN, e_rev, e_tup, e_lst, e_lc, e_lcIf, es_nil, es_cons, i_val, i_rng1, i_rng2, i_zip, getP_some, getP_map, getP_bind, getP_ite, asI_int, asF_fn, asT_tup, wpE_ok, step_name, step_many, c_eq, c_ne, c_lt, c_le, c_gt, c_ge, c_is, c_isNot, eq_int, eq_bl, eq_str, is_bl, is_nn, is_in, is_bn, is_sn, is_tn, is_ln, is_rn, t_non, t_bl, t_int, t_tup, t_rol, b_add, b_sub, b_mul, b_mod, b_fdiv, b_pow, b_addT, b_addS, b_mulT, b_mulSame, f_lenT, f_lenL, f_abs, f_max, f_min, f_int, f_intB, f_tupT, f_lstT, f_lstR, f_lenR, f_tupR, f_sum, f_all, f_any, f_anyT, f_allT, f_repr, x_tup, x_rol, x_ref, l_tup, l_ref, r_tup, m_app, m_ext, m_pop, m_cnt, p_app, p_ext, p_pop, p_cnt, s_tup, s_rol, s_ref, y_ii, y_ib, y_it, y_il, y_bi, y_bb, y_bt, y_tt, y_ti, y_tb, y_tl, y_ni, y_nt, x_set, a_add, a_sub, g_name, g_many, g_nil, g_cons, startP, wipeP, Tg.slots, List.map_cons, List.map_nil, List.length_cons, List.length_nil, List.replicate_succ, List.replicate_zero, List.cons_append, List.nil_append, List.getElem?_cons_zero, List.getElem?_cons_succ, Option.join_some, List.set_cons_zero, List.set_cons_succ, Bool.true_eq_false, reduceCtorEq, Option.map_some, Option.bind_some, Nat.reduceAdd, Nat.reduceSub, Nat.zero_add, Bool.not_true, Bool.not_false, Bool.false_eq_true, true_implies, false_implies, implies_true, and_true, true_and, not_true_eq_false, not_false_eq_true, decide_eq_true_eq, Bool.not_eq_true', Bool.not_eq_false', decide_eq_false_iff_not, iL_empty, eq_iT, gc_11, gc_0, gc_1, gc_12, gc_1202, gc_1203, getP_none, b2728_11]
      refine ⟨by decide, ?_⟩
      refine sp_round_rule (r : Int) x y z ri1 ri4 wx wy wz (by omega) (by omega) (by omega) fun h31 g31 => ?_
      simp -implicitDefEqProofs only [w_cons, w_nil, w_set, w_asg, w_par2, w_par3, w_setix, w_aug, w_expr, w_ret, w_retN, w_ifs, w_brk, w_cnt, w_pass, w_raise, w_for, w_whl, e_v, e_gc, e_int, e_str, e_bl, e_non, e_neg, e_not, e_bin, e_cmp, e_chain, e_and1, e_and2, e_or1, e_or2, e_and, e_or, e_ite, e_T, e_call, e_callv, e_bi, e_isi, e_meth, e_ix, e_slF, e_slT, e_slB, e_slN, e_rev, e_tup, e_lst, e_lc, e_lcIf, es_nil, es_cons, i_val, i_rng1, i_rng2, i_zip, getP_some, getP_map, getP_bind, getP_ite, asI_int, asF_fn, asT_tup, wpE_ok, step_name, step_many, c_eq, c_ne, c_lt, c_le, c_gt, c_ge, c_is, c_isNot, eq_int, eq_bl, eq_str, is_bl, is_nn, is_in, is_bn, is_sn, is_tn, is_ln, is_rn, t_non, t_bl, t_int, t_tup, t_rol, b_add, b_sub, b_mul, b_mod, b_fdiv, b_pow, b_addT, b_addS, b_mulT, b_mulSame, f_lenT, f_lenL, f_abs, f_max, f_min, f_int, f_intB, f_tupT, f_lstT, f_lstR, f_lenR, f_tupR, f_sum, f_all, f_any, f_anyT, f_allT, f_repr, x_tup, x_rol, x_ref, l_tup, l_ref, r_tup, m_app, m_ext, m_pop, m_cnt, p_app, p_ext, p_pop, p_cnt, s_tup, s_rol, s_ref, y_ii, y_ib, y_it, y_il, y_bi, y_bb, y_bt, y_tt, y_ti, y_tb, y_tl, y_ni, y_nt, x_set, a_add, a_sub, g_name, g_many, g_nil, g_cons, startP, wipeP, Tg.slots, List.map_cons, List.map_nil, List.length_cons, List.length_nil, List.replicate_succ, List.replicate_zero, List.cons_append, List.nil_append, List.getElem?_cons_zero, List.getElem?_cons_succ, Option.join_some, List.set_cons_zero, List.set_cons_succ, Bool.true_eq_false, reduceCtorEq, Option.map_some, Option.bind_some, Nat.reduceAdd, Nat.reduceSub, Nat.zero_add, Bool.not_true, Bool.not_false, Bool.false_eq_true, true_implies, false_implies, implies_true, and_true, true_and, not_true_eq_false, not_false_eq_true, decide_eq_true_eq, Bool.not_eq_true', Bool.not_eq_false', decide_eq_false_iff_not, iL_empty, eq_iT, gc_11, gc_0, gc_1, gc_12, gc_1202, gc_1203, getP_none, eq_tnil]
      refine ⟨by decide, ?_⟩
      refine sp_has_no_counts r (br x y) r1 r4 wt (by omega) fun h32 g32 => ?_
      rw [noC_br]
      (try simp -implicitDefEqProofs only [w_cons, w_nil, w_set, w_asg, w_par2, w_par3, w_setix, w_aug, w_expr, w_ret, w_retN, w_ifs, w_brk, w_cnt, w_pass, w_raise, w_for, w_whl, e_v, e_gc, e_int, e_str, e_bl, e_non, e_neg, e_not, e_bin, e_cmp, e_chain, e_and1, e_and2, e_or1, e_or2, e_and, e_or, e_ite, e_T, e_call, e_callv, e_bi, e_isi, e_meth, e_ix, e_slF, e_slT, e_slB, e_slN, e_rev, e_tup, e_lst, e_lc, e_lcIf, es_nil, es_cons, i_val, i_rng1, i_rng2, i_zip, getP_some, getP_map, getP_bind, getP_ite, asI_int, asF_fn, asT_tup, wpE_ok, step_name, step_many, c_eq, c_ne, c_lt, c_le, c_gt, c_ge, c_is, c_isNot, eq_int, eq_bl, eq_str, is_bl, is_nn, is_in, is_bn, is_sn, is_tn, is_ln, is_rn, t_non, t_bl, t_int, t_tup, t_rol, b_add, b_sub, b_mul, b_mod, b_fdiv, b_pow, b_addT, b_addS, b_mulT, b_mulSame, f_lenT, f_lenL, f_abs, f_max, f_min, f_int, f_intB, f_tupT, f_lstT, f_lstR, f_lenR, f_tupR, f_sum, f_all, f_any, f_anyT, f_allT, f_repr, x_tup, x_rol, x_ref, l_tup, l_ref, r_tup, m_app, m_ext, m_pop, m_cnt, p_app, p_ext, p_pop, p_cnt, s_tup, s_rol, s_ref, y_ii, y_ib, y_it, y_il, y_bi, y_bb, y_bt, y_tt, y_ti, y_tb, y_tl, y_ni, y_nt, x_set, a_add, a_sub, g_name, g_many, g_nil, g_cons, startP, wipeP, Tg.slots, List.map_cons, List.map_nil, List.length_cons, List.length_nil, List.replicate_succ, List.replicate_zero, List.cons_append, List.nil_append, List.getElem?_cons_zero, List.getElem?_cons_succ, Option.join_some, List.set_cons_zero, List.set_cons_succ, Bool.true_eq_false, reduceCtorEq, Option.map_some, Option.bind_some, Nat.reduceAdd, Nat.reduceSub, Nat.zero_add, Bool.not_true, Bool.not_false, Bool.false_eq_true, true_implies, false_implies, implies_true, and_true, true_and, not_true_eq_false, not_false_eq_true, decide_eq_true_eq, Bool.not_eq_true', Bool.not_eq_false', decide_eq_false_iff_not, iL_empty, eq_iT, gc_11, gc_0, gc_1, gc_12, gc_1202, gc_1203, getP_none])
      have gE : Gr [] h24 h32 := (((((hg.trans g27).trans g28).trans g29).new.trans g30).trans g31).trans g32
      exact hP _ (gAll.trans gE.any) ((d24.keep gE (by simp)).less (by omega))
end
end Pi

-- w_cons, w_nil, w_set, w_asg, w_par2, w_par3, w_setix, w_aug, w_expr, w_ret, w_retN, w_ifs, w_brk, w_cnt, w_pass, w_raise, w_for, w_whl, e_v, e_gc, e_int, e_str, e_bl, e_non, e_neg, e_not, e_bin, e_cmp, e_chain, e_and1, e_and2, e_or1, e_or2, e_and, e_or, e_ite, e_T, e_call, e_callv, e_bi, e_isi, e_meth, e_ix, e_slF, e_slT, e_slB, e_slN, e_rev, e_tup, e_lst, e_lc, e_lcIf, es_nil, es_cons, i_val, i_rng1, i_rng2, i_zip, getP_some, getP_map, getP_bind, getP_ite, asI_int, asF_fn, asT_tup, wpE_ok, step_name, step_many, c_eq, c_ne, c_lt, c_le, c_gt, c_ge, c_is, c_isNot, eq_int, eq_bl, eq_str, is_bl, is_nn, is_in, is_bn, is_sn, is_tn, is_ln, is_rn, t_non, t_bl, t_int, t_tup, t_rol, b_add, b_sub, b_mul, b_mod, b_fdiv, b_pow, b_addT, b_addS, b_mulT, b_mulSame, f_lenT, f_lenL, f_abs, f_max, f_min, f_int, f_intB, f_tupT, f_lstT, f_lstR, f_lenR, f_tupR, f_sum, f_all, f_any, f_anyT, f_allT, f_repr, x_tup, x_rol, x_ref, l_tup, l_ref, r_tup, m_app, m_ext, m_pop, m_cnt, p_app, p_ext, p_pop, p_cnt, s_tup, s_rol, s_ref, y_ii, y_ib, y_it, y_il, y_bi, y_bb, y_bt, y_tt, y_ti, y_tb, y_tl, y_ni, y_nt, x_set, a_add, a_sub, g_name, g_many, g_nil, g_cons, startP, wipeP, Tg.slots, List.map_cons, List.map_nil, List.length_cons, List.length_nil, List.replicate_succ, List.replicate_zero, List.cons_append, List.nil_append, List.getElem?_cons_zero, List.getElem?_cons_succ, Option.join_some, List.set_cons_zero, List.set_cons_succ, Bool.true_eq_false, reduceCtorEq, Option.map_some, Option.bind_some, Nat.reduceAdd, Nat.reduceSub, Nat.zero_add, Bool.not_true, Bool.not_false, Bool.false_eq_true, true_implies, false_implies, implies_true, and_true, true_and, not_true_eq_false, not_false_eq_true, decide_eq_true_eq, Bool.not_eq_true', Bool.not_eq_false', decide_eq_false_iff_not, iL_empty, eq_iT, gc_11, gc_0, gc_1, gc_12, gc_1202, gc_1203, getP_none+: gc_11 gc_0 gc_1 gc_12 gc_1202 gc_1203
set_option Elab.async false
set_option linter.all false
set_option maxRecDepth 100000
set_option maxHeartbeats 8000000
set_option exponentiation.threshold 400
/-! the law k53, run. -/
namespace Pi
open PySem Wm
theorem shaped_wL (ws : List (List Int)) : SeqAt.shaped (.list (dW ws)) = true := by
  have := depth_dW ws
  refine Bool.and_eq_true_iff.mpr ⟨canLay_dW ws, decide_eq_true ?_⟩
  show PyData.depthAll (dW ws) + 1 ≤ 64
  omega
theorem eq_lstW {h : IH} {n m : Nat} {v w : List (List Int)} (e1 : lstAt h n = some (wL v)) (e2 : lstAt h m = some (wL w)) : eqO h (.ref n) (.ref m) = some (decide (v = w)) := by
  simp only [eqO, eqD, dMost, toD, e1, e2, Option.bind_some, wL_data, Option.map_some, shaped_wL, and_self, if_true, PyData.eqv, eqv_dW]
theorem law_run (ns : List Int) (hl : ns.length ≤ 63) : wpE (run GT GC GF 10 2729 [.rol (iL ns)] []) (fun v _ => v = .bl true) := by
  rw [run_in (F := F2729) rfl rfl]
  simp -implicitDefEqProofs only [F2729, b2729_0, w_cons, w_nil, w_set, w_asg, w_par2, w_par3, w_setix, w_aug, w_expr, w_ret, w_retN, w_ifs, w_brk, w_cnt, w_pass, w_raise, w_for, w_whl, e_v, e_gc, e_int, e_str, e_bl, e_non, e_neg, e_not, e_bin, e_cmp, e_chain, e_and1, e_and2, e_or1, e_or2, e_and, e_or, e_ite, e_T, e_call, e_callv, e_bi, e_isi, e_meth, e_ix, e_slF, e_slT, e_slB, e_slN, e_rev, e_tup, e_lst, e_lc, e_lcIf, es_nil, es_cons, i_val, i_rng1, i_rng2, i_zip, getP_some, getP_map, getP_bind, getP_ite, asI_int, asF_fn, asT_tup, wpE_ok, step_name, step_many, c_eq, c_ne, c_lt, c_le, c_gt, c_ge, c_is, c_isNot, eq_int, eq_bl, eq_str, is_bl, is_nn, is_in, is_bn, is_sn, is_tn, is_ln, is_rn, t_non, t_bl, t_int, t_tup, t_rol, b_add, b_sub, b_mul, b_mod, b_fdiv, b_pow, b_addT, b_addS, b_mulT, b_mulSame, f_lenT, f_lenL, f_abs, f_max, f_min, f_int, f_intB, f_tupT, f_lstT, f_lstR, f_lenR, f_tupR, f_sum, f_all, f_any, f_anyT, f_allT, f_repr, x_tup, x_rol, x_ref, l_tup, l_ref, r_tup, m_app, m_ext, m_pop, m_cnt, p_app, p_ext, p_pop, p_cnt, s_tup, s_rol, s_ref, y_ii, y_ib, y_it, y_il, y_bi, y_bb, y_bt, y_tt, y_ti, y_tb, y_tl, y_ni, y_nt, x_set, a_add, a_sub, g_name, g_many, g_nil, g_cons, startP, wipeP, Tg.slots, List.map_cons, List.map_nil, List.length_cons, List.length_nil, List.replicate_succ, List.replicate_zero, List.cons_append, List.nil_append, List.getElem?_cons_zero, List.getElem?_cons_succ, Option.join_some, List.set_cons_zero, List.set_cons_succ, Bool.true_eq_false, reduceCtorEq, Option.map_some, Option.bind_some, Nat.reduceAdd, Nat.reduceSub, Nat.zero_add, Bool.not_true, Bool.not_false, Bool.false_eq_true, true_implies, false_implies, implies_true, and_true, true_and, not_true_eq_false, not_false_eq_true, decide_eq_true_eq, Bool.not_eq_true', Bool.not_eq_false', decide_eq_false_iff_not, iL_empty, eq_iT, gc_11, gc_0, gc_1, gc_12, gc_1202, gc_1203, getP_none, f_lenL, iL_len]
  obtain ⟨t, ht, ht4⟩ : ∃ t : Nat, (if (if (ns.length : Int) < 4 then (ns.length : Int) else 4) > 1 then (if (ns.length : Int) < 4 then (ns.length : Int) else 4) else 1) = (t : Int) ∧ t ≤ 4 := by
    refine ⟨(if (if (ns.length : Int) < 4 then (ns.length : Int) else 4) > 1 then (if (ns.length : Int) < 4 then (ns.length : Int) else 4) else 1).toNat, ?_, ?_⟩ <;> (split <;> split <;> omega)
  rw [ht]
  refine ⟨inr_small (by omega) (by omega), ?_⟩
  rw [Int.toNat_natCast]
  refine for_fix (fun i ρ h' => ∃ o1 o2 o3 o4, ρ = [some (.rol (iL ns)), o1, o2, o3, o4]) ⟨_, _, _, _, rfl⟩ (fun i x ρ h' hx hI => ?_) (fun ρ h' hI => ?_) (gf (by rw [rngL_len]; omega))
  · obtain ⟨o1, o2, o3, o4, rfl⟩ := hI
    obtain ⟨lt, rfl⟩ := rngL_get hx
    have e : (0 : Int) + (i : Int) = ((i : Nat) : Int) := by omega
    simp -implicitDefEqProofs only [w_cons, w_nil, w_set, w_asg, w_par2, w_par3, w_setix, w_aug, w_expr, w_ret, w_retN, w_ifs, w_brk, w_cnt, w_pass, w_raise, w_for, w_whl, e_v, e_gc, e_int, e_str, e_bl, e_non, e_neg, e_not, e_bin, e_cmp, e_chain, e_and1, e_and2, e_or1, e_or2, e_and, e_or, e_ite, e_T, e_call, e_callv, e_bi, e_isi, e_meth, e_ix, e_slF, e_slT, e_slB, e_slN, e_rev, e_tup, e_lst, e_lc, e_lcIf, es_nil, es_cons, i_val, i_rng1, i_rng2, i_zip, getP_some, getP_map, getP_bind, getP_ite, asI_int, asF_fn, asT_tup, wpE_ok, step_name, step_many, c_eq, c_ne, c_lt, c_le, c_gt, c_ge, c_is, c_isNot, eq_int, eq_bl, eq_str, is_bl, is_nn, is_in, is_bn, is_sn, is_tn, is_ln, is_rn, t_non, t_bl, t_int, t_tup, t_rol, b_add, b_sub, b_mul, b_mod, b_fdiv, b_pow, b_addT, b_addS, b_mulT, b_mulSame, f_lenT, f_lenL, f_abs, f_max, f_min, f_int, f_intB, f_tupT, f_lstT, f_lstR, f_lenR, f_tupR, f_sum, f_all, f_any, f_anyT, f_allT, f_repr, x_tup, x_rol, x_ref, l_tup, l_ref, r_tup, m_app, m_ext, m_pop, m_cnt, p_app, p_ext, p_pop, p_cnt, s_tup, s_rol, s_ref, y_ii, y_ib, y_it, y_il, y_bi, y_bb, y_bt, y_tt, y_ti, y_tb, y_tl, y_ni, y_nt, x_set, a_add, a_sub, g_name, g_many, g_nil, g_cons, startP, wipeP, Tg.slots, List.map_cons, List.map_nil, List.length_cons, List.length_nil, List.replicate_succ, List.replicate_zero, List.cons_append, List.nil_append, List.getElem?_cons_zero, List.getElem?_cons_succ, Option.join_some, List.set_cons_zero, List.set_cons_succ, Bool.true_eq_false, reduceCtorEq, Option.map_some, Option.bind_some, Nat.reduceAdd, Nat.reduceSub, Nat.zero_add, Bool.not_true, Bool.not_false, Bool.false_eq_true, true_implies, false_implies, implies_true, and_true, true_and, not_true_eq_false, not_false_eq_true, decide_eq_true_eq, Bool.not_eq_true', Bool.not_eq_false', decide_eq_false_iff_not, iL_empty, eq_iT, gc_11, gc_0, gc_1, gc_12, gc_1202, gc_1203, getP_none, l2729_0_0, e]
    refine sp_law_dice ns i (by omega) fun n h1 d1 _ _ => ?_
    simp -implicitDefEqProofs only [w_cons, w_nil, w_set, w_asg, w_par2, w_par3, w_setix, w_aug, w_expr, w_ret, w_retN, w_ifs, w_brk, w_cnt, w_pass, w_raise, w_for, w_whl, e_v, e_gc, e_int, e_str, e_bl, e_non, e_neg, e_not, e_bin, e_cmp, e_chain, e_and1, e_and2, e_or1, e_or2, e_and, e_or, e_ite, e_T, e_call, e_callv, e_bi, e_isi, e_meth, e_ix, e_slF, e_slT, e_slB, e_slN, e_rev, e_tup, e_lst, e_lc, e_lcIf, es_nil, es_cons, i_val, i_rng1, i_rng2, i_zip, getP_some, getP_map, getP_bind, getP_ite, asI_int, asF_fn, asT_tup, wpE_ok, step_name, step_many, c_eq, c_ne, c_lt, c_le, c_gt, c_ge, c_is, c_isNot, eq_int, eq_bl, eq_str, is_bl, is_nn, is_in, is_bn, is_sn, is_tn, is_ln, is_rn, t_non, t_bl, t_int, t_tup, t_rol, b_add, b_sub, b_mul, b_mod, b_fdiv, b_pow, b_addT, b_addS, b_mulT, b_mulSame, f_lenT, f_lenL, f_abs, f_max, f_min, f_int, f_intB, f_tupT, f_lstT, f_lstR, f_lenR, f_tupR, f_sum, f_all, f_any, f_anyT, f_allT, f_repr, x_tup, x_rol, x_ref, l_tup, l_ref, r_tup, m_app, m_ext, m_pop, m_cnt, p_app, p_ext, p_pop, p_cnt, s_tup, s_rol, s_ref, y_ii, y_ib, y_it, y_il, y_bi, y_bb, y_bt, y_tt, y_ti, y_tb, y_tl, y_ni, y_nt, x_set, a_add, a_sub, g_name, g_many, g_nil, g_cons, startP, wipeP, Tg.slots, List.map_cons, List.map_nil, List.length_cons, List.length_nil, List.replicate_succ, List.replicate_zero, List.cons_append, List.nil_append, List.getElem?_cons_zero, List.getElem?_cons_succ, Option.join_some, List.set_cons_zero, List.set_cons_succ, Bool.true_eq_false, reduceCtorEq, Option.map_some, Option.bind_some, Nat.reduceAdd, Nat.reduceSub, Nat.zero_add, Bool.not_true, Bool.not_false, Bool.false_eq_true, true_implies, false_implies, implies_true, and_true, true_and, not_true_eq_false, not_false_eq_true, decide_eq_true_eq, Bool.not_eq_true', Bool.not_eq_false', decide_eq_false_iff_not, iL_empty, eq_iT, gc_11, gc_0, gc_1, gc_12, gc_1202, gc_1203, getP_none, l2729_0_1]
    refine ⟨inr_small (by omega) (by omega), ?_⟩
    refine for_fix (fun j ρ h' => ∃ o4, ρ = [some (.rol (iL ns)), some (.int (i : Nat)), o2, some (.ref n), o4] ∧ Dice h' n (2 ^ 200 + 200 * (4 - j))) ⟨_, rfl, d1.less (by decide)⟩ (fun j x ρ h' hx hI => ?_) (fun ρ h' hI => ?_) (by decide)
    · obtain ⟨o4, rfl, d2⟩ := hI
      obtain ⟨lt, rfl⟩ := rngL_get hx
      have l6 : j < 4 := lt
      simp -implicitDefEqProofs only [w_cons, w_nil, w_set, w_asg, w_par2, w_par3, w_setix, w_aug, w_expr, w_ret, w_retN, w_ifs, w_brk, w_cnt, w_pass, w_raise, w_for, w_whl, e_v, e_gc, e_int, e_str, e_bl, e_non, e_neg, e_not, e_bin, e_cmp, e_chain, e_and1, e_and2, e_or1, e_or2, e_and, e_or, e_ite, e_T, e_call, e_callv, e_bi, e_isi, e_meth, e_ix, e_slF, e_slT, e_slB, e_slN, e_rev, e_tup, e_lst, e_lc, e_lcIf, es_nil, es_cons, i_val, i_rng1, i_rng2, i_zip, getP_some, getP_map, getP_bind, getP_ite, asI_int, asF_fn, asT_tup, wpE_ok, step_name, step_many, c_eq, c_ne, c_lt, c_le, c_gt, c_ge, c_is, c_isNot, eq_int, eq_bl, eq_str, is_bl, is_nn, is_in, is_bn, is_sn, is_tn, is_ln, is_rn, t_non, t_bl, t_int, t_tup, t_rol, b_add, b_sub, b_mul, b_mod, b_fdiv, b_pow, b_addT, b_addS, b_mulT, b_mulSame, f_lenT, f_lenL, f_abs, f_max, f_min, f_int, f_intB, f_tupT, f_lstT, f_lstR, f_lenR, f_tupR, f_sum, f_all, f_any, f_anyT, f_allT, f_repr, x_tup, x_rol, x_ref, l_tup, l_ref, r_tup, m_app, m_ext, m_pop, m_cnt, p_app, p_ext, p_pop, p_cnt, s_tup, s_rol, s_ref, y_ii, y_ib, y_it, y_il, y_bi, y_bb, y_bt, y_tt, y_ti, y_tb, y_tl, y_ni, y_nt, x_set, a_add, a_sub, g_name, g_many, g_nil, g_cons, startP, wipeP, Tg.slots, List.map_cons, List.map_nil, List.length_cons, List.length_nil, List.replicate_succ, List.replicate_zero, List.cons_append, List.nil_append, List.getElem?_cons_zero, List.getElem?_cons_succ, Option.join_some, List.set_cons_zero, List.set_cons_succ, Bool.true_eq_false, reduceCtorEq, Option.map_some, Option.bind_some, Nat.reduceAdd, Nat.reduceSub, Nat.zero_add, Bool.not_true, Bool.not_false, Bool.false_eq_true, true_implies, false_implies, implies_true, and_true, true_and, not_true_eq_false, not_false_eq_true, decide_eq_true_eq, Bool.not_eq_true', Bool.not_eq_false', decide_eq_false_iff_not, iL_empty, eq_iT, gc_11, gc_0, gc_1, gc_12, gc_1202, gc_1203, getP_none, l2729_1_0]
      refine sp_law_right_br n (2 ^ 200 + 200 * (4 - (j + 1))) (d2.less (by omega)) fun h2 g2 d3 => ?_
      (try simp -implicitDefEqProofs only [w_cons, w_nil, w_set, w_asg, w_par2, w_par3, w_setix, w_aug, w_expr, w_ret, w_retN, w_ifs, w_brk, w_cnt, w_pass, w_raise, w_for, w_whl, e_v, e_gc, e_int, e_str, e_bl, e_non, e_neg, e_not, e_bin, e_cmp, e_chain, e_and1, e_and2, e_or1, e_or2, e_and, e_or, e_ite, e_T, e_call, e_callv, e_bi, e_isi, e_meth, e_ix, e_slF, e_slT, e_slB, e_slN, e_rev, e_tup, e_lst, e_lc, e_lcIf, es_nil, es_cons, i_val, i_rng1, i_rng2, i_zip, getP_some, getP_map, getP_bind, getP_ite, asI_int, asF_fn, asT_tup, wpE_ok, step_name, step_many, c_eq, c_ne, c_lt, c_le, c_gt, c_ge, c_is, c_isNot, eq_int, eq_bl, eq_str, is_bl, is_nn, is_in, is_bn, is_sn, is_tn, is_ln, is_rn, t_non, t_bl, t_int, t_tup, t_rol, b_add, b_sub, b_mul, b_mod, b_fdiv, b_pow, b_addT, b_addS, b_mulT, b_mulSame, f_lenT, f_lenL, f_abs, f_max, f_min, f_int, f_intB, f_tupT, f_lstT, f_lstR, f_lenR, f_tupR, f_sum, f_all, f_any, f_anyT, f_allT, f_repr, x_tup, x_rol, x_ref, l_tup, l_ref, r_tup, m_app, m_ext, m_pop, m_cnt, p_app, p_ext, p_pop, p_cnt, s_tup, s_rol, s_ref, y_ii, y_ib, y_it, y_il, y_bi, y_bb, y_bt, y_tt, y_ti, y_tb, y_tl, y_ni, y_nt, x_set, a_add, a_sub, g_name, g_many, g_nil, g_cons, startP, wipeP, Tg.slots, List.map_cons, List.map_nil, List.length_cons, List.length_nil, List.replicate_succ, List.replicate_zero, List.cons_append, List.nil_append, List.getElem?_cons_zero, List.getElem?_cons_succ, Option.join_some, List.set_cons_zero, List.set_cons_succ, Bool.true_eq_false, reduceCtorEq, Option.map_some, Option.bind_some, Nat.reduceAdd, Nat.reduceSub, Nat.zero_add, Bool.not_true, Bool.not_false, Bool.false_eq_true, true_implies, false_implies, implies_true, and_true, true_and, not_true_eq_false, not_false_eq_true, decide_eq_true_eq, Bool.not_eq_true', Bool.not_eq_false', decide_eq_false_iff_not, iL_empty, eq_iT, gc_11, gc_0, gc_1, gc_12, gc_1202, gc_1203, getP_none])
      exact ⟨_, rfl, d3⟩
    · obtain ⟨o4, rfl, _⟩ := hI
      exact ⟨_, _, _, _, rfl⟩
  · obtain ⟨o1, o2, o3, o4, rfl⟩ := hI
    have q1 : (1 : Int) ≤ 2 := by omega
    have q2 : (2 : Int) ≤ 4 := by omega
    have w1 : Wd 2 [1] := by unfold Wd; decide
    have w2 : Wd 2 [2] := by unfold Wd; decide
    have w0 : Wd 2 [] := by unfold Wd; decide
    have w3 : Wd 1 [1, -1] := by unfold Wd; decide
    simp -implicitDefEqProofs only [w_cons, w_nil, w_set, w_asg, w_par2, w_par3, w_setix, w_aug, w_expr, w_ret, w_retN, w_ifs, w_brk, w_cnt, w_pass, w_raise, w_for, w_whl, e_v, e_gc, e_int, e_str, e_bl, e_non, e_neg, e_not, e_bin, e_cmp, e_chain, e_and1, e_and2, e_or1, e_or2, e_and, e_or, e_ite, e_T, e_call, e_callv, e_bi, e_isi, e_meth, e_ix, e_slF, e_slT, e_slB, e_slN, e_rev, e_tup, e_lst, e_lc, e_lcIf, es_nil, es_cons, i_val, i_rng1, i_rng2, i_zip, getP_some, getP_map, getP_bind, getP_ite, asI_int, asF_fn, asT_tup, wpE_ok, step_name, step_many, c_eq, c_ne, c_lt, c_le, c_gt, c_ge, c_is, c_isNot, eq_int, eq_bl, eq_str, is_bl, is_nn, is_in, is_bn, is_sn, is_tn, is_ln, is_rn, t_non, t_bl, t_int, t_tup, t_rol, b_add, b_sub, b_mul, b_mod, b_fdiv, b_pow, b_addT, b_addS, b_mulT, b_mulSame, f_lenT, f_lenL, f_abs, f_max, f_min, f_int, f_intB, f_tupT, f_lstT, f_lstR, f_lenR, f_tupR, f_sum, f_all, f_any, f_anyT, f_allT, f_repr, x_tup, x_rol, x_ref, l_tup, l_ref, r_tup, m_app, m_ext, m_pop, m_cnt, p_app, p_ext, p_pop, p_cnt, s_tup, s_rol, s_ref, y_ii, y_ib, y_it, y_il, y_bi, y_bb, y_bt, y_tt, y_ti, y_tb, y_tl, y_ni, y_nt, x_set, a_add, a_sub, g_name, g_many, g_nil, g_cons, startP, wipeP, Tg.slots, List.map_cons, List.map_nil, List.length_cons, List.length_nil, List.replicate_succ, List.replicate_zero, List.cons_append, List.nil_append, List.getElem?_cons_zero, List.getElem?_cons_succ, Option.join_some, List.set_cons_zero, List.set_cons_succ, Bool.true_eq_false, reduceCtorEq, Option.map_some, Option.bind_some, Nat.reduceAdd, Nat.reduceSub, Nat.zero_add, Bool.not_true, Bool.not_false, Bool.false_eq_true, true_implies, false_implies, implies_true, and_true, true_and, not_true_eq_false, not_false_eq_true, decide_eq_true_eq, Bool.not_eq_true', Bool.not_eq_false', decide_eq_false_iff_not, iL_empty, eq_iT, gc_11, gc_0, gc_1, gc_12, gc_1202, gc_1203, getP_none, b2729_1]
    refine ⟨by decide, by decide, ?_⟩
    refine sp_bracket 2 [1] [2] q1 q2 w1 (by simp) w2 (by simp) fun h1 g1 => ?_
    (try simp -implicitDefEqProofs only [w_cons, w_nil, w_set, w_asg, w_par2, w_par3, w_setix, w_aug, w_expr, w_ret, w_retN, w_ifs, w_brk, w_cnt, w_pass, w_raise, w_for, w_whl, e_v, e_gc, e_int, e_str, e_bl, e_non, e_neg, e_not, e_bin, e_cmp, e_chain, e_and1, e_and2, e_or1, e_or2, e_and, e_or, e_ite, e_T, e_call, e_callv, e_bi, e_isi, e_meth, e_ix, e_slF, e_slT, e_slB, e_slN, e_rev, e_tup, e_lst, e_lc, e_lcIf, es_nil, es_cons, i_val, i_rng1, i_rng2, i_zip, getP_some, getP_map, getP_bind, getP_ite, asI_int, asF_fn, asT_tup, wpE_ok, step_name, step_many, c_eq, c_ne, c_lt, c_le, c_gt, c_ge, c_is, c_isNot, eq_int, eq_bl, eq_str, is_bl, is_nn, is_in, is_bn, is_sn, is_tn, is_ln, is_rn, t_non, t_bl, t_int, t_tup, t_rol, b_add, b_sub, b_mul, b_mod, b_fdiv, b_pow, b_addT, b_addS, b_mulT, b_mulSame, f_lenT, f_lenL, f_abs, f_max, f_min, f_int, f_intB, f_tupT, f_lstT, f_lstR, f_lenR, f_tupR, f_sum, f_all, f_any, f_anyT, f_allT, f_repr, x_tup, x_rol, x_ref, l_tup, l_ref, r_tup, m_app, m_ext, m_pop, m_cnt, p_app, p_ext, p_pop, p_cnt, s_tup, s_rol, s_ref, y_ii, y_ib, y_it, y_il, y_bi, y_bb, y_bt, y_tt, y_ti, y_tb, y_tl, y_ni, y_nt, x_set, a_add, a_sub, g_name, g_many, g_nil, g_cons, startP, wipeP, Tg.slots, List.map_cons, List.map_nil, List.length_cons, List.length_nil, List.replicate_succ, List.replicate_zero, List.cons_append, List.nil_append, List.getElem?_cons_zero, List.getElem?_cons_succ, Option.join_some, List.set_cons_zero, List.set_cons_succ, Bool.true_eq_false, reduceCtorEq, Option.map_some, Option.bind_some, Nat.reduceAdd, Nat.reduceSub, Nat.zero_add, Bool.not_true, Bool.not_false, Bool.false_eq_true, true_implies, false_implies, implies_true, and_true, true_and, not_true_eq_false, not_false_eq_true, decide_eq_true_eq, Bool.not_eq_true', Bool.not_eq_false', decide_eq_false_iff_not, iL_empty, eq_iT, gc_11, gc_0, gc_1, gc_12, gc_1202, gc_1203, getP_none])
    refine ⟨by decide, by decide, ?_⟩
    refine sp_bracket 2 [] [2] q1 q2 w0 (by simp) w2 (by simp) fun h2 g2 => ?_
    (try simp -implicitDefEqProofs only [w_cons, w_nil, w_set, w_asg, w_par2, w_par3, w_setix, w_aug, w_expr, w_ret, w_retN, w_ifs, w_brk, w_cnt, w_pass, w_raise, w_for, w_whl, e_v, e_gc, e_int, e_str, e_bl, e_non, e_neg, e_not, e_bin, e_cmp, e_chain, e_and1, e_and2, e_or1, e_or2, e_and, e_or, e_ite, e_T, e_call, e_callv, e_bi, e_isi, e_meth, e_ix, e_slF, e_slT, e_slB, e_slN, e_rev, e_tup, e_lst, e_lc, e_lcIf, es_nil, es_cons, i_val, i_rng1, i_rng2, i_zip, getP_some, getP_map, getP_bind, getP_ite, asI_int, asF_fn, asT_tup, wpE_ok, step_name, step_many, c_eq, c_ne, c_lt, c_le, c_gt, c_ge, c_is, c_isNot, eq_int, eq_bl, eq_str, is_bl, is_nn, is_in, is_bn, is_sn, is_tn, is_ln, is_rn, t_non, t_bl, t_int, t_tup, t_rol, b_add, b_sub, b_mul, b_mod, b_fdiv, b_pow, b_addT, b_addS, b_mulT, b_mulSame, f_lenT, f_lenL, f_abs, f_max, f_min, f_int, f_intB, f_tupT, f_lstT, f_lstR, f_lenR, f_tupR, f_sum, f_all, f_any, f_anyT, f_allT, f_repr, x_tup, x_rol, x_ref, l_tup, l_ref, r_tup, m_app, m_ext, m_pop, m_cnt, p_app, p_ext, p_pop, p_cnt, s_tup, s_rol, s_ref, y_ii, y_ib, y_it, y_il, y_bi, y_bb, y_bt, y_tt, y_ti, y_tb, y_tl, y_ni, y_nt, x_set, a_add, a_sub, g_name, g_many, g_nil, g_cons, startP, wipeP, Tg.slots, List.map_cons, List.map_nil, List.length_cons, List.length_nil, List.replicate_succ, List.replicate_zero, List.cons_append, List.nil_append, List.getElem?_cons_zero, List.getElem?_cons_succ, Option.join_some, List.set_cons_zero, List.set_cons_succ, Bool.true_eq_false, reduceCtorEq, Option.map_some, Option.bind_some, Nat.reduceAdd, Nat.reduceSub, Nat.zero_add, Bool.not_true, Bool.not_false, Bool.false_eq_true, true_implies, false_implies, implies_true, and_true, true_and, not_true_eq_false, not_false_eq_true, decide_eq_true_eq, Bool.not_eq_true', Bool.not_eq_false', decide_eq_false_iff_not, iL_empty, eq_iT, gc_11, gc_0, gc_1, gc_12, gc_1202, gc_1203, getP_none])
    refine ⟨by decide, by decide, by decide, by decide, ?_⟩
    have v3 : ∀ v ∈ ([[1], [1], [2]] : List (List Int)), Wd 2 v ∧ v.length ≤ 400 := fun v hv => by
      simp only [List.mem_cons, List.not_mem_nil, or_false] at hv
      rcases hv with rfl | rfl | rfl
      · exact ⟨w1, by simp⟩
      · exact ⟨w1, by simp⟩
      · exact ⟨w2, by simp⟩
    have v4 : ∀ v ∈ ([[1], [2], [1]] : List (List Int)), Wd 2 v ∧ v.length ≤ 400 := fun v hv => by
      simp only [List.mem_cons, List.not_mem_nil, or_false] at hv
      rcases hv with rfl | rfl | rfl
      · exact ⟨w1, by simp⟩
      · exact ⟨w2, by simp⟩
      · exact ⟨w1, by simp⟩
    refine sp_bracket_row 2 [1] [[1], [2]] q1 q2 v3 (by simp) (by simp) ⟨by decide, by decide, trivial⟩ fun h3 g3 => ?_
    refine ⟨by decide, ?_⟩
    simp -implicitDefEqProofs only [w_cons, w_nil, w_set, w_asg, w_par2, w_par3, w_setix, w_aug, w_expr, w_ret, w_retN, w_ifs, w_brk, w_cnt, w_pass, w_raise, w_for, w_whl, e_v, e_gc, e_int, e_str, e_bl, e_non, e_neg, e_not, e_bin, e_cmp, e_chain, e_and1, e_and2, e_or1, e_or2, e_and, e_or, e_ite, e_T, e_call, e_callv, e_bi, e_isi, e_meth, e_ix, e_slF, e_slT, e_slB, e_slN, e_rev, e_tup, e_lst, e_lc, e_lcIf, es_nil, es_cons, i_val, i_rng1, i_rng2, i_zip, getP_some, getP_map, getP_bind, getP_ite, asI_int, asF_fn, asT_tup, wpE_ok, step_name, step_many, c_eq, c_ne, c_lt, c_le, c_gt, c_ge, c_is, c_isNot, eq_int, eq_bl, eq_str, is_bl, is_nn, is_in, is_bn, is_sn, is_tn, is_ln, is_rn, t_non, t_bl, t_int, t_tup, t_rol, b_add, b_sub, b_mul, b_mod, b_fdiv, b_pow, b_addT, b_addS, b_mulT, b_mulSame, f_lenT, f_lenL, f_abs, f_max, f_min, f_int, f_intB, f_tupT, f_lstT, f_lstR, f_lenR, f_tupR, f_sum, f_all, f_any, f_anyT, f_allT, f_repr, x_tup, x_rol, x_ref, l_tup, l_ref, r_tup, m_app, m_ext, m_pop, m_cnt, p_app, p_ext, p_pop, p_cnt, s_tup, s_rol, s_ref, y_ii, y_ib, y_it, y_il, y_bi, y_bb, y_bt, y_tt, y_ti, y_tb, y_tl, y_ni, y_nt, x_set, a_add, a_sub, g_name, g_many, g_nil, g_cons, startP, wipeP, Tg.slots, List.map_cons, List.map_nil, List.length_cons, List.length_nil, List.replicate_succ, List.replicate_zero, List.cons_append, List.nil_append, List.getElem?_cons_zero, List.getElem?_cons_succ, Option.join_some, List.set_cons_zero, List.set_cons_succ, Bool.true_eq_false, reduceCtorEq, Option.map_some, Option.bind_some, Nat.reduceAdd, Nat.reduceSub, Nat.zero_add, Bool.not_true, Bool.not_false, Bool.false_eq_true, true_implies, false_implies, implies_true, and_true, true_and, not_true_eq_false, not_false_eq_true, decide_eq_true_eq, Bool.not_eq_true', Bool.not_eq_false', decide_eq_false_iff_not, iL_empty, eq_iT, gc_11, gc_0, gc_1, gc_12, gc_1202, gc_1203, getP_none, b2729_2]
    refine ⟨by decide, by decide, ?_⟩
    refine sp_bracket_row 1 [1, -1] [] (by omega) (by omega) (fun v hv => by rw [List.mem_singleton.mp hv]; exact ⟨w3, by simp⟩) (by simp) (by simp) trivial fun h4 g4 => ?_
    have s4 := g4.at lst_new (by simp)
    have l4 := lstAt_lt s4
    simp -implicitDefEqProofs only [w_cons, w_nil, w_set, w_asg, w_par2, w_par3, w_setix, w_aug, w_expr, w_ret, w_retN, w_ifs, w_brk, w_cnt, w_pass, w_raise, w_for, w_whl, e_v, e_gc, e_int, e_str, e_bl, e_non, e_neg, e_not, e_bin, e_cmp, e_chain, e_and1, e_and2, e_or1, e_or2, e_and, e_or, e_ite, e_T, e_call, e_callv, e_bi, e_isi, e_meth, e_ix, e_slF, e_slT, e_slB, e_slN, e_rev, e_tup, e_lst, e_lc, e_lcIf, es_nil, es_cons, i_val, i_rng1, i_rng2, i_zip, getP_some, getP_map, getP_bind, getP_ite, asI_int, asF_fn, asT_tup, wpE_ok, step_name, step_many, c_eq, c_ne, c_lt, c_le, c_gt, c_ge, c_is, c_isNot, eq_int, eq_bl, eq_str, is_bl, is_nn, is_in, is_bn, is_sn, is_tn, is_ln, is_rn, t_non, t_bl, t_int, t_tup, t_rol, b_add, b_sub, b_mul, b_mod, b_fdiv, b_pow, b_addT, b_addS, b_mulT, b_mulSame, f_lenT, f_lenL, f_abs, f_max, f_min, f_int, f_intB, f_tupT, f_lstT, f_lstR, f_lenR, f_tupR, f_sum, f_all, f_any, f_anyT, f_allT, f_repr, x_tup, x_rol, x_ref, l_tup, l_ref, r_tup, m_app, m_ext, m_pop, m_cnt, p_app, p_ext, p_pop, p_cnt, s_tup, s_rol, s_ref, y_ii, y_ib, y_it, y_il, y_bi, y_bb, y_bt, y_tt, y_ti, y_tb, y_tl, y_ni, y_nt, x_set, a_add, a_sub, g_name, g_many, g_nil, g_cons, startP, wipeP, Tg.slots, List.map_cons, List.map_nil, List.length_cons, List.length_nil, List.replicate_succ, List.replicate_zero, List.cons_append, List.nil_append, List.getElem?_cons_zero, List.getElem?_cons_succ, Option.join_some, List.set_cons_zero, List.set_cons_succ, Bool.true_eq_false, reduceCtorEq, Option.map_some, Option.bind_some, Nat.reduceAdd, Nat.reduceSub, Nat.zero_add, Bool.not_true, Bool.not_false, Bool.false_eq_true, true_implies, false_implies, implies_true, and_true, true_and, not_true_eq_false, not_false_eq_true, decide_eq_true_eq, Bool.not_eq_true', Bool.not_eq_false', decide_eq_false_iff_not, iL_empty, eq_iT, gc_11, gc_0, gc_1, gc_12, gc_1202, gc_1203, getP_none, s4]
    refine ⟨by decide, ?_⟩
    simp -implicitDefEqProofs only [w_cons, w_nil, w_set, w_asg, w_par2, w_par3, w_setix, w_aug, w_expr, w_ret, w_retN, w_ifs, w_brk, w_cnt, w_pass, w_raise, w_for, w_whl, e_v, e_gc, e_int, e_str, e_bl, e_non, e_neg, e_not, e_bin, e_cmp, e_chain, e_and1, e_and2, e_or1, e_or2, e_and, e_or, e_ite, e_T, e_call, e_callv, e_bi, e_isi, e_meth, e_ix, e_slF, e_slT, e_slB, e_slN, e_rev, e_tup, e_lst, e_lc, e_lcIf, es_nil, es_cons, i_val, i_rng1, i_rng2, i_zip, getP_some, getP_map, getP_bind, getP_ite, asI_int, asF_fn, asT_tup, wpE_ok, step_name, step_many, c_eq, c_ne, c_lt, c_le, c_gt, c_ge, c_is, c_isNot, eq_int, eq_bl, eq_str, is_bl, is_nn, is_in, is_bn, is_sn, is_tn, is_ln, is_rn, t_non, t_bl, t_int, t_tup, t_rol, b_add, b_sub, b_mul, b_mod, b_fdiv, b_pow, b_addT, b_addS, b_mulT, b_mulSame, f_lenT, f_lenL, f_abs, f_max, f_min, f_int, f_intB, f_tupT, f_lstT, f_lstR, f_lenR, f_tupR, f_sum, f_all, f_any, f_anyT, f_allT, f_repr, x_tup, x_rol, x_ref, l_tup, l_ref, r_tup, m_app, m_ext, m_pop, m_cnt, p_app, p_ext, p_pop, p_cnt, s_tup, s_rol, s_ref, y_ii, y_ib, y_it, y_il, y_bi, y_bb, y_bt, y_tt, y_ti, y_tb, y_tl, y_ni, y_nt, x_set, a_add, a_sub, g_name, g_many, g_nil, g_cons, startP, wipeP, Tg.slots, List.map_cons, List.map_nil, List.length_cons, List.length_nil, List.replicate_succ, List.replicate_zero, List.cons_append, List.nil_append, List.getElem?_cons_zero, List.getElem?_cons_succ, Option.join_some, List.set_cons_zero, List.set_cons_succ, Bool.true_eq_false, reduceCtorEq, Option.map_some, Option.bind_some, Nat.reduceAdd, Nat.reduceSub, Nat.zero_add, Bool.not_true, Bool.not_false, Bool.false_eq_true, true_implies, false_implies, implies_true, and_true, true_and, not_true_eq_false, not_false_eq_true, decide_eq_true_eq, Bool.not_eq_true', Bool.not_eq_false', decide_eq_false_iff_not, iL_empty, eq_iT, gc_11, gc_0, gc_1, gc_12, gc_1202, gc_1203, getP_none, b2729_3]
    refine ⟨by decide, by decide, by decide, by decide, by decide, ?_⟩
    have e1 : eqO (h4.set h3.length (.lst [iT (br [1] [2]), iT (br [] [2]), iT (rowB [[1], [1], [2]]), iT (rowB [[1, -1]])]) ++ [Cell.lst [.tup [.int 1, .int 2, .int (-1), .int (-2)], .tup [], .tup [], .tup []]]) (.ref h3.length) (.ref (h4.set h3.length (.lst [iT (br [1] [2]), iT (br [] [2]), iT (rowB [[1], [1], [2]]), iT (rowB [[1, -1]])])).length) = some (decide (([br [1] [2], br [] [2], rowB [[1], [1], [2]], rowB [[1, -1]]] : List (List Int)) = [[1, 2, -1, -2], [], [], []])) := by
      refine eq_lstW ?_ lst_new
      rw [lst_old (by simpa using l4)]
      exact lst_set l4
    simp -implicitDefEqProofs only [w_cons, w_nil, w_set, w_asg, w_par2, w_par3, w_setix, w_aug, w_expr, w_ret, w_retN, w_ifs, w_brk, w_cnt, w_pass, w_raise, w_for, w_whl, e_v, e_gc, e_int, e_str, e_bl, e_non, e_neg, e_not, e_bin, e_cmp, e_chain, e_and1, e_and2, e_or1, e_or2, e_and, e_or, e_ite, e_T, e_call, e_callv, e_bi, e_isi, e_meth, e_ix, e_slF, e_slT, e_slB, e_slN, e_rev, e_tup, e_lst, e_lc, e_lcIf, es_nil, es_cons, i_val, i_rng1, i_rng2, i_zip, getP_some, getP_map, getP_bind, getP_ite, asI_int, asF_fn, asT_tup, wpE_ok, step_name, step_many, c_eq, c_ne, c_lt, c_le, c_gt, c_ge, c_is, c_isNot, eq_int, eq_bl, eq_str, is_bl, is_nn, is_in, is_bn, is_sn, is_tn, is_ln, is_rn, t_non, t_bl, t_int, t_tup, t_rol, b_add, b_sub, b_mul, b_mod, b_fdiv, b_pow, b_addT, b_addS, b_mulT, b_mulSame, f_lenT, f_lenL, f_abs, f_max, f_min, f_int, f_intB, f_tupT, f_lstT, f_lstR, f_lenR, f_tupR, f_sum, f_all, f_any, f_anyT, f_allT, f_repr, x_tup, x_rol, x_ref, l_tup, l_ref, r_tup, m_app, m_ext, m_pop, m_cnt, p_app, p_ext, p_pop, p_cnt, s_tup, s_rol, s_ref, y_ii, y_ib, y_it, y_il, y_bi, y_bb, y_bt, y_tt, y_ti, y_tb, y_tl, y_ni, y_nt, x_set, a_add, a_sub, g_name, g_many, g_nil, g_cons, startP, wipeP, Tg.slots, List.map_cons, List.map_nil, List.length_cons, List.length_nil, List.replicate_succ, List.replicate_zero, List.cons_append, List.nil_append, List.getElem?_cons_zero, List.getElem?_cons_succ, Option.join_some, List.set_cons_zero, List.set_cons_succ, Bool.true_eq_false, reduceCtorEq, Option.map_some, Option.bind_some, Nat.reduceAdd, Nat.reduceSub, Nat.zero_add, Bool.not_true, Bool.not_false, Bool.false_eq_true, true_implies, false_implies, implies_true, and_true, true_and, not_true_eq_false, not_false_eq_true, decide_eq_true_eq, Bool.not_eq_true', Bool.not_eq_false', decide_eq_false_iff_not, iL_empty, eq_iT, gc_11, gc_0, gc_1, gc_12, gc_1202, gc_1203, getP_none, e1]
    refine ⟨fun z => absurd (show ([br [1] [2], br [] [2], rowB [[1], [1], [2]], rowB [[1, -1]]] : List (List Int)) = [[1, 2, -1, -2], [], [], []] by decide) z, fun _ => ?_⟩
    simp -implicitDefEqProofs only [w_cons, w_nil, w_set, w_asg, w_par2, w_par3, w_setix, w_aug, w_expr, w_ret, w_retN, w_ifs, w_brk, w_cnt, w_pass, w_raise, w_for, w_whl, e_v, e_gc, e_int, e_str, e_bl, e_non, e_neg, e_not, e_bin, e_cmp, e_chain, e_and1, e_and2, e_or1, e_or2, e_and, e_or, e_ite, e_T, e_call, e_callv, e_bi, e_isi, e_meth, e_ix, e_slF, e_slT, e_slB, e_slN, e_rev, e_tup, e_lst, e_lc, e_lcIf, es_nil, es_cons, i_val, i_rng1, i_rng2, i_zip, getP_some, getP_map, getP_bind, getP_ite, asI_int, asF_fn, asT_tup, wpE_ok, step_name, step_many, c_eq, c_ne, c_lt, c_le, c_gt, c_ge, c_is, c_isNot, eq_int, eq_bl, eq_str, is_bl, is_nn, is_in, is_bn, is_sn, is_tn, is_ln, is_rn, t_non, t_bl, t_int, t_tup, t_rol, b_add, b_sub, b_mul, b_mod, b_fdiv, b_pow, b_addT, b_addS, b_mulT, b_mulSame, f_lenT, f_lenL, f_abs, f_max, f_min, f_int, f_intB, f_tupT, f_lstT, f_lstR, f_lenR, f_tupR, f_sum, f_all, f_any, f_anyT, f_allT, f_repr, x_tup, x_rol, x_ref, l_tup, l_ref, r_tup, m_app, m_ext, m_pop, m_cnt, p_app, p_ext, p_pop, p_cnt, s_tup, s_rol, s_ref, y_ii, y_ib, y_it, y_il, y_bi, y_bb, y_bt, y_tt, y_ti, y_tb, y_tl, y_ni, y_nt, x_set, a_add, a_sub, g_name, g_many, g_nil, g_cons, startP, wipeP, Tg.slots, List.map_cons, List.map_nil, List.length_cons, List.length_nil, List.replicate_succ, List.replicate_zero, List.cons_append, List.nil_append, List.getElem?_cons_zero, List.getElem?_cons_succ, Option.join_some, List.set_cons_zero, List.set_cons_succ, Bool.true_eq_false, reduceCtorEq, Option.map_some, Option.bind_some, Nat.reduceAdd, Nat.reduceSub, Nat.zero_add, Bool.not_true, Bool.not_false, Bool.false_eq_true, true_implies, false_implies, implies_true, and_true, true_and, not_true_eq_false, not_false_eq_true, decide_eq_true_eq, Bool.not_eq_true', Bool.not_eq_false', decide_eq_false_iff_not, iL_empty, eq_iT, gc_11, gc_0, gc_1, gc_12, gc_1202, gc_1203, getP_none, b2729_4]
    refine ⟨by decide, by decide, by decide, by decide, ?_⟩
    refine sp_bracket_row 2 [1] [[2], [1]] q1 q2 v4 (by simp) (by simp) ⟨by decide, by decide, trivial⟩ fun h5 g5 => ?_
    (try simp -implicitDefEqProofs only [w_cons, w_nil, w_set, w_asg, w_par2, w_par3, w_setix, w_aug, w_expr, w_ret, w_retN, w_ifs, w_brk, w_cnt, w_pass, w_raise, w_for, w_whl, e_v, e_gc, e_int, e_str, e_bl, e_non, e_neg, e_not, e_bin, e_cmp, e_chain, e_and1, e_and2, e_or1, e_or2, e_and, e_or, e_ite, e_T, e_call, e_callv, e_bi, e_isi, e_meth, e_ix, e_slF, e_slT, e_slB, e_slN, e_rev, e_tup, e_lst, e_lc, e_lcIf, es_nil, es_cons, i_val, i_rng1, i_rng2, i_zip, getP_some, getP_map, getP_bind, getP_ite, asI_int, asF_fn, asT_tup, wpE_ok, step_name, step_many, c_eq, c_ne, c_lt, c_le, c_gt, c_ge, c_is, c_isNot, eq_int, eq_bl, eq_str, is_bl, is_nn, is_in, is_bn, is_sn, is_tn, is_ln, is_rn, t_non, t_bl, t_int, t_tup, t_rol, b_add, b_sub, b_mul, b_mod, b_fdiv, b_pow, b_addT, b_addS, b_mulT, b_mulSame, f_lenT, f_lenL, f_abs, f_max, f_min, f_int, f_intB, f_tupT, f_lstT, f_lstR, f_lenR, f_tupR, f_sum, f_all, f_any, f_anyT, f_allT, f_repr, x_tup, x_rol, x_ref, l_tup, l_ref, r_tup, m_app, m_ext, m_pop, m_cnt, p_app, p_ext, p_pop, p_cnt, s_tup, s_rol, s_ref, y_ii, y_ib, y_it, y_il, y_bi, y_bb, y_bt, y_tt, y_ti, y_tb, y_tl, y_ni, y_nt, x_set, a_add, a_sub, g_name, g_many, g_nil, g_cons, startP, wipeP, Tg.slots, List.map_cons, List.map_nil, List.length_cons, List.length_nil, List.replicate_succ, List.replicate_zero, List.cons_append, List.nil_append, List.getElem?_cons_zero, List.getElem?_cons_succ, Option.join_some, List.set_cons_zero, List.set_cons_succ, Bool.true_eq_false, reduceCtorEq, Option.map_some, Option.bind_some, Nat.reduceAdd, Nat.reduceSub, Nat.zero_add, Bool.not_true, Bool.not_false, Bool.false_eq_true, true_implies, false_implies, implies_true, and_true, true_and, not_true_eq_false, not_false_eq_true, decide_eq_true_eq, Bool.not_eq_true', Bool.not_eq_false', decide_eq_false_iff_not, iL_empty, eq_iT, gc_11, gc_0, gc_1, gc_12, gc_1202, gc_1203, getP_none])
    refine ⟨by decide, ?_⟩
    have e2 : ∀ h : IH, eqO h (iT (rowB [[1], [2], [1]])) (.tup [.int 1, .int 2, .int (-1), .int (-2), .int 1, .int 2, .int 1, .int (-2), .int (-1), .int (-1)]) = some true := fun h => by
      have := eq_iT h (rowB [[1], [2], [1]]) [1, 2, -1, -2, 1, 2, 1, -2, -1, -1]
      rw [show decide (rowB [[1], [2], [1]] = [1, 2, -1, -2, 1, 2, 1, -2, -1, -1]) = true from by decide] at this
      exact this
    simp -implicitDefEqProofs only [w_cons, w_nil, w_set, w_asg, w_par2, w_par3, w_setix, w_aug, w_expr, w_ret, w_retN, w_ifs, w_brk, w_cnt, w_pass, w_raise, w_for, w_whl, e_v, e_gc, e_int, e_str, e_bl, e_non, e_neg, e_not, e_bin, e_cmp, e_chain, e_and1, e_and2, e_or1, e_or2, e_and, e_or, e_ite, e_T, e_call, e_callv, e_bi, e_isi, e_meth, e_ix, e_slF, e_slT, e_slB, e_slN, e_rev, e_tup, e_lst, e_lc, e_lcIf, es_nil, es_cons, i_val, i_rng1, i_rng2, i_zip, getP_some, getP_map, getP_bind, getP_ite, asI_int, asF_fn, asT_tup, wpE_ok, step_name, step_many, c_eq, c_ne, c_lt, c_le, c_gt, c_ge, c_is, c_isNot, eq_int, eq_bl, eq_str, is_bl, is_nn, is_in, is_bn, is_sn, is_tn, is_ln, is_rn, t_non, t_bl, t_int, t_tup, t_rol, b_add, b_sub, b_mul, b_mod, b_fdiv, b_pow, b_addT, b_addS, b_mulT, b_mulSame, f_lenT, f_lenL, f_abs, f_max, f_min, f_int, f_intB, f_tupT, f_lstT, f_lstR, f_lenR, f_tupR, f_sum, f_all, f_any, f_anyT, f_allT, f_repr, x_tup, x_rol, x_ref, l_tup, l_ref, r_tup, m_app, m_ext, m_pop, m_cnt, p_app, p_ext, p_pop, p_cnt, s_tup, s_rol, s_ref, y_ii, y_ib, y_it, y_il, y_bi, y_bb, y_bt, y_tt, y_ti, y_tb, y_tl, y_ni, y_nt, x_set, a_add, a_sub, g_name, g_many, g_nil, g_cons, startP, wipeP, Tg.slots, List.map_cons, List.map_nil, List.length_cons, List.length_nil, List.replicate_succ, List.replicate_zero, List.cons_append, List.nil_append, List.getElem?_cons_zero, List.getElem?_cons_succ, Option.join_some, List.set_cons_zero, List.set_cons_succ, Bool.true_eq_false, reduceCtorEq, Option.map_some, Option.bind_some, Nat.reduceAdd, Nat.reduceSub, Nat.zero_add, Bool.not_true, Bool.not_false, Bool.false_eq_true, true_implies, false_implies, implies_true, and_true, true_and, not_true_eq_false, not_false_eq_true, decide_eq_true_eq, Bool.not_eq_true', Bool.not_eq_false', decide_eq_false_iff_not, iL_empty, eq_iT, gc_11, gc_0, gc_1, gc_12, gc_1202, gc_1203, getP_none, e2]
end Pi

set_option Elab.async false
set_option linter.all false
set_option maxRecDepth 100000
set_option maxHeartbeats 8000000
namespace Pi
open PySem PySem.Spec PyProof.Rows L2
theorem law_true (ns : List Int) (h : ns.length ≤ 63) : ∃ h', run GT GC GF 10 2729 [.rol (ns.map .int)] [] = .ok (.bl true) h' := by
  have q := law_run ns h
  have q' : wpE (run GT GC GF 10 2729 [.rol (ns.map .int)] []) (fun v _ => v = .bl true) := q
  revert q'
  cases run GT GC GF 10 2729 [.rol (ns.map .int)] [] with
  | ok v h' => intro e; exact ⟨h', by rw [show v = .bl true from e]⟩
  | ex _ _ => exact False.elim
  | bad => exact False.elim
/-! ### the law's text -/
def topS (i : Nat) : Stmt := PySem.Challenge.pw_undonewords_k53_whole_brackets_and_rules.main.body.getD i (.Pass ⟨0, 0, 0, 0⟩)
def esL : Tx := [tx 12 F12 "is_whole", tx 13 F13 "is_near", tx 14 F14 "is_within", tx 15 F15 "require_number", tx 16 F16 "is_letter_in", tx 17 F17 "is_word_in", tx 18 F18 "are_words_in", tx 20 F20 "shortened_in", tx 21 F21 "undone_in", tx 22 F22 "product_in", tx 24 F24 "counts_in", tx 25 F25 "require_letters", tx 26 F26 "require_word", tx 27 F27 "require_words", tx 28 F28 "require_told_word", tx 29 F29 "require_two_words", tx 30 F30 "require_told_words", tx 2714 F2714 "bracket_in", tx 2715 F2715 "turned_word", tx 2716 F2716 "has_no_counts_in", tx 2717 F2717 "row_of_brackets", tx 2718 F2718 "plain_bracket", tx 2719 F2719 "rule_part", tx 2720 F2720 "bracket", tx 2721 F2721 "bracket_row", tx 2722 F2722 "has_no_counts", tx 2723 F2723 "conjugate", tx 2724 F2724 "round_rule", tx 0 F0 "_law_dice", tx 1 F1 "_law_roll", tx 2 F2 "_law_pick", tx 39 F39 "_law_letters", tx 40 F40 "_law_short", tx 41 F41 "_law_undone", tx 42 F42 "_law_product", tx 43 F43 "_law_word", tx 2725 F2725 "_law_br_bracket", tx 2726 F2726 "_law_br_counts", tx 2727 F2727 "_law_row_of", tx 2728 F2728 "_law_right", tx 2729 F2729 "law"]
def csL : Cs := [cx 11 "FAR", cx 0 "MOST_LONG_words", cx 1 "MOST_WORDS", cx 12 "MOST_RANK", cx 1202 "MOST_LONG_brackets", cx 1203 "THREE"]
def gL : Cfg := ⟨txN esL, fun g => csL.lookup g⟩
theorem dt_12 : DefT gL "is_whole" (topS 8) F12 ["value"] ["value"] := ⟨⟨rfl, rfl, rfl, by decide +kernel, rfl, by decide +kernel, by decide +kernel⟩, fun _ _ _ _ _ _ us hl => match us, hl with | [_], _ => rfl, rfl, rfl, by decide +kernel⟩
theorem dt_13 : DefT gL "is_near" (topS 9) F13 ["value"] ["value"] := ⟨⟨rfl, rfl, rfl, by decide +kernel, rfl, by decide +kernel, by decide +kernel⟩, fun _ _ _ _ _ _ us hl => match us, hl with | [_], _ => rfl, rfl, rfl, by decide +kernel⟩
theorem dt_14 : DefT gL "is_within" (topS 10) F14 ["value", "least", "most"] ["value", "least", "most"] := ⟨⟨rfl, rfl, rfl, by decide +kernel, rfl, by decide +kernel, by decide +kernel⟩, fun _ _ _ _ _ _ us hl => match us, hl with | [_, _, _], _ => rfl, rfl, rfl, by decide +kernel⟩
theorem dt_15 : DefT gL "require_number" (topS 11) F15 ["value", "least", "most"] ["value", "least", "most"] := ⟨⟨rfl, rfl, rfl, by decide +kernel, rfl, by decide +kernel, by decide +kernel⟩, fun _ _ _ _ _ _ us hl => match us, hl with | [_, _, _], _ => rfl, rfl, rfl, by decide +kernel⟩
theorem dt_16 : DefT gL "is_letter_in" (topS 16) F16 ["r", "value"] ["r", "value"] := ⟨⟨rfl, rfl, rfl, by decide +kernel, rfl, by decide +kernel, by decide +kernel⟩, fun _ _ _ _ _ _ us hl => match us, hl with | [_, _], _ => rfl, rfl, rfl, by decide +kernel⟩
theorem dt_17 : DefT gL "is_word_in" (topS 17) F17 ["r", "value", "letter"] ["r", "value"] := ⟨⟨rfl, rfl, rfl, by decide +kernel, rfl, by decide +kernel, by decide +kernel⟩, fun _ _ _ _ _ _ us hl => match us, hl with | [_, _], _ => rfl, rfl, rfl, by decide +kernel⟩
theorem dt_18 : DefT gL "are_words_in" (topS 18) F18 ["r", "value", "word"] ["r", "value"] := ⟨⟨rfl, rfl, rfl, by decide +kernel, rfl, by decide +kernel, by decide +kernel⟩, fun _ _ _ _ _ _ us hl => match us, hl with | [_, _], _ => rfl, rfl, rfl, by decide +kernel⟩
theorem dt_20 : DefT gL "shortened_in" (topS 19) F20 ["word", "found", "letter"] ["word"] := ⟨⟨rfl, rfl, rfl, by decide +kernel, rfl, by decide +kernel, by decide +kernel⟩, fun _ _ _ _ _ _ us hl => match us, hl with | [_], _ => rfl, rfl, rfl, by decide +kernel⟩
theorem dt_21 : DefT gL "undone_in" (topS 20) F21 ["word", "letter"] ["word"] := ⟨⟨rfl, rfl, rfl, by decide +kernel, rfl, by decide +kernel, by decide +kernel⟩, fun _ _ _ _ _ _ us hl => match us, hl with | [_], _ => rfl, rfl, rfl, by decide +kernel⟩
theorem dt_22 : DefT gL "product_in" (topS 21) F22 ["words", "found", "word", "letter"] ["words"] := ⟨⟨rfl, rfl, rfl, by decide +kernel, rfl, by decide +kernel, by decide +kernel⟩, fun _ _ _ _ _ _ us hl => match us, hl with | [_], _ => rfl, rfl, rfl, by decide +kernel⟩
theorem dt_24 : DefT gL "counts_in" (topS 22) F24 ["r", "word", "letter"] ["r", "word"] := ⟨⟨rfl, rfl, rfl, by decide +kernel, rfl, by decide +kernel, by decide +kernel⟩, fun _ _ _ _ _ _ us hl => match us, hl with | [_, _], _ => rfl, rfl, rfl, by decide +kernel⟩
theorem dt_25 : DefT gL "require_letters" (topS 23) F25 ["r"] ["r"] := ⟨⟨rfl, rfl, rfl, by decide +kernel, rfl, by decide +kernel, by decide +kernel⟩, fun _ _ _ _ _ _ us hl => match us, hl with | [_], _ => rfl, rfl, rfl, by decide +kernel⟩
theorem dt_26 : DefT gL "require_word" (topS 24) F26 ["r", "value"] ["r", "value"] := ⟨⟨rfl, rfl, rfl, by decide +kernel, rfl, by decide +kernel, by decide +kernel⟩, fun _ _ _ _ _ _ us hl => match us, hl with | [_, _], _ => rfl, rfl, rfl, by decide +kernel⟩
theorem dt_27 : DefT gL "require_words" (topS 25) F27 ["r", "value"] ["r", "value"] := ⟨⟨rfl, rfl, rfl, by decide +kernel, rfl, by decide +kernel, by decide +kernel⟩, fun _ _ _ _ _ _ us hl => match us, hl with | [_, _], _ => rfl, rfl, rfl, by decide +kernel⟩
theorem dt_28 : DefT gL "require_told_word" (topS 26) F28 ["r", "word"] ["r", "word"] := ⟨⟨rfl, rfl, rfl, by decide +kernel, rfl, by decide +kernel, by decide +kernel⟩, fun _ _ _ _ _ _ us hl => match us, hl with | [_, _], _ => rfl, rfl, rfl, by decide +kernel⟩
theorem dt_29 : DefT gL "require_two_words" (topS 27) F29 ["r", "one", "other"] ["r", "one", "other"] := ⟨⟨rfl, rfl, rfl, by decide +kernel, rfl, by decide +kernel, by decide +kernel⟩, fun _ _ _ _ _ _ us hl => match us, hl with | [_, _, _], _ => rfl, rfl, rfl, by decide +kernel⟩
theorem dt_30 : DefT gL "require_told_words" (topS 28) F30 ["r", "words"] ["r", "words"] := ⟨⟨rfl, rfl, rfl, by decide +kernel, rfl, by decide +kernel, by decide +kernel⟩, fun _ _ _ _ _ _ us hl => match us, hl with | [_, _], _ => rfl, rfl, rfl, by decide +kernel⟩
theorem dt_2714 : DefT gL "bracket_in" (topS 32) F2714 ["one", "other"] ["one", "other"] := ⟨⟨rfl, rfl, rfl, by decide +kernel, rfl, by decide +kernel, by decide +kernel⟩, fun _ _ _ _ _ _ us hl => match us, hl with | [_, _], _ => rfl, rfl, rfl, by decide +kernel⟩
theorem dt_2715 : DefT gL "turned_word" (topS 33) F2715 ["word", "other"] ["word", "other"] := ⟨⟨rfl, rfl, rfl, by decide +kernel, rfl, by decide +kernel, by decide +kernel⟩, fun _ _ _ _ _ _ us hl => match us, hl with | [_, _], _ => rfl, rfl, rfl, by decide +kernel⟩
theorem dt_2716 : DefT gL "has_no_counts_in" (topS 34) F2716 ["r", "word"] ["r", "word"] := ⟨⟨rfl, rfl, rfl, by decide +kernel, rfl, by decide +kernel, by decide +kernel⟩, fun _ _ _ _ _ _ us hl => match us, hl with | [_, _], _ => rfl, rfl, rfl, by decide +kernel⟩
theorem dt_2717 : DefT gL "row_of_brackets" (topS 35) F2717 ["words", "found", "word"] ["words"] := ⟨⟨rfl, rfl, rfl, by decide +kernel, rfl, by decide +kernel, by decide +kernel⟩, fun _ _ _ _ _ _ us hl => match us, hl with | [_], _ => rfl, rfl, rfl, by decide +kernel⟩
theorem dt_2718 : DefT gL "plain_bracket" (topS 36) F2718 ["one", "other"] ["one", "other"] := ⟨⟨rfl, rfl, rfl, by decide +kernel, rfl, by decide +kernel, by decide +kernel⟩, fun _ _ _ _ _ _ us hl => match us, hl with | [_, _], _ => rfl, rfl, rfl, by decide +kernel⟩
theorem dt_2719 : DefT gL "rule_part" (topS 37) F2719 ["one", "other", "third", "inner"] ["one", "other", "third"] := ⟨⟨rfl, rfl, rfl, by decide +kernel, rfl, by decide +kernel, by decide +kernel⟩, fun _ _ _ _ _ _ us hl => match us, hl with | [_, _, _], _ => rfl, rfl, rfl, by decide +kernel⟩
theorem dt_2720 : DefT gL "bracket" (topS 38) F2720 ["r", "one", "other"] ["r", "one", "other"] := ⟨⟨rfl, rfl, rfl, by decide +kernel, rfl, by decide +kernel, by decide +kernel⟩, fun _ _ _ _ _ _ us hl => match us, hl with | [_, _, _], _ => rfl, rfl, rfl, by decide +kernel⟩
theorem dt_2721 : DefT gL "bracket_row" (topS 39) F2721 ["r", "words", "found"] ["r", "words"] := ⟨⟨rfl, rfl, rfl, by decide +kernel, rfl, by decide +kernel, by decide +kernel⟩, fun _ _ _ _ _ _ us hl => match us, hl with | [_, _], _ => rfl, rfl, rfl, by decide +kernel⟩
theorem dt_2722 : DefT gL "has_no_counts" (topS 40) F2722 ["r", "word"] ["r", "word"] := ⟨⟨rfl, rfl, rfl, by decide +kernel, rfl, by decide +kernel, by decide +kernel⟩, fun _ _ _ _ _ _ us hl => match us, hl with | [_, _], _ => rfl, rfl, rfl, by decide +kernel⟩
theorem dt_2723 : DefT gL "conjugate" (topS 41) F2723 ["r", "word", "other"] ["r", "word", "other"] := ⟨⟨rfl, rfl, rfl, by decide +kernel, rfl, by decide +kernel, by decide +kernel⟩, fun _ _ _ _ _ _ us hl => match us, hl with | [_, _, _], _ => rfl, rfl, rfl, by decide +kernel⟩
theorem dt_2724 : DefT gL "round_rule" (topS 42) F2724 ["r", "words", "one", "two", "third"] ["r", "words"] := ⟨⟨rfl, rfl, rfl, by decide +kernel, rfl, by decide +kernel, by decide +kernel⟩, fun _ _ _ _ _ _ us hl => match us, hl with | [_, _], _ => rfl, rfl, rfl, by decide +kernel⟩
theorem dt_0 : DefT gL "_law_dice" (topS 44) F0 ["script", "spot", "cell", "left"] ["script", "spot"] := ⟨⟨rfl, rfl, rfl, by decide +kernel, rfl, by decide +kernel, by decide +kernel⟩, fun _ _ _ _ _ _ us hl => match us, hl with | [_, _], _ => rfl, rfl, rfl, by decide +kernel⟩
theorem dt_1 : DefT gL "_law_roll" (topS 45) F1 ["dice", "total", "one", "two", "found"] ["dice", "total"] := ⟨⟨rfl, rfl, rfl, by decide +kernel, rfl, by decide +kernel, by decide +kernel⟩, fun _ _ _ _ _ _ us hl => match us, hl with | [_, _], _ => rfl, rfl, rfl, by decide +kernel⟩
theorem dt_2 : DefT gL "_law_pick" (topS 46) F2 ["dice", "items"] ["dice", "items"] := ⟨⟨rfl, rfl, rfl, by decide +kernel, rfl, by decide +kernel, by decide +kernel⟩, fun _ _ _ _ _ _ us hl => match us, hl with | [_, _], _ => rfl, rfl, rfl, by decide +kernel⟩
theorem dt_39 : DefT gL "_law_letters" (topS 47) F39 ["r", "found", "a"] ["r"] := ⟨⟨rfl, rfl, rfl, by decide +kernel, rfl, by decide +kernel, by decide +kernel⟩, fun _ _ _ _ _ _ us hl => match us, hl with | [_], _ => rfl, rfl, rfl, by decide +kernel⟩
theorem dt_40 : DefT gL "_law_short" (topS 48) F40 ["word", "found", "letter"] ["word"] := ⟨⟨rfl, rfl, rfl, by decide +kernel, rfl, by decide +kernel, by decide +kernel⟩, fun _ _ _ _ _ _ us hl => match us, hl with | [_], _ => rfl, rfl, rfl, by decide +kernel⟩
theorem dt_41 : DefT gL "_law_undone" (topS 49) F41 ["word", "letter"] ["word"] := ⟨⟨rfl, rfl, rfl, by decide +kernel, rfl, by decide +kernel, by decide +kernel⟩, fun _ _ _ _ _ _ us hl => match us, hl with | [_], _ => rfl, rfl, rfl, by decide +kernel⟩
theorem dt_42 : DefT gL "_law_product" (topS 50) F42 ["words", "found", "word"] ["words"] := ⟨⟨rfl, rfl, rfl, by decide +kernel, rfl, by decide +kernel, by decide +kernel⟩, fun _ _ _ _ _ _ us hl => match us, hl with | [_], _ => rfl, rfl, rfl, by decide +kernel⟩
theorem dt_43 : DefT gL "_law_word" (topS 51) F43 ["dice", "r", "most", "at"] ["dice", "r", "most"] := ⟨⟨rfl, rfl, rfl, by decide +kernel, rfl, by decide +kernel, by decide +kernel⟩, fun _ _ _ _ _ _ us hl => match us, hl with | [_, _, _], _ => rfl, rfl, rfl, by decide +kernel⟩
theorem dt_2725 : DefT gL "_law_br_bracket" (topS 52) F2725 ["one", "other"] ["one", "other"] := ⟨⟨rfl, rfl, rfl, by decide +kernel, rfl, by decide +kernel, by decide +kernel⟩, fun _ _ _ _ _ _ us hl => match us, hl with | [_, _], _ => rfl, rfl, rfl, by decide +kernel⟩
theorem dt_2726 : DefT gL "_law_br_counts" (topS 53) F2726 ["r", "word", "a", "one"] ["r", "word"] := ⟨⟨rfl, rfl, rfl, by decide +kernel, rfl, by decide +kernel, by decide +kernel⟩, fun _ _ _ _ _ _ us hl => match us, hl with | [_, _], _ => rfl, rfl, rfl, by decide +kernel⟩
theorem dt_2727 : DefT gL "_law_row_of" (topS 54) F2727 ["words", "found", "word"] ["words"] := ⟨⟨rfl, rfl, rfl, by decide +kernel, rfl, by decide +kernel, by decide +kernel⟩, fun _ _ _ _ _ _ us hl => match us, hl with | [_], _ => rfl, rfl, rfl, by decide +kernel⟩
theorem dt_2728 : DefT gL "_law_right" (topS 55) F2728 ["dice", "r", "told", "words", "word", "x", "y", "z", "turn"] ["dice"] := ⟨⟨rfl, rfl, rfl, by decide +kernel, rfl, by decide +kernel, by decide +kernel⟩, fun _ _ _ _ _ _ us hl => match us, hl with | [_], _ => rfl, rfl, rfl, by decide +kernel⟩
theorem dt_2729 : DefT gL "law" (topS 56) F2729 ["script", "spot", "told", "dice", "turn"] ["script"] := ⟨⟨rfl, rfl, rfl, by decide +kernel, rfl, by decide +kernel, by decide +kernel⟩, fun _ _ _ _ _ _ us hl => match us, hl with | [_], _ => rfl, rfl, rfl, by decide +kernel⟩
theorem all_mk {w : World} {K : PySem.W.Frag} {h : Heap} {mg : Str → Option Value} {fa : Addr} (X : K.In h) (G : h.Ns mainGlobals mg) (hfa : mg "law" = some (.ref fa))
    {f0 f1 f2 f3 f4 f5 f6 f7 f8 f9 f10 f11 f12 f13 f14 f15 f16 f17 f18 f19 f20 f21 f22 f23 f24 f25 f26 f27 f28 f29 f30 f31 f32 f33 f34 f35 f36 f37 f38 f39 f40 : Addr}
    {u0 u1 u2 u3 u4 u5 : Value}
    (m0 : PySem.W.nsIn K mainGlobals "is_whole" = some (some (.ref f0))) (i0 : DefIn K "is_whole" (topS 8) f0)
    (m1 : PySem.W.nsIn K mainGlobals "is_near" = some (some (.ref f1))) (i1 : DefIn K "is_near" (topS 9) f1)
    (m2 : PySem.W.nsIn K mainGlobals "is_within" = some (some (.ref f2))) (i2 : DefIn K "is_within" (topS 10) f2)
    (m3 : PySem.W.nsIn K mainGlobals "require_number" = some (some (.ref f3))) (i3 : DefIn K "require_number" (topS 11) f3)
    (m4 : PySem.W.nsIn K mainGlobals "is_letter_in" = some (some (.ref f4))) (i4 : DefIn K "is_letter_in" (topS 16) f4)
    (m5 : PySem.W.nsIn K mainGlobals "is_word_in" = some (some (.ref f5))) (i5 : DefIn K "is_word_in" (topS 17) f5)
    (m6 : PySem.W.nsIn K mainGlobals "are_words_in" = some (some (.ref f6))) (i6 : DefIn K "are_words_in" (topS 18) f6)
    (m7 : PySem.W.nsIn K mainGlobals "shortened_in" = some (some (.ref f7))) (i7 : DefIn K "shortened_in" (topS 19) f7)
    (m8 : PySem.W.nsIn K mainGlobals "undone_in" = some (some (.ref f8))) (i8 : DefIn K "undone_in" (topS 20) f8)
    (m9 : PySem.W.nsIn K mainGlobals "product_in" = some (some (.ref f9))) (i9 : DefIn K "product_in" (topS 21) f9)
    (m10 : PySem.W.nsIn K mainGlobals "counts_in" = some (some (.ref f10))) (i10 : DefIn K "counts_in" (topS 22) f10)
    (m11 : PySem.W.nsIn K mainGlobals "require_letters" = some (some (.ref f11))) (i11 : DefIn K "require_letters" (topS 23) f11)
    (m12 : PySem.W.nsIn K mainGlobals "require_word" = some (some (.ref f12))) (i12 : DefIn K "require_word" (topS 24) f12)
    (m13 : PySem.W.nsIn K mainGlobals "require_words" = some (some (.ref f13))) (i13 : DefIn K "require_words" (topS 25) f13)
    (m14 : PySem.W.nsIn K mainGlobals "require_told_word" = some (some (.ref f14))) (i14 : DefIn K "require_told_word" (topS 26) f14)
    (m15 : PySem.W.nsIn K mainGlobals "require_two_words" = some (some (.ref f15))) (i15 : DefIn K "require_two_words" (topS 27) f15)
    (m16 : PySem.W.nsIn K mainGlobals "require_told_words" = some (some (.ref f16))) (i16 : DefIn K "require_told_words" (topS 28) f16)
    (m17 : PySem.W.nsIn K mainGlobals "bracket_in" = some (some (.ref f17))) (i17 : DefIn K "bracket_in" (topS 32) f17)
    (m18 : PySem.W.nsIn K mainGlobals "turned_word" = some (some (.ref f18))) (i18 : DefIn K "turned_word" (topS 33) f18)
    (m19 : PySem.W.nsIn K mainGlobals "has_no_counts_in" = some (some (.ref f19))) (i19 : DefIn K "has_no_counts_in" (topS 34) f19)
    (m20 : PySem.W.nsIn K mainGlobals "row_of_brackets" = some (some (.ref f20))) (i20 : DefIn K "row_of_brackets" (topS 35) f20)
    (m21 : PySem.W.nsIn K mainGlobals "plain_bracket" = some (some (.ref f21))) (i21 : DefIn K "plain_bracket" (topS 36) f21)
    (m22 : PySem.W.nsIn K mainGlobals "rule_part" = some (some (.ref f22))) (i22 : DefIn K "rule_part" (topS 37) f22)
    (m23 : PySem.W.nsIn K mainGlobals "bracket" = some (some (.ref f23))) (i23 : DefIn K "bracket" (topS 38) f23)
    (m24 : PySem.W.nsIn K mainGlobals "bracket_row" = some (some (.ref f24))) (i24 : DefIn K "bracket_row" (topS 39) f24)
    (m25 : PySem.W.nsIn K mainGlobals "has_no_counts" = some (some (.ref f25))) (i25 : DefIn K "has_no_counts" (topS 40) f25)
    (m26 : PySem.W.nsIn K mainGlobals "conjugate" = some (some (.ref f26))) (i26 : DefIn K "conjugate" (topS 41) f26)
    (m27 : PySem.W.nsIn K mainGlobals "round_rule" = some (some (.ref f27))) (i27 : DefIn K "round_rule" (topS 42) f27)
    (m28 : PySem.W.nsIn K mainGlobals "_law_dice" = some (some (.ref f28))) (i28 : DefIn K "_law_dice" (topS 44) f28)
    (m29 : PySem.W.nsIn K mainGlobals "_law_roll" = some (some (.ref f29))) (i29 : DefIn K "_law_roll" (topS 45) f29)
    (m30 : PySem.W.nsIn K mainGlobals "_law_pick" = some (some (.ref f30))) (i30 : DefIn K "_law_pick" (topS 46) f30)
    (m31 : PySem.W.nsIn K mainGlobals "_law_letters" = some (some (.ref f31))) (i31 : DefIn K "_law_letters" (topS 47) f31)
    (m32 : PySem.W.nsIn K mainGlobals "_law_short" = some (some (.ref f32))) (i32 : DefIn K "_law_short" (topS 48) f32)
    (m33 : PySem.W.nsIn K mainGlobals "_law_undone" = some (some (.ref f33))) (i33 : DefIn K "_law_undone" (topS 49) f33)
    (m34 : PySem.W.nsIn K mainGlobals "_law_product" = some (some (.ref f34))) (i34 : DefIn K "_law_product" (topS 50) f34)
    (m35 : PySem.W.nsIn K mainGlobals "_law_word" = some (some (.ref f35))) (i35 : DefIn K "_law_word" (topS 51) f35)
    (m36 : PySem.W.nsIn K mainGlobals "_law_br_bracket" = some (some (.ref f36))) (i36 : DefIn K "_law_br_bracket" (topS 52) f36)
    (m37 : PySem.W.nsIn K mainGlobals "_law_br_counts" = some (some (.ref f37))) (i37 : DefIn K "_law_br_counts" (topS 53) f37)
    (m38 : PySem.W.nsIn K mainGlobals "_law_row_of" = some (some (.ref f38))) (i38 : DefIn K "_law_row_of" (topS 54) f38)
    (m39 : PySem.W.nsIn K mainGlobals "_law_right" = some (some (.ref f39))) (i39 : DefIn K "_law_right" (topS 55) f39)
    (m40 : PySem.W.nsIn K mainGlobals "law" = some (some (.ref f40))) (i40 : DefIn K "law" (topS 56) f40)
    (c0 : PySem.W.nsIn K mainGlobals "FAR" = some (some u0)) (r0 : RelV (.int 1000000000000000000000000000000000000000000000000000000000000) u0)
    (c1 : PySem.W.nsIn K mainGlobals "MOST_LONG_words" = some (some u1)) (r1 : RelV (.int 400) u1)
    (c2 : PySem.W.nsIn K mainGlobals "MOST_WORDS" = some (some u2)) (r2 : RelV (.int 20) u2)
    (c3 : PySem.W.nsIn K mainGlobals "MOST_RANK" = some (some u3)) (r3 : RelV (.int 4) u3)
    (c4 : PySem.W.nsIn K mainGlobals "MOST_LONG_brackets" = some (some u4)) (r4 : RelV (.int 400) u4)
    (c5 : PySem.W.nsIn K mainGlobals "THREE" = some (some u5)) (r5 : RelV (.int 3) u5)
    (b : ∀ x ∈ biNames, PySem.W.nsIn K mainGlobals x = some none) :
    ∃ (fd : FuncData) (x : Str) (sp : Sp), (∀ (s : Shared) (u : Value), BindsTo s fd ⟨[u], []⟩ [(x, u)]) ∧ (∀ base : Heap, K.In base → base.Ns mainGlobals mg → FnG PySem.Challenge.rw_undonewords_k53_whole_brackets_and_rules.prog w K mg base 10 fa fd [x] sp) ∧
        ∀ (H : Hp) (a : Addr) (ns : List Int), ns.length ≤ 63 → Only H → SqL K H a (ns.map V.int) → sp [.ref a] H (fun v _ => v = .bl true) fun _ _ _ => False :=
  end_of (T := GT) (con := GC) (es := esL) (as := [f0, f1, f2, f3, f4, f5, f6, f7, f8, f9, f10, f11, f12, f13, f14, f15, f16, f17, f18, f19, f20, f21, f22, f23, f24, f25, f26, f27, f28, f29, f30, f31, f32, f33, f34, f35, f36, f37, f38, f39, f40]) (cs := csL) (fuel := GF) (fl := 2729) (lw := "law") (.cons i0 dt_12 (PySem.W.mg_of X G m0) rfl (.cons i1 dt_13 (PySem.W.mg_of X G m1) rfl (.cons i2 dt_14 (PySem.W.mg_of X G m2) rfl (.cons i3 dt_15 (PySem.W.mg_of X G m3) rfl (.cons i4 dt_16 (PySem.W.mg_of X G m4) rfl (.cons i5 dt_17 (PySem.W.mg_of X G m5) rfl (.cons i6 dt_18 (PySem.W.mg_of X G m6) rfl (.cons i7 dt_20 (PySem.W.mg_of X G m7) rfl (.cons i8 dt_21 (PySem.W.mg_of X G m8) rfl (.cons i9 dt_22 (PySem.W.mg_of X G m9) rfl (.cons i10 dt_24 (PySem.W.mg_of X G m10) rfl (.cons i11 dt_25 (PySem.W.mg_of X G m11) rfl (.cons i12 dt_26 (PySem.W.mg_of X G m12) rfl (.cons i13 dt_27 (PySem.W.mg_of X G m13) rfl (.cons i14 dt_28 (PySem.W.mg_of X G m14) rfl (.cons i15 dt_29 (PySem.W.mg_of X G m15) rfl (.cons i16 dt_30 (PySem.W.mg_of X G m16) rfl (.cons i17 dt_2714 (PySem.W.mg_of X G m17) rfl (.cons i18 dt_2715 (PySem.W.mg_of X G m18) rfl (.cons i19 dt_2716 (PySem.W.mg_of X G m19) rfl (.cons i20 dt_2717 (PySem.W.mg_of X G m20) rfl (.cons i21 dt_2718 (PySem.W.mg_of X G m21) rfl (.cons i22 dt_2719 (PySem.W.mg_of X G m22) rfl (.cons i23 dt_2720 (PySem.W.mg_of X G m23) rfl (.cons i24 dt_2721 (PySem.W.mg_of X G m24) rfl (.cons i25 dt_2722 (PySem.W.mg_of X G m25) rfl (.cons i26 dt_2723 (PySem.W.mg_of X G m26) rfl (.cons i27 dt_2724 (PySem.W.mg_of X G m27) rfl (.cons i28 dt_0 (PySem.W.mg_of X G m28) rfl (.cons i29 dt_1 (PySem.W.mg_of X G m29) rfl (.cons i30 dt_2 (PySem.W.mg_of X G m30) rfl (.cons i31 dt_39 (PySem.W.mg_of X G m31) rfl (.cons i32 dt_40 (PySem.W.mg_of X G m32) rfl (.cons i33 dt_41 (PySem.W.mg_of X G m33) rfl (.cons i34 dt_42 (PySem.W.mg_of X G m34) rfl (.cons i35 dt_43 (PySem.W.mg_of X G m35) rfl (.cons i36 dt_2725 (PySem.W.mg_of X G m36) rfl (.cons i37 dt_2726 (PySem.W.mg_of X G m37) rfl (.cons i38 dt_2727 (PySem.W.mg_of X G m38) rfl (.cons i39 dt_2728 (PySem.W.mg_of X G m39) rfl (.cons i40 dt_2729 (PySem.W.mg_of X G m40) rfl (.nil)))))))))))))))))))))))))))))))))))))))))) (.cons (p := .int 1000000000000000000000000000000000000000000000000000000000000) (v := .int 1000000000000000000000000000000000000000000000000000000000000) (PySem.W.mg_of X G c0) r0 (fun _ _ => by simp [RV]) rfl (.cons (p := .int 400) (v := .int 400) (PySem.W.mg_of X G c1) r1 (fun _ _ => by simp [RV]) rfl (.cons (p := .int 20) (v := .int 20) (PySem.W.mg_of X G c2) r2 (fun _ _ => by simp [RV]) rfl (.cons (p := .int 4) (v := .int 4) (PySem.W.mg_of X G c3) r3 (fun _ _ => by simp [RV]) rfl (.cons (p := .int 400) (v := .int 400) (PySem.W.mg_of X G c4) r4 (fun _ _ => by simp [RV]) rfl (.cons (p := .int 3) (v := .int 3) (PySem.W.mg_of X G c5) r5 (fun _ _ => by simp [RV]) rfl (.nil))))))) (bi_of b X G) rfl hfa rfl rfl law_true
end Pi
open PySem PySem.W PyProof.Rows
set_option maxHeartbeats 0 in
theorem PySem.Challenge.cw_undonewords_k53_whole_brackets_and_rules_holds : PySem.Challenge.rw_undonewords_k53_whole_brackets_and_rules.Holds := by
  w_on; o_law; k_head; (case hw => w_witness2)
  k_fill
  refine Pi.walk_ofG (l := PySem.Challenge.rw_undonewords_k53_whole_brackets_and_rules) (n := 63) (k := 10) rfl (by decide) rfl ⟨rfl, by decide, by decide⟩ (fun w h Y => PySem.W.kIn_of Y) ?F
  case F =>
    intro w mg fa h KX G hmg
    refine' Pi.all_mk KX G hmg ?m0 (.mk' ?l0 ?c0 ?k0) ?m1 (.mk' ?l1 ?c1 ?k1) ?m2 (.mk' ?l2 ?c2 ?k2) ?m3 (.mk' ?l3 ?c3 ?k3) ?m4 (.mk' ?l4 ?c4 ?k4) ?m5 (.mk' ?l5 ?c5 ?k5) ?m6 (.mk' ?l6 ?c6 ?k6) ?m7 (.mk' ?l7 ?c7 ?k7) ?m8 (.mk' ?l8 ?c8 ?k8) ?m9 (.mk' ?l9 ?c9 ?k9) ?m10 (.mk' ?l10 ?c10 ?k10) ?m11 (.mk' ?l11 ?c11 ?k11) ?m12 (.mk' ?l12 ?c12 ?k12) ?m13 (.mk' ?l13 ?c13 ?k13) ?m14 (.mk' ?l14 ?c14 ?k14) ?m15 (.mk' ?l15 ?c15 ?k15) ?m16 (.mk' ?l16 ?c16 ?k16) ?m17 (.mk' ?l17 ?c17 ?k17) ?m18 (.mk' ?l18 ?c18 ?k18) ?m19 (.mk' ?l19 ?c19 ?k19) ?m20 (.mk' ?l20 ?c20 ?k20) ?m21 (.mk' ?l21 ?c21 ?k21) ?m22 (.mk' ?l22 ?c22 ?k22) ?m23 (.mk' ?l23 ?c23 ?k23) ?m24 (.mk' ?l24 ?c24 ?k24) ?m25 (.mk' ?l25 ?c25 ?k25) ?m26 (.mk' ?l26 ?c26 ?k26) ?m27 (.mk' ?l27 ?c27 ?k27) ?m28 (.mk' ?l28 ?c28 ?k28) ?m29 (.mk' ?l29 ?c29 ?k29) ?m30 (.mk' ?l30 ?c30 ?k30) ?m31 (.mk' ?l31 ?c31 ?k31) ?m32 (.mk' ?l32 ?c32 ?k32) ?m33 (.mk' ?l33 ?c33 ?k33) ?m34 (.mk' ?l34 ?c34 ?k34) ?m35 (.mk' ?l35 ?c35 ?k35) ?m36 (.mk' ?l36 ?c36 ?k36) ?m37 (.mk' ?l37 ?c37 ?k37) ?m38 (.mk' ?l38 ?c38 ?k38) ?m39 (.mk' ?l39 ?c39 ?k39) ?m40 (.mk' ?l40 ?c40 ?k40) ?u0 ?r0 ?u1 ?r1 ?u2 ?r2 ?u3 ?r3 ?u4 ?r4 ?u5 ?r5 ?b
    (case m0 => k_is); (case l0 => k_is); (case c0 => k_is); (case k0 => k_is); (case m1 => k_is); (case l1 => k_is); (case c1 => k_is); (case k1 => k_is)
    (case m2 => k_is); (case l2 => k_is); (case c2 => k_is); (case k2 => k_is); (case m3 => k_is); (case l3 => k_is); (case c3 => k_is); (case k3 => k_is)
    (case m4 => k_is); (case l4 => k_is); (case c4 => k_is); (case k4 => k_is); (case m5 => k_is); (case l5 => k_is); (case c5 => k_is); (case k5 => k_is)
    (case m6 => k_is); (case l6 => k_is); (case c6 => k_is); (case k6 => k_is); (case m7 => k_is); (case l7 => k_is); (case c7 => k_is); (case k7 => k_is)
    (case m8 => k_is); (case l8 => k_is); (case c8 => k_is); (case k8 => k_is); (case m9 => k_is); (case l9 => k_is); (case c9 => k_is); (case k9 => k_is)
    (case m10 => k_is); (case l10 => k_is); (case c10 => k_is); (case k10 => k_is); (case m11 => k_is); (case l11 => k_is); (case c11 => k_is); (case k11 => k_is)
    (case m12 => k_is); (case l12 => k_is); (case c12 => k_is); (case k12 => k_is); (case m13 => k_is); (case l13 => k_is); (case c13 => k_is); (case k13 => k_is)
    (case m14 => k_is); (case l14 => k_is); (case c14 => k_is); (case k14 => k_is); (case m15 => k_is); (case l15 => k_is); (case c15 => k_is); (case k15 => k_is)
    (case m16 => k_is); (case l16 => k_is); (case c16 => k_is); (case k16 => k_is); (case m17 => k_is); (case l17 => k_is); (case c17 => k_is); (case k17 => k_is)
    (case m18 => k_is); (case l18 => k_is); (case c18 => k_is); (case k18 => k_is); (case m19 => k_is); (case l19 => k_is); (case c19 => k_is); (case k19 => k_is)
    (case m20 => k_is); (case l20 => k_is); (case c20 => k_is); (case k20 => k_is); (case m21 => k_is); (case l21 => k_is); (case c21 => k_is); (case k21 => k_is)
    (case m22 => k_is); (case l22 => k_is); (case c22 => k_is); (case k22 => k_is); (case m23 => k_is); (case l23 => k_is); (case c23 => k_is); (case k23 => k_is)
    (case m24 => k_is); (case l24 => k_is); (case c24 => k_is); (case k24 => k_is); (case m25 => k_is); (case l25 => k_is); (case c25 => k_is); (case k25 => k_is)
    (case m26 => k_is); (case l26 => k_is); (case c26 => k_is); (case k26 => k_is); (case m27 => k_is); (case l27 => k_is); (case c27 => k_is); (case k27 => k_is)
    (case m28 => k_is); (case l28 => k_is); (case c28 => k_is); (case k28 => k_is); (case m29 => k_is); (case l29 => k_is); (case c29 => k_is); (case k29 => k_is)
    (case m30 => k_is); (case l30 => k_is); (case c30 => k_is); (case k30 => k_is); (case m31 => k_is); (case l31 => k_is); (case c31 => k_is); (case k31 => k_is)
    (case m32 => k_is); (case l32 => k_is); (case c32 => k_is); (case k32 => k_is); (case m33 => k_is); (case l33 => k_is); (case c33 => k_is); (case k33 => k_is)
    (case m34 => k_is); (case l34 => k_is); (case c34 => k_is); (case k34 => k_is); (case m35 => k_is); (case l35 => k_is); (case c35 => k_is); (case k35 => k_is)
    (case m36 => k_is); (case l36 => k_is); (case c36 => k_is); (case k36 => k_is); (case m37 => k_is); (case l37 => k_is); (case c37 => k_is); (case k37 => k_is)
    (case m38 => k_is); (case l38 => k_is); (case c38 => k_is); (case k38 => k_is); (case m39 => k_is); (case l39 => k_is); (case c39 => k_is); (case k39 => k_is)
    (case m40 => k_is); (case l40 => k_is); (case c40 => k_is); (case k40 => k_is); (case u0 => k_is); (case r0 => exact ⟨_, rfl⟩); (case u1 => k_is); (case r1 => exact ⟨_, rfl⟩)
    (case u2 => k_is); (case r2 => exact ⟨_, rfl⟩); (case u3 => k_is); (case r3 => exact ⟨_, rfl⟩); (case u4 => k_is); (case r4 => exact ⟨_, rfl⟩); (case u5 => k_is); (case r5 => exact ⟨_, rfl⟩)
    case b =>
      intro x hx
      simp only [Pi.biNames, List.mem_cons, List.not_mem_nil, or_false] at hx
      rcases hx with hx | hx | hx | hx | hx | hx | hx | hx | hx | hx | hx | hx | hx | hx | hx | hx | hx <;> subst hx <;> k_is
