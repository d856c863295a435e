import PyProof.Rows.All
import Wide.All
import OpenK.AllK
import Wide.FinOn
import HandS.ForMost
import HandS.Exc
import HandS.TryOnly
import HandS.ExcOwn
import HandS.ExcIs
import HandS.WordsExc
import HandS.Flow
import HandS.Walk
import HandS.EndBits
import HandS.TupAny
import HandS.IsInst
import HandS.Gcd
import HandS.Conv
import HandS.Deep
import HandS.Strs
import HandS.SortInts
import KE.SortData
import KE.KMathG
import KE.KSortedM
import PyProof.Rows.SortShellAny
import PyProof.TupleOfSeq
import KE.GoesMore
import HandS.Style
import HandS.Zip
import PySem.Challenge.RW_enoughunseen_k03_graphs_and_relabelling
set_option Elab.async false
set_option linter.all false
set_option maxRecDepth 100000
set_option maxHeartbeats 8000000
/-! Values without addresses, an intermediate form of the program's text, and its evaluation as plain functions. -/
namespace BV
open PySem

/-- a value as a tree: tuples and lists hold their items -/
inductive T where
  | non | bl (b : Bool) | int (i : Int) | str (x : Str) | tup (xs : List T) | lst (xs : List T)
  /-- a list that is only read (the script) -/
  | scr (xs : List T)
  /-- a pair that a walk makes: to be taken apart at once -/
  | pair (xs : List T)

mutual
/-- holds no list -/
def T.flat : T → Bool
  | .lst _ => false | .scr _ => false
  | .tup xs => flatL xs
  | .pair xs => flatL xs
  | .non => true | .bl _ => true | .int _ => true | .str _ => true
def flatL : List T → Bool
  | [] => true
  | x :: xs => x.flat && flatL xs
end
mutual
def T.toD : T → PyData
  | .non => .none | .bl b => .bool b | .int i => .int i | .str x => .str x
  | .tup xs => .tuple (toDL xs) | .lst xs => .list (toDL xs) | .scr xs => .list (toDL xs) | .pair xs => .tuple (toDL xs)
def toDL : List T → List PyData
  | [] => []
  | x :: xs => x.toD :: toDL xs
end

inductive Res (α : Type) where
  | ok (a : α) | exc (c : Str) (fs : List (Str × T)) | stuck
def Res.bd {α β : Type} : Res α → (α → Res β) → Res β
  | .ok a, f => f a
  | .exc c fs, _ => .exc c fs
  | .stuck, _ => .stuck
/-- where no exception may pass -/
def Res.nox {α : Type} : Res α → Res α
  | .ok a => .ok a
  | _ => .stuck
@[simp] theorem bd_ok {α β : Type} (a : α) (f : α → Res β) : (Res.ok a).bd f = f a := rfl
@[simp] theorem bd_exc {α β : Type} (c fs) (f : α → Res β) : (Res.exc c fs : Res α).bd f = .exc c fs := rfl
@[simp] theorem bd_stuck {α β : Type} (f : α → Res β) : (Res.stuck : Res α).bd f = .stuck := rfl
@[simp] theorem nox_ok {α : Type} (a : α) : (Res.ok a).nox = .ok a := rfl

/-- a slot: a value whose lists are this call's own, any value, a list that this call alone holds and may change -/
inductive Sl where
  | val (t : T) | par (t : T) | own (xs : List T) | exn (c : Str) (fs : List (Str × T))
abbrev Env := List (Option Sl)
inductive K3 where | val | par | own
  deriving DecidableEq
def Sl.get : K3 → Sl → Res T
  | .val, .val t => .ok t
  | .par, .par t => .ok t
  | .own, .own xs => .ok (.lst xs)
  | _, _ => .stuck
def K3.mk : K3 → T → Option Sl
  | .val, t => some (.val t)
  | .par, t => some (.par t)
  | .own, _ => none

inductive Tg where
  | nm (k : K3) (i : Nat) | tp (ts : List Tg)
/-- what is walked -/
inductive Sk where | plain | rng1 | rng2 | rng3 | enum | zip | rev
  deriving DecidableEq
inductive Bi where
  | len | isi (ts : List String) | toInt | abs | min2 | max2 | fact | tupOf | listOf | listRng | sorted | all | any | sum | toStr | toBool
  deriving DecidableEq
inductive Me where
  /-- of a list, of a tuple -/
  | index | indexT
  deriving DecidableEq
inductive IE where
  | int (i : Int) | bl (b : Bool) | non | str (x : Str)
  | var (k : K3) (i : Nat)
  | gl (x : Str) (t : T)
  | bin (op : Operator) (a b : IE)
  | neg (a : IE)
  | cmp (op : CmpOp) (a b : IE)
  | cmp2 (op op' : CmpOp) (a b c : IE)
  | and (a b : IE) | or (a b : IE) | not (a : IE)
  | ite (c a b : IE)
  | tup (es : List IE) | lst (es : List IE)
  | idx (a i : IE)
  | slice (a : IE) (lo hi : List IE)
  /-- a[::-1]; a[:0:-1] -/
  | turn (cut : Bool) (a : IE)
  | call (f : Nat) (es : List IE)
  | bi (b : Bi) (es : List IE)
  | meth (m : Me) (a : IE) (es : List IE)
  | comp (tg : Tg) (elt : IE) (sk : Sk) (ses : List IE) (ifs : List IE)
  /-- [elt for tg in .. if .. for tg2 in .. if ..] -/
  | comp2 (tg : Tg) (sk : Sk) (ses ifs : List IE) (tg2 : Tg) (sk2 : Sk) (ses2 ifs2 : List IE) (elt : IE)
  | chk (a : IE)
  /-- isinstance(e, X): e the handled exception, its class looked up -/
  | isE (i : Nat) (cls : Str) (tab : List (Str × Bool))

/-! ### operations on values -/
def truth : T → Option Bool
  | .non => some false
  | .bl b => some b
  | .int i => some (i != 0)
  | .str x => if x.length ≤ sizeLine then some ((x.length : Int) != 0) else none
  | .tup xs => some (!xs.isEmpty)
  | .lst xs => some (!xs.isEmpty)
  | .scr xs => some (!xs.isEmpty)
  | .pair xs => some (!xs.isEmpty)
def mulOk (i j : Int) : Prop := i.natAbs < 18446744073709551616 ∨ j.natAbs < 18446744073709551616
instance (i j : Int) : Decidable (mulOk i j) := inferInstanceAs (Decidable (_ ∨ _))
theorem mulOk.c {i j : Int} (h : mulOk i j) : L2.CMul i j := by
  rcases h with h | h
  · exact .inl ⟨by omega, by omega⟩
  · exact .inr ⟨by omega, by omega⟩
def repOk (k : Int) : Prop := k.natAbs < 9223372036854775808
instance (k : Int) : Decidable (repOk k) := inferInstanceAs (Decidable (_ < _))
theorem repOk.c {k : Int} (h : repOk k) : -(2 ^ 63) ≤ k ∧ k < 2 ^ 63 := by
  have h' : k.natAbs < 9223372036854775808 := h
  omega
def binT : Operator → T → T → Res T
  | .Add, .int i, .int j => .ok (.int (i + j))
  | .Sub, .int i, .int j => .ok (.int (i - j))
  | .Mult, .int i, .int j => if mulOk i j then .ok (.int (i * j)) else .stuck
  | .FloorDiv, .int i, .int j => if j ≠ 0 ∧ j.natAbs < 1073741824 then .ok (.int (i.fdiv j)) else .stuck
  | .Mod, .int i, .int j => if j ≠ 0 then .ok (.int (i.fmod j)) else .stuck
  | .Add, .lst xs, .lst ys => if (xs ++ ys).length ≤ sizeLine then .ok (.lst (xs ++ ys)) else .stuck
  | .Add, .tup xs, .tup ys => if (xs ++ ys).length ≤ sizeLine then .ok (.tup (xs ++ ys)) else .stuck
  | .Mult, .lst xs, .int k => if repOk k ∧ xs.length * k.toNat ≤ sizeLine then .ok (.lst ((List.replicate k.toNat xs).flatten)) else .stuck
  | _, _, _ => .stuck
def negT : T → Res T
  | .int i => .ok (.int (-i))
  | _ => .stuck
def isScal : T → Bool
  | .non => true | .bl _ => true | .int _ => true | .str _ => true | _ => false
/-- == of two values -/
def eqT : T → T → Res Bool
  | .int i, .int j => .ok (decide (i = j))
  | .str x, .str y => .ok (decide (x = y))
  | .bl x, .bl y => .ok (decide (x = y))
  | a, b => if SeqAt.shaped a.toD ∧ SeqAt.shaped b.toD then .ok (PyData.eqv a.toD b.toD) else .stuck
def isNone : T → Bool
  | .non => true
  | _ => false
def listOf? : T → Option (List T)
  | .lst xs => some xs
  | .tup xs => some xs
  | .scr xs => some xs
  | _ => none
/-- a in b, b a list or a tuple -/
def inT (a b : T) : Res Bool :=
  match listOf? b with
  | some xs => if SeqAt.shaped a.toD ∧ SeqAt.shaped b.toD then .ok ((toDL xs).any fun z => PyData.eqv z a.toD) else .stuck
  | none => .stuck
def cmpT : CmpOp → T → T → Res Bool
  | .Eq, a, b => eqT a b
  | .NotEq, a, b => (eqT a b).bd fun c => .ok (!c)
  | .Lt, .int i, .int j => .ok (decide (i < j))
  | .LtE, .int i, .int j => .ok (decide (i ≤ j))
  | .Gt, .int i, .int j => .ok (decide (j < i))
  | .GtE, .int i, .int j => .ok (decide (j ≤ i))
  | .Is, a, .non => .ok (isNone a)
  | .IsNot, a, .non => .ok (!isNone a)
  | .In, a, b => inT a b
  | .NotIn, a, b => (inT a b).bd fun c => .ok (!c)
  | _, _, _ => .stuck
/-- xs[i], i of any sign -/
abbrev atT {α : Type} (xs : List α) (i : Int) : Option α := L2.atI xs i
def idxT : T → T → Res T
  | .lst xs, .int i => match atT xs i with | some t => .ok t | none => .stuck
  | .tup xs, .int i => match atT xs i with | some t => .ok t | none => .stuck
  | .scr xs, .int i => match atT xs i with | some t => .ok t | none => .stuck
  | _, _ => .stuck
def cutT {α : Type} (xs : List α) (lo hi : Option Int) : List α := (xs.drop (HT.sIx xs.length 0 lo)).take (HT.sIx xs.length xs.length hi - HT.sIx xs.length 0 lo)
def sliceT (t : T) (lo hi : Option Int) : Res T :=
  match t with
  | .lst xs => .ok (.lst (cutT xs lo hi))
  | .tup xs => .ok (.tup (cutT xs lo hi))
  | _ => .stuck
def cutK {α : Type} (cut : Bool) (xs : List α) : List α := if cut = true then (xs.drop 1).reverse else xs.reverse
def turnT (cut : Bool) : T → Res T
  | .lst xs => .ok (.lst (cutK cut xs))
  | .tup xs => .ok (.tup (cutK cut xs))
  | _ => .stuck
def optInt : List T → Res (Option Int)
  | [] => .ok none
  | [.int i] => .ok (some i)
  | _ => .stuck
def ints? : List T → Option (List Int)
  | [] => some []
  | .int i :: xs => (ints? xs).map (i :: ·)
  | _ :: _ => none
def rangeL (lo : Int) (n : Nat) : List T := (List.range n).map fun (i : Nat) => T.int (lo + (i : Int))
def insInt (a : Int) : List Int → List Int
  | [] => [a]
  | b :: l => if a ≤ b then a :: b :: l else b :: insInt a l
def sortInt : List Int → List Int
  | [] => []
  | a :: l => insInt a (sortInt l)
/-- tuples that can be sorted -/
def sortOk (xs : List T) : Bool := (xs.all fun x => x.flat && SeqAt.shaped x.toD && xs.all fun y => PySem.W.alike x.toD y.toD) &&
  xs.all fun x => match x with
    | .tup (_ :: _) => true
    | _ => false
def sortT (xs : List T) : List T := xs.mergeSort (PySem.W.dataLe false T.toD)
def factN : Nat → Int
  | 0 => 1
  | n + 1 => (n + 1 : Int) * factN n
def tyName : T → String
  | .non => "NoneType" | .bl _ => "bool" | .int _ => "int" | .str _ => "str" | .tup _ => "tuple" | .lst _ => "list" | .scr _ => "list" | .pair _ => "tuple"
def isiT (x : T) (ty : String) : Bool := tyName x == ty || (tyName x == "bool" && ty == "int")
def biT : Bi → List T → Res T
  | .len, [.lst xs] => .ok (.int (xs.length : Nat))
  | .len, [.scr xs] => .ok (.int (xs.length : Nat))
  | .len, [.tup xs] => .ok (.int (xs.length : Nat))
  | .len, [.str x] => if x.length ≤ sizeLine then .ok (.int (x.length : Nat)) else .stuck
  | .isi ts, [x] => .ok (.bl (ts.any (isiT x)))
  | .toInt, [.int i] => .ok (.int i)
  | .toInt, [.bl b] => .ok (.int (if b then 1 else 0))
  | .abs, [.int i] => .ok (.int (if i < 0 then -i else i))
  | .min2, [.int i, .int j] => .ok (.int (if j < i then j else i))
  | .max2, [.int i, .int j] => .ok (.int (if j > i then j else i))
  | .fact, [.int i] => if 0 ≤ i ∧ i ≤ 20 then .ok (.int (factN i.toNat)) else .stuck
  | .tupOf, [.lst xs] => .ok (.tup xs)
  | .tupOf, [.tup xs] => .ok (.tup xs)
  | .listOf, [.lst xs] => .ok (.lst xs)
  | .listOf, [.tup xs] => .ok (.lst xs)
  | .listRng, [.int n] => if -(2 ^ 60) < n ∧ n ≤ sizeLine then .ok (.lst (rangeL 0 n.toNat)) else .stuck
  | .sorted, [x] => match (listOf? x).bind ints? with
    | some ns => if ns.length < 64 then .ok (.lst ((sortInt ns).map .int)) else .stuck
    | none => match x with
      | .lst xs => if sortOk xs = true then .ok (.lst (sortT xs)) else .stuck
      | _ => .stuck
  | _, _ => .stuck
/-- the first place of an equal one -/
def placeT (d : PyData) (xs : List T) : Option Nat := xs.findIdx? fun x => PyData.eqv x.toD d
/-- the receiver's kind -/
def recvOk : Me → T → Bool
  | .index, .lst _ => true
  | .indexT, .tup _ => true
  | _, _ => false
def meT : Me → T → List T → Res T
  | .index, .lst xs, [y] => if SeqAt.shaped y.toD ∧ SeqAt.shaped (T.lst xs).toD then (match placeT y.toD xs with | some j => .ok (.int (j : Nat)) | none => .stuck) else .stuck
  | .indexT, .tup xs, [y] => if SeqAt.shaped y.toD ∧ SeqAt.shaped (T.tup xs).toD then (match placeT y.toD xs with | some j => .ok (.int (j : Nat)) | none => .stuck) else .stuck
  | _, _, _ => .stuck
/-- the items that a walk gives -/
def itemsT : Sk → List T → Res (List T)
  | .plain, [.lst xs] => .ok xs
  | .plain, [.tup xs] => .ok xs
  | .rng1, [.int n] => if -(2 ^ 60) < n ∧ n ≤ sizeLine then .ok (rangeL 0 n.toNat) else .stuck
  | .rng2, [.int a, .int b] => if -(2 ^ 60) < a ∧ a < 2 ^ 60 ∧ b < 2 ^ 60 ∧ -(2 ^ 60) < b ∧ b - a ≤ sizeLine then .ok (rangeL a (b - a).toNat) else .stuck
  | .rng3, [.int a, .int b, .int c] => if c = -1 ∧ -(2 ^ 60) < b ∧ a < 2 ^ 60 ∧ b ≤ a ∧ a - b ≤ sizeLine then .ok ((List.range (a - b).toNat).map fun (i : Nat) => T.int (a - (i : Int))) else .stuck
  | .enum, [.lst xs] => .ok ((List.range xs.length).zip xs |>.map fun p => T.pair [.int (p.1 : Nat), p.2])
  | .enum, [.tup xs] => .ok ((List.range xs.length).zip xs |>.map fun p => T.pair [.int (p.1 : Nat), p.2])
  | .zip, [.lst xs, .lst ys] => if xs.length > sizeLine then .stuck else .ok ((xs.zip ys).map fun p => T.pair [p.1, p.2])
  | .zip, [.tup xs, .tup ys] => if xs.length > sizeLine then .stuck else .ok ((xs.zip ys).map fun p => T.pair [p.1, p.2])
  | _, _ => .stuck
def setEnv (ρ : Env) (i : Nat) (s : Sl) : Env := ρ.set i (some s)
mutual
def Tg.slots : Tg → List Nat
  | .nm _ i => [i]
  | .tp ts => slotsL ts
def slotsL : List Tg → List Nat
  | [] => []
  | g :: gs => g.slots ++ slotsL gs
end
def wipeE (ρ : Env) : List Nat → Env
  | [] => ρ
  | v :: vs => (wipeE ρ vs).set v none
mutual
def Tg.set : Tg → T → Env → Option Env
  | .nm k i, t, ρ => (k.mk t).map fun s => ρ.set i (some s)
  | .tp ts, .tup xs, ρ => setAll ts xs ρ
  | .tp ts, .pair xs, ρ => setAll ts xs ρ
  | .tp _, _, _ => none
def setAll : List Tg → List T → Env → Option Env
  | [], [], ρ => some ρ
  | g :: gs, x :: xs, ρ => match g.set x ρ with
    | some ρ' => setAll gs xs ρ'
    | none => none
  | _, _, _ => none
end
def compL (f : T → Res (Option T)) : List T → Res (List T)
  | [] => .ok []
  | x :: xs => (f x).bd fun o => (compL f xs).bd fun ys => .ok (match o with | some y => y :: ys | none => ys)
/-- of several turns, each with a list -/
def compJ (f : T → Res (List T)) : List T → Res (List T)
  | [] => .ok []
  | x :: xs => (f x).bd fun ys => (compJ f xs).bd fun zs => .ok (ys ++ zs)
def toSet {α : Type} : Option α → Res α
  | some a => .ok a
  | none => .stuck
def truthR (t : T) : Res Bool := toSet (truth t)
/-- a list of its own making -/
def freshE : IE → Bool
  | .lst _ => true | .comp .. => true | .call .. => true | .bi .. => true | .bin .. => true | .slice .. => true | .turn .. => true | .comp2 .. => true
  | .chk a => freshE a
  | _ => false
/-- a list of things that hold no list -/
def flatI : T → Bool
  | .lst xs => flatL xs
  | _ => false
mutual
def ev (cf : Nat → List T → Res T) : IE → Env → Res T
  | .int i, _ => .ok (.int i)
  | .bl b, _ => .ok (.bl b)
  | .non, _ => .ok .non
  | .str x, _ => .ok (.str x)
  | .var k i, ρ => match ρ[i]? with
    | some (some s) => s.get k
    | _ => .stuck
  | .gl _ t, _ => .ok t
  | .bin op a b, ρ => (ev cf a ρ).bd fun x => (ev cf b ρ).bd fun y => binT op x y
  | .neg a, ρ => (ev cf a ρ).bd negT
  | .cmp op a b, ρ => (ev cf a ρ).bd fun x => (ev cf b ρ).bd fun y => (cmpT op x y).bd fun c => .ok (.bl c)
  | .cmp2 op op' a b c, ρ => (ev cf a ρ).bd fun x => (ev cf b ρ).bd fun y => (cmpT op x y).bd fun k =>
      if k = true then (ev cf c ρ).bd fun z => (cmpT op' y z).bd fun k' => .ok (.bl k') else .ok (.bl false)
  | .and a b, ρ => (ev cf a ρ).bd fun x => (truthR x).bd fun k => if k = true then ev cf b ρ else .ok x
  | .or a b, ρ => (ev cf a ρ).bd fun x => (truthR x).bd fun k => if k = true then .ok x else ev cf b ρ
  | .not a, ρ => (ev cf a ρ).bd fun x => (truthR x).bd fun k => .ok (.bl (!k))
  | .ite c a b, ρ => (ev cf c ρ).bd fun x => (truthR x).bd fun k => if k = true then ev cf a ρ else ev cf b ρ
  | .tup es, ρ => (evs cf es ρ).bd fun ts => .ok (.tup ts)
  | .lst es, ρ => (evs cf es ρ).bd fun ts => .ok (.lst ts)
  | .idx a i, ρ => (ev cf a ρ).bd fun x => (ev cf i ρ).bd fun y => idxT x y
  | .slice a lo hi, ρ => (ev cf a ρ).bd fun x => (evs cf lo ρ).bd fun l => (optInt l).bd fun l' => (evs cf hi ρ).bd fun h => (optInt h).bd fun h' => sliceT x l' h'
  | .call f es, ρ => (evs cf es ρ).bd fun ts => cf f ts
  | .bi b es, ρ => (evs cf es ρ).bd fun ts => biT b ts
  | .meth m a es, ρ => (ev cf a ρ).bd fun x => if recvOk m x = true then (evs cf es ρ).bd fun ts => meT m x ts else .stuck
  | .comp tg elt sk ses ifs, ρ => (evs cf ses ρ).bd fun ts => (itemsT sk ts).bd fun xs =>
      ((compL (fun x => (toSet (tg.set x (wipeE ρ tg.slots))).bd fun ρ' => (evAll cf ifs ρ').bd fun k => if k = true then (ev cf elt ρ').bd fun y => .ok (some y) else .ok none) xs).nox).bd fun ys => .ok (.lst ys)
  | .turn cut a, ρ => (ev cf a ρ).bd (turnT cut)
  | .comp2 tg sk ses ifs tg2 sk2 ses2 ifs2 elt, ρ => (evs cf ses ρ).bd fun ts => (itemsT sk ts).bd fun xs =>
      ((compJ (fun x => (toSet (tg.set x (wipeE ρ (tg.slots ++ tg2.slots)))).bd fun ρ1 => (evAll cf ifs ρ1).bd fun k => if k = true then
          (evs cf ses2 ρ1).bd fun us => (itemsT sk2 us).bd fun ys =>
            compL (fun y => (toSet (tg2.set y (wipeE ρ1 tg2.slots))).bd fun ρ2 => (evAll cf ifs2 ρ2).bd fun k2 => if k2 = true then (ev cf elt ρ2).bd fun z => .ok (some z) else .ok none) ys
        else .ok []) xs).nox).bd fun zs => if zs.length ≤ sizeLine then .ok (.lst zs) else .stuck
  | .isE i _ tab, ρ => match ρ[i]? with
    | some (some (.exn c _)) => match tab.lookup c with
      | some b => .ok (.bl b)
      | none => .stuck
    | _ => .stuck
  | .chk a, ρ => (ev cf a ρ).bd fun x => if x.flat = true then .ok x else if (freshE a && flatI x) = true then .ok x else .stuck
def evs (cf : Nat → List T → Res T) : List IE → Env → Res (List T)
  | [], _ => .ok []
  | e :: es, ρ => (ev cf e ρ).bd fun x => (evs cf es ρ).bd fun xs => .ok (x :: xs)
/-- the tests of a comprehension -/
def evAll (cf : Nat → List T → Res T) : List IE → Env → Res Bool
  | [], _ => .ok true
  | e :: es, ρ => (ev cf e ρ).bd fun x => (truthR x).bd fun k => if k = true then evAll cf es ρ else .ok false
end

/-! ### statements -/
inductive IS where
  | asg (i : Nat) (e : IE) | asgP (i : Nat) (e : IE) | asgO (i : Nat) (e : IE)
  | asgT (tg : Tg) (e : IE)
  | asgPop (j i : Nat) (e : List IE)
  | aug (i : Nat) (op : Operator) (e : IE)
  | app (i : Nat) (e : IE)
  | appPop (i j : Nat) (e : List IE)
  | setI (i : Nat) (k e : IE)
  | rev (i : Nat)
  | ite (c : IE) (a b : List IS)
  | for (tg : Tg) (sk : Sk) (ses : List IE) (body : List IS)
  | while (c : IE) (body : List IS)
  | ret (e : IE) | retO (i : Nat) | retN
  | raise (c : Str)
  | try (body : List IS) (c : Str) (nm : Option Nat) (suite : List IS)
  | expr (e : IE)
  | pass | brk | cnt
  | freeze (i : Nat)
inductive Fl where
  | nx (ρ : Env) | rt (t : T) | bk (ρ : Env) | ct (ρ : Env) | ex (c : Str) (fs : List (Str × T)) (ρ : Env) | stuck
def Res.fl {α : Type} (r : Res α) (ρ : Env) (f : α → Fl) : Fl :=
  match r with
  | .ok a => f a
  | .exc c fs => .ex c fs ρ
  | .stuck => .stuck
@[simp] theorem fl_ok {α : Type} (a : α) (ρ : Env) (f : α → Fl) : (Res.ok a).fl ρ f = f a := rfl
@[simp] theorem fl_exc {α : Type} (c fs) (ρ : Env) (f : α → Fl) : (Res.exc c fs : Res α).fl ρ f = .ex c fs ρ := rfl
@[simp] theorem fl_stuck {α : Type} (ρ : Env) (f : α → Fl) : (Res.stuck : Res α).fl ρ f = .stuck := rfl
def ownAt (ρ : Env) (i : Nat) : Res (List T) :=
  match ρ[i]? with
  | some (some (.own xs)) => .ok xs
  | _ => .stuck
/-- where xs.pop(..) takes -/
def popAt (n : Nat) : List T → Option Nat
  | [] => if n = 0 then none else some (n - 1)
  | [.int i] => if n ≤ sizeLine then L2.ixN n i else none
  | _ => none
def popT (xs : List T) (ts : List T) : Res (T × List T) :=
  match popAt xs.length ts with
  | some k => match xs[k]? with
    | some x => .ok (x, xs.eraseIdx k)
    | none => .stuck
  | none => .stuck
def setT (xs : List T) (k : T) (x : T) : Res (List T) :=
  match k with
  | .int i => match L2.ixN xs.length i with
    | some j => .ok (xs.set j x)
    | none => .stuck
  | _ => .stuck
def forL (body : Env → Fl) (st : T → Env → Option Env) : List T → Env → Fl
  | [], ρ => .nx ρ
  | x :: xs, ρ => match st x ρ with
    | none => .stuck
    | some ρ1 => match body ρ1 with
      | .nx ρ2 => forL body st xs ρ2
      | .ct ρ2 => forL body st xs ρ2
      | .bk ρ2 => .nx ρ2
      | r => r
def whl (c : Env → Res Bool) (body : Env → Fl) : Nat → Env → Fl
  | 0, _ => .stuck
  | n + 1, ρ => (c ρ).fl ρ fun k => if k = true then (match body ρ with
      | .nx ρ2 => whl c body n ρ2
      | .ct ρ2 => whl c body n ρ2
      | .bk ρ2 => .nx ρ2
      | r => r) else .nx ρ
def wfuel : Nat := 1000000
def sub? (subs : List (Str × Str × Bool)) (a b : Str) : Option Bool := (subs.find? fun p => p.1 == a && p.2.1 == b).map fun p => p.2.2
/-- no exception may leave a suite -/
def unexc : Fl → Fl
  | .ex _ _ _ => .stuck
  | r => r
def noExn : Env → Bool
  | [] => true
  | some (.exn _ _) :: _ => false
  | _ :: ρ => noExn ρ
/-- no handled exception is kept -/
def cleanF : Fl → Fl
  | .nx ρ => if noExn ρ = true then .nx ρ else .stuck
  | .bk ρ => if noExn ρ = true then .bk ρ else .stuck
  | .ct ρ => if noExn ρ = true then .ct ρ else .stuck
  | r => r
/-- the clause's name goes -/
def forgetF (i : Nat) : Fl → Fl
  | .nx ρ => .nx (ρ.set i none)
  | .bk ρ => .bk (ρ.set i none)
  | .ct ρ => .ct (ρ.set i none)
  | r => r
/-- what an except clause makes of a body's end -/
def caught (sb : Str → Str → Option Bool) (c : Str) (nm : Option Nat) (suite : Env → Fl) : Fl → Fl
  | .ex c' [] ρ => match sb c' c with
      | some true => (match nm with
        | none => cleanF (unexc (suite ρ))
        | some i => cleanF (forgetF i (unexc (suite (ρ.set i (some (.exn c' [])))))))
      | some false => .ex c' [] ρ
      | none => .stuck
  | .ex _ (_ :: _) _ => .stuck
  | r => r
mutual
def ex (cf : Nat → List T → Res T) (sb : Str → Str → Option Bool) : IS → Env → Fl
  | .asg i e, ρ => (ev cf e ρ).fl ρ fun t => .nx (ρ.set i (some (.val t)))
  | .asgP i e, ρ => (ev cf e ρ).fl ρ fun t => .nx (ρ.set i (some (.par t)))
  | .asgO i e, ρ => (ev cf e ρ).fl ρ fun t => match t with
      | .lst xs => .nx (ρ.set i (some (.own xs)))
      | _ => .stuck
  | .asgT tg e, ρ => (ev cf e ρ).fl ρ fun t => match tg.set t ρ with
      | some ρ' => .nx ρ'
      | none => .stuck
  | .asgPop j i es, ρ => (ownAt ρ i).fl ρ fun xs => ((evs cf es ρ).bd (popT xs)).fl ρ fun p => .nx ((ρ.set i (some (.own p.2))).set j (some (.val p.1)))
  | .aug i op e, ρ => (ev cf (.var .val i) ρ).fl ρ fun x => (ev cf e ρ).fl ρ fun y => (binT op x y).fl ρ fun z => if isScal z = true then .nx (ρ.set i (some (.val z))) else .stuck
  | .app i e, ρ => (ownAt ρ i).fl ρ fun xs => (ev cf e ρ).fl ρ fun t => if xs.length < sizeLine then .nx (ρ.set i (some (.own (xs ++ [t])))) else .stuck
  | .appPop i j es, ρ => (ownAt ρ i).fl ρ fun _ => (ownAt ρ j).fl ρ fun ys => ((evs cf es ρ).bd (popT ys)).fl ρ fun p => (ownAt (ρ.set j (some (.own p.2))) i).fl (ρ.set j (some (.own p.2))) fun xs =>
      if xs.length < sizeLine then .nx ((ρ.set j (some (.own p.2))).set i (some (.own (xs ++ [p.1])))) else .stuck
  | .setI i k e, ρ => (ev cf e ρ).fl ρ fun t => (ownAt ρ i).fl ρ fun xs => (ev cf k ρ).fl ρ fun j => (setT xs j t).fl ρ fun ys => .nx (ρ.set i (some (.own ys)))
  | .rev i, ρ => (ownAt ρ i).fl ρ fun xs => .nx (ρ.set i (some (.own xs.reverse)))
  | .ite c a b, ρ => (ev cf c ρ).fl ρ fun x => (truthR x).fl ρ fun k => if k = true then exs cf sb a ρ else exs cf sb b ρ
  | .for tg sk ses body, ρ => (evs cf ses ρ).fl ρ fun ts => (itemsT sk ts).fl ρ fun xs => forL (exs cf sb body) tg.set xs ρ
  | .while c body, ρ => whl (fun ρ => (ev cf c ρ).bd truthR) (exs cf sb body) wfuel ρ
  | .ret e, ρ => (ev cf e ρ).fl ρ fun t => .rt t
  | .retO i, ρ => (ownAt ρ i).fl ρ fun xs => .rt (.lst xs)
  | .retN, _ => .rt .non
  | .raise c, ρ => .ex c [] ρ
  | .try body c nm suite, ρ => caught sb c nm (exs cf sb suite) (exs cf sb body ρ)
  | .expr e, ρ => (ev cf e ρ).fl ρ fun _ => .nx ρ
  | .pass, ρ => .nx ρ
  | .brk, ρ => .bk ρ
  | .cnt, ρ => .ct ρ
  | .freeze i, ρ => (ownAt ρ i).fl ρ fun xs => .nx (ρ.set i (some (.val (.lst xs))))
def exs (cf : Nat → List T → Res T) (sb : Str → Str → Option Bool) : List IS → Env → Fl
  | [], ρ => .nx ρ
  | s :: ss, ρ => match ex cf sb s ρ with
    | .nx ρ' => exs cf sb ss ρ'
    | r => r
end

/-- a def -/
structure Df where
  name : Str
  qual : Str
  ps : List Str
  N : List Str
  body : List IS
structure Pg where
  defs : List Df
  consts : List (Str × T)
  subs : List (Str × Str × Bool)
def Fl.res : Fl → Res T
  | .nx _ => .ok .non
  | .rt t => .ok t
  | .ex c fs _ => .exc c fs
  | _ => .stuck
def startE (n : Nat) (ts : List T) : Env := ts.map (fun t => some (.par t)) ++ List.replicate (n - ts.length) none
def callF (G : Pg) : Nat → Nat → List T → Res T
  | 0, _, _ => .stuck
  | n + 1, f, ts => match G.defs[f]? with
    | some d => if ts.length = d.ps.length then (exs (callF G n) (sub? G.subs) d.body (startE d.N.length ts)).res else .stuck
    | none => .stuck
end BV

/-! Tuples whose object is known to bear no dict of its own (so that their methods can be called). -/
namespace BV
open PySem PySem.Spec PyProof.Rows L2

def SqN (K : PySem.W.Frag) (H : Hp) (a : Addr) (xs : List V) : Prop :=
  (∃ o, H a = some (.frz o (.tup xs)) ∧ o.dict = none) ∨
    ∃ (o : Obj) (arr : Array Value) (n : Nat), K.lookup a = some o ∧ o.cls = .type "tuple" ∧ o.dict = none ∧ o.data = .seq arr n ∧ arr.size ≤ sizeLine ∧ Vals xs arr.toList
theorem SqN.sq {K : PySem.W.Frag} {H : Hp} {a : Addr} {xs : List V} (h : SqN K H a xs) : SqT K H a xs := by
  rcases h with ⟨o, h, _⟩ | ⟨o, arr, n, h1, h2, _, h4, h5, h6⟩
  · exact .inl (.inr ⟨o, h⟩)
  · exact .inr ⟨o, arr, n, h1, h2, h4, h5, h6⟩
/-- the wish for a new tuple -/
def NewT (H : Hp) (vs : List V) (Q : VK) : Prop := ∀ p o, H p = none → o.dict = none → Q (.ref p) (upd H p (.frz o (.tup vs)))
section
variable {X : Cx} {pins : List (Addr × Obj)} {σ : L2.St} {H : Hp} {s : Shared}
/-- a tuple is laid -/
theorem Inv.layT {h' : Heap} {p : Addr} {vs : List V} {arr : Array Value} {Q : VK} {t : Nat} (I : Inv X pins σ H s) (kp : ∀ b u, s.heap.get? b = some u → h'.get? b = some u) (hp : s.heap.objs.size ≤ p) (at_ : h'.get? p = some { cls := .type "tuple", data := .seq arr }) (r : Vals vs arr.toList) (hz : vs.length ≤ sizeLine)
    (q : NewT H vs Q) : EP X pins σ Q (.ref p) { s with heap := h', toks := t } := by
  refine ⟨.ref p, _, I.laid (t' := t) (o := .frz { cls := .type "tuple", data := .seq arr } (.tup vs)) kp hp ⟨at_, hz, arr.toList, r, ?_⟩, rfl, q p { cls := .type "tuple", data := .seq arr } (I.hok.fresh hp) rfl⟩
  exact ⟨_, at_, rfl, _, rfl⟩
def tTupN (t : TA) : TE := fun σ H Q => t σ H fun vs H1 => vs.length ≤ sizeLine ∧ NewT H1 vs Q
theorem pe_tupN {es : List Expr} {t : TA} {n : Nat} {pos : Pos} (h : PA X es t) : PE X (.Tuple es n pos) (tTupN t) := by
  refine ⟨fun pins s σ H Q I hq => ?_⟩
  refine wpAny_Tuple_spliced (thn (h.run pos pins s σ H _ I hq) fun us s1 ⟨vs, H1, I1, r, z, q⟩ => ⟨by rw [← r.length]; exact z, ?_⟩)
  exact Inv.layT (t := s1.toks) I1 (fun b u e => Heap.get?_push_of_some _ e) (Nat.le_refl _) (Heap.get?_push_size _ rfl) (by simpa using r) z q
theorem tuple_ofN : CallR X (.type "tuple") (fun xs H Q => ∃ p ys, xs = [.ref p] ∧ ((SqL X.K H p ys ∧ NewT H ys Q) ∨ (SqT X.K H p ys ∧ Q (.ref p) H))) := by
  intro pins s σ H xs us Q I r h
  obtain ⟨p, ys, rfl, h⟩ := h
  obtain ⟨u, rfl, rx⟩ := vals1 r
  cases rx
  rcases h with ⟨hq, q⟩ | ⟨hq, q⟩
  · obtain ⟨arr, rv, pl, hz⟩ := I.list hq
    have hlen := rv.length
    refine call_tuple_list pl.isList (fun h' kp => ?_) (by simp only [List.size_toArray] <;> omega)
    have I1 : Inv X pins σ H { s with heap := h' } := I.kept (t' := s.toks) kp
    exact Inv.layT (s := { s with heap := h' }) (t := s.toks) I1 (fun b o e => Heap.get?_push_of_some _ e) (Nat.le_refl _) (Heap.get?_push_size _ rfl) (by simpa using rv) hz q
  · obtain ⟨arr, rv, pl, hz⟩ := I.tuple hq
    exact call_tuple_same pl ⟨.ref p, H, I, rfl, q⟩
/-- t + u -/
def catN (K : PySem.W.Frag) : R2 := fun x y H Q => ∃ a b xs ys, x = .ref a ∧ y = .ref b ∧ SqT K H a xs ∧ SqT K H b ys ∧ xs.length + ys.length ≤ sizeLine ∧
  (xs = [] → Q (.ref b) H) ∧ (xs ≠ [] → ys = [] → Q (.ref a) H) ∧ (xs ≠ [] → ys ≠ [] → NewT H (xs ++ ys) Q)
theorem op_catN : OpR X (binaryOp .Add) (catN X.K) := by
  intro pins s σ H x y v u Q I rx ry h
  obtain ⟨a, b, xs, ys, rfl, rfl, ha, hb, hz, q0, q1, q2⟩ := h
  cases rx
  cases ry
  obtain ⟨arr, r1, p1, _⟩ := I.tuple ha
  obtain ⟨arr2, r2, p2, _⟩ := I.tuple hb
  by_cases hx : xs = []
  · subst hx
    cases r1
    exact cat_tup0 p1 p2 ⟨.ref b, H, I, rfl, q0 rfl⟩
  · have hz2 : arr.length + arr2.length ≤ sizeLine := by rw [← r1.length, ← r2.length]; exact hz
    refine HT.cat_tup p1 p2 (fun z => hx (r1.nil_iff.mp z)) (fun z => ⟨.ref a, H, I, rfl, q1 hx (r2.nil_iff.mp z)⟩) (fun z => ?_) hz2
    exact Inv.layT (t := s.toks) I (fun b ob q => Heap.get?_push_of_some _ q) (Nat.le_refl _) (Heap.get?_push_size _ rfl) (by simpa using r1.append r2) (by rw [List.length_append]; exact hz) (q2 hx fun w => z (r2.nil_iff.mpr w))
/-- t[lo:hi] -/
def slN (K : PySem.W.Frag) : V → Option Int → Option Int → Hp → VK → Prop := fun x lo hi H Q => ∃ a xs, x = .ref a ∧ SqT K H a xs ∧
  (HT.sIx xs.length 0 lo = 0 ∧ HT.sIx xs.length xs.length hi = xs.length → Q (.ref a) H) ∧ (¬ (HT.sIx xs.length 0 lo = 0 ∧ HT.sIx xs.length xs.length hi = xs.length) → NewT H (cutV xs lo hi) Q)
theorem sl_tupN : SlR X (slN X.K) := by
  intro pins s σ H x v v1 v2 lo hi sl Q I rx hs p1 p2 h
  obtain ⟨a, xs, rfl, hx, q1, q2⟩ := h
  by_cases hw : HT.sIx xs.length 0 lo = 0 ∧ HT.sIx xs.length xs.length hi = xs.length
  · exact sl_tupA pins s σ H _ v v1 v2 lo hi sl Q I rx hs p1 p2 ⟨a, xs, rfl, hx, q1, fun z => absurd hw z⟩
  · cases rx
    obtain ⟨arr, r, ht, hz⟩ := I.tuple hx
    have hlen : arr.toArray.size = xs.length := by rw [List.size_toArray]; exact r.length.symm
    refine ⟨"tuple", _, PyProof.Rows.slot_tuple_getitem.lookup, ht.typeIs, ?_⟩
    refine HT.getItem_tuple_cut ht hs p1 p2 (by rw [hlen]; exact hw) ?_ (by rw [hlen]; exact hz)
    rw [hlen]
    refine Inv.layT (t := s.toks) I (fun b ob q => Heap.get?_push_of_some _ q) (Nat.le_refl _) (Heap.get?_push_size _ rfl) ?_ (Nat.le_trans (cutV_length xs lo hi) hz) (q2 hw)
    have := (r.drop (HT.sIx xs.length 0 lo)).take (HT.sIx xs.length xs.length hi - HT.sIx xs.length 0 lo)
    simpa [cutV] using this
/-- a method of a tuple -/
theorem SqN.ty {a : Addr} {xs : List V} (I : Inv X pins σ H s) (h : SqN X.K H a xs) : s.TypeIs (.ref a) "tuple" ∧ ∃ ob, s.heap.get? a = some ob ∧ ob.dict = none := by
  rcases h with ⟨o, h, hn⟩ | ⟨o, arr, n, h1, h2, h3, _⟩
  · have k := I.hok _ _ h
    obtain ⟨k1, _, its, _, o2, k2, k3, _⟩ := k
    rw [k1] at k2
    cases k2
    exact ⟨⟨o, k1, k3⟩, o, k1, hn⟩
  · exact ⟨⟨o, I.kIn a o h1, h2⟩, o, I.kIn a o h1, h3⟩
/-- o.name(..), o a tuple -/
def tMT (K : PySem.W.Frag) (r : V → List V → Hp → VK → Prop) (to : TE) (t : TA) : TE := fun σ H Q => to σ H fun x H1 => (∃ a xs, x = .ref a ∧ SqN K H1 a xs) ∧ t σ H1 fun vs H2 => r x vs H2 Q
theorem pe_mt {name : Str} {id : String} {r : V → List V → Hp → VK → Prop} {o e : Expr} {es : List Expr} {to : TE} {t : TA} {ap cp : Pos} (slot : Slot "tuple" name id) (hty : typeOf (.builtin id) = pure (.type "method_descriptor")) (hm : MtR X id r) (ho : PE X o to) (ha : PA X (e :: es) t)
    (hbase : attributeBase o name X.env (eval o X.env) = eval o X.env)
    (few : ((backTo cp (starEach (e :: es) X.env)).all (fun x => !x.1) && (backToKw cp (keywordEach [] X.env)).all (fun x => x.1.isSome) && decide ((e :: es).length + ([] : List Keyword).length + (if ([] : List Keyword).isEmpty then 0 else 1) < 30)) = true)
    (line : (ap.endLine == cp.line) = true) (hs : starEach (e :: es) X.env = (false, eval e X.env) :: starEach es X.env) (pl : (backTo cp (starEach es X.env)).any (·.1) = false) :
    PE X (.Call (.Attribute o name ap) (e :: es) [] cp) (tMT X.K r to t) := by
  refine ⟨fun pins s σ H Q I h => ?_⟩
  refine wpAny_Call_method_late hbase few line rfl (thn (ho.run pins s σ H _ I h) fun v s1 ⟨x, H1, I1, r1, ⟨a, xs, ex, ty⟩, q1⟩ => ?_)
  subst ex
  cases r1
  obtain ⟨h1, h2⟩ := ty.ty I1
  refine ⟨"tuple", id, PySem.F.plainAttrs_tuple, slot, hty, h1, fun b e => (by cases e; exact h2), ?_⟩
  have hA := ha.run cp pins s1 σ H1 _ I1 q1
  rw [hs] at hA ⊢
  refine Calls.callWith_builtin (by show (false || (backTo cp (starEach es X.env)).any (·.1)) = false; rw [pl] <;> rfl) (Calls.evalArgs_plain ?_)
  exact thn hA fun us s2 ⟨vs, H2, I2, r2, q2⟩ => hm pins s2 σ H2 (.ref a) vs _ us Q I2 rfl r2 q2
/-- t.index(x) -/
def ixTN (K : PySem.W.Frag) : V → List V → Hp → VK → Prop := fun x xs H Q => ∃ (a : Addr) (y : V) (d : PyData) (ds : List PyData) (ys : List V) (j : Nat) (z : PyData), x = V.ref a ∧ xs = [y] ∧ SqT K H a ys ∧ DpAll K H ys ds ∧ Dp K H y d ∧
  SeqAt.shaped (.tuple ds) = true ∧ SeqAt.shaped d = true ∧ ds[j]? = some z ∧ PyData.eqv z d = true ∧ (∀ (m : Nat) (z' : PyData), m < j → ds[m]? = some z' → PyData.eqv z' d = false) ∧ Q (.int (j : Nat)) H
theorem mt_ixTN (hu : X.A.units + 65 < cLine) : MtR X "tuple.index" (ixTN X.K) := by
  intro pins s σ H x xs v us Q I rx rs h
  obtain ⟨a, y, d, ds, ys, j, z, rfl, rfl, hq, hd, hy, sl, sd, hz, hzj, hno, q⟩ := h
  cases rx
  obtain ⟨u, rfl, ry⟩ := vals1 rs
  obtain ⟨bs, e1⟩ := Dp.reads I d y u hy ry
  have cl : PyData.canLayAll0 ds = true := SeqAt.canLay_of_shaped sl
  have room : X.A.units + 1 + min (PyData.depthAll ds) d.depth < cLine := room_in_shaped sd hu
  obtain ⟨its, rv, ⟨⟨cls, dd, dt, sls⟩, ho, hc, n, hdt⟩, hlen⟩ := I.tuple hq
  simp only at hc hdt
  subst hc hdt
  obtain ⟨as, e2⟩ := Dp.readsAll I ds _ its hd rv
  have hn : its.length = ds.length := SeqAt.ReadsAll.length ds its as e2
  have hmap : its.map (SeqAt.readOf s.heap) = ds := SeqAt.readsAll_map ds its as cl e2
  obtain ⟨hjd, _⟩ := List.getElem?_eq_some_iff.mp hz
  have hj : j < its.toArray.size := by rw [List.size_toArray]; omega
  have look : ∀ (m : Nat) (hm : m < its.toArray.size) (w : PyData), ds[m]? = some w → SeqAt.readOf s.heap its.toArray[m] = w := by
    intro m hm w hw
    have hm' : m < its.length := by simpa using hm
    rw [← hmap, List.getElem?_map, List.getElem?_eq_getElem hm'] at hw
    have e := Option.some.inj (show some (SeqAt.readOf s.heap its[m]) = some w from hw)
    simpa using e
  refine call_meets PySem.F.slot_tuple_index ⟨_, ho, rfl⟩ PySem.F.entry_tuple_index (PySem.F.args_tuple_index_2 _ _)
    (TI.tuple_indexAt a its.toArray n dd sls u (fun w => PyData.eqv (SeqAt.readOf s.heap w) d) j hj ?_ ?_) ⟨ho, SeqAt.items_eqAt (vs := its.toArray) (show ReadsAll s.heap its.toArray.toList ds as from e2) e1 cl (SeqAt.canLay_of_shaped sd) room, ?_⟩
  · show PyData.eqv (SeqAt.readOf s.heap its.toArray[j]) d = true
    rw [look j hj z hz]
    exact hzj
  · intro m hm hmj
    have hw : ds[m]? = some (ds[m]'(by omega)) := List.getElem?_eq_getElem (by omega)
    show PyData.eqv (SeqAt.readOf s.heap its.toArray[m]) d = false
    rw [look m hm _ hw]
    exact hno m _ hmj hw
  · exact ⟨.int (j : Nat), H, I.tok _, ⟨_, rfl⟩, q⟩
end
end BV

/-! How such values stand in the abstract heap; what holds of a call's slots. -/
namespace BV
open PySem PySem.Spec PyProof.Rows L2

section
variable (K : PySem.W.Frag)
/-- a list that nobody changes -/
def RoL (H : Hp) (a : Addr) (xs : List V) : Prop :=
  (∃ o, H a = some (.frz o (.lst xs))) ∨
    ∃ (o : Obj) (its : Array Value) (n : Nat), K.lookup a = some o ∧ o.cls = .type "list" ∧ o.dict = none ∧ o.data = .seq its n ∧ its.size ≤ sizeLine ∧ Vals xs its.toList
mutual
/-- the value v is t at H; its lists stand at addresses of which A holds -/
def Rep (A : Addr → Prop) (H : Hp) : T → V → Prop
  | .non, v => v = .non
  | .bl b, v => v = .bl b
  | .int i, v => v = .int i
  | .str x, v => v = .str x
  | .tup ts, v => ∃ a vs, v = .ref a ∧ SqN K H a vs ∧ Reps A H ts vs
  | .pair ts, v => ∃ a vs, v = .ref a ∧ SqT K H a vs ∧ Reps A H ts vs
  | .lst ts, v => ∃ a vs, v = .ref a ∧ (H a = some (.lst vs) ∧ A a) ∧ Reps (fun b => A b ∧ b ≠ a) H ts vs
  | .scr ts, v => ∃ a vs, v = .ref a ∧ RoL K H a vs ∧ Reps A H ts vs
def Reps (A : Addr → Prop) (H : Hp) : List T → List V → Prop
  | [], vs => vs = []
  | t :: ts, vs => ∃ v r, vs = v :: r ∧ Rep A H t v ∧ Reps A H ts r
end
end
/-- all that is tracked but the lists outside of A stays -/
def Stay (A : Addr → Prop) (H H' : Hp) : Prop := ∀ a o, H a = some o → (∀ xs, o = .lst xs → A a) → H' a = some o
section
variable {K : PySem.W.Frag} {A A' : Addr → Prop} {H H' H2 : Hp}
theorem Stay.tup (h : Stay A H H') {a : Addr} {vs : List V} (q : SqT K H a vs) : SqT K H' a vs := by
  rcases q with (q | ⟨o, q⟩) | q
  · exact .inl (.inl (h a _ q fun _ e => nomatch e))
  · exact .inl (.inr ⟨o, h a _ q fun _ e => nomatch e⟩)
  · exact .inr q
theorem Stay.tupN (h : Stay A H H') {a : Addr} {vs : List V} (q : SqN K H a vs) : SqN K H' a vs := by
  rcases q with ⟨o, q, hn⟩ | q
  · exact .inl ⟨o, h a _ q (fun _ e => nomatch e), hn⟩
  · exact .inr q
theorem Stay.ro (h : Stay A H H') {a : Addr} {vs : List V} (q : RoL K H a vs) : RoL K H' a vs := by
  rcases q with ⟨o, q⟩ | q
  · exact .inl ⟨o, h a _ q fun _ e => nomatch e⟩
  · exact .inr q
theorem RoL.sq {a : Addr} {vs : List V} (q : RoL K H a vs) : SqL K H a vs := by
  rcases q with ⟨o, q⟩ | q
  · exact .inl (.inr ⟨o, q⟩)
  · exact .inr q
theorem Stay.same (h : Same H H') : Stay A H H' := fun a o q _ => h a o q
theorem Stay.sub {B : Addr → Prop} (h : Stay A H H') (hb : ∀ a, B a → A a) : Stay B H H' := fun a o q x => h a o q fun xs e => hb a (x xs e)
mutual
theorem Rep.move : ∀ (t : T) (v : V) {A A' : Addr → Prop}, Stay A H H' → (∀ a vs, H a = some (.lst vs) → A a → A' a) → Rep K A H t v → Rep K A' H' t v
  | .non, _, _, _, _, _, h => h
  | .bl _, _, _, _, _, _, h => h
  | .int _, _, _, _, _, _, h => h
  | .str _, _, _, _, _, _, h => h
  | .tup ts, _, _, _, hs, hA, h => by
    obtain ⟨a, vs, e, q, r⟩ := h
    exact ⟨a, vs, e, hs.tupN q, Reps.move ts vs hs hA r⟩
  | .pair ts, _, _, _, hs, hA, h => by
    obtain ⟨a, vs, e, q, r⟩ := h
    exact ⟨a, vs, e, hs.tup q, Reps.move ts vs hs hA r⟩
  | .lst ts, _, _, _, hs, hA, h => by
    obtain ⟨a, vs, e, q, r⟩ := h
    exact ⟨a, vs, e, ⟨hs a _ q.1 fun _ _ => q.2, hA a vs q.1 q.2⟩, Reps.move ts vs (hs.sub fun _ x => x.1) (fun b ws e x => ⟨hA b ws e x.1, x.2⟩) r⟩
  | .scr ts, _, _, _, hs, hA, h => by
    obtain ⟨a, vs, e, q, r⟩ := h
    exact ⟨a, vs, e, hs.ro q, Reps.move ts vs hs hA r⟩
theorem Reps.move : ∀ (ts : List T) (vs : List V) {A A' : Addr → Prop}, Stay A H H' → (∀ a vs, H a = some (.lst vs) → A a → A' a) → Reps K A H ts vs → Reps K A' H' ts vs
  | [], _, _, _, _, _, h => h
  | t :: ts, _, _, _, hs, hA, h => by
    obtain ⟨v, r, e, h1, h2⟩ := h
    exact ⟨v, r, e, Rep.move t v hs hA h1, Reps.move ts r hs hA h2⟩
end
mutual
/-- what holds no list stands wherever its tuples stay -/
theorem Rep.flat (hs : Stay A' H H') : ∀ (t : T) (v : V), t.flat = true → Rep K A H t v → Rep K A' H' t v
  | .non, _, _, h => h
  | .bl _, _, _, h => h
  | .int _, _, _, h => h
  | .str _, _, _, h => h
  | .tup ts, _, f, h => by
    obtain ⟨a, vs, e, q, r⟩ := h
    exact ⟨a, vs, e, hs.tupN q, Reps.flat hs ts vs (by simpa [T.flat] using f) r⟩
  | .pair ts, _, f, h => by
    obtain ⟨a, vs, e, q, r⟩ := h
    exact ⟨a, vs, e, hs.tup q, Reps.flat hs ts vs (by simpa [T.flat] using f) r⟩
  | .lst ts, _, f, h => by simp [T.flat] at f
  | .scr ts, _, f, h => by simp [T.flat] at f
theorem Reps.flat (hs : Stay A' H H') : ∀ (ts : List T) (vs : List V), flatL ts = true → Reps K A H ts vs → Reps K A' H' ts vs
  | [], _, _, h => h
  | t :: ts, _, f, h => by
    obtain ⟨v, r, e, h1, h2⟩ := h
    have f' : t.flat = true ∧ flatL ts = true := by simpa [flatL] using f
    exact ⟨v, r, e, Rep.flat hs t v f'.1 h1, Reps.flat hs ts r f'.2 h2⟩
end
theorem Rep.same (h : Same H H') {t : T} {v : V} (r : Rep K A H t v) : Rep K A H' t v := Rep.move t v (Stay.same h) (fun _ _ _ x => x) r
theorem Reps.same (h : Same H H') {t : List T} {v : List V} (r : Reps K A H t v) : Reps K A H' t v := Reps.move t v (Stay.same h) (fun _ _ _ x => x) r
theorem Rep.weak (hA : ∀ a vs, H a = some (.lst vs) → A a → A' a) {t : T} {v : V} (r : Rep K A H t v) : Rep K A' H t v := Rep.move t v (fun _ _ q _ => q) hA r
theorem Reps.weak (hA : ∀ a vs, H a = some (.lst vs) → A a → A' a) {t : List T} {v : List V} (r : Reps K A H t v) : Reps K A' H t v := Reps.move t v (fun _ _ q _ => q) hA r
theorem Reps.nil : Reps K A H [] [] := rfl
theorem Reps.cons {t : T} {v : V} {ts : List T} {vs : List V} (h : Rep K A H t v) (h2 : Reps K A H ts vs) : Reps K A H (t :: ts) (v :: vs) := ⟨v, vs, rfl, h, h2⟩
theorem Reps.length : ∀ {ts : List T} {vs : List V}, Reps K A H ts vs → vs.length = ts.length
  | [], _, h => by cases h; rfl
  | t :: ts, _, h => by
    obtain ⟨v, r, rfl, _, h2⟩ := h
    simp [Reps.length h2]
theorem Reps.get : ∀ {ts : List T} {vs : List V} {i : Nat} {t : T}, Reps K A H ts vs → ts[i]? = some t → ∃ v, vs[i]? = some v ∧ Rep K A H t v
  | [], _, _, _, _, e => by simp at e
  | t :: ts, _, 0, _, h, e => by
    obtain ⟨v, r, rfl, h1, _⟩ := h
    simp at e; subst e
    exact ⟨v, rfl, h1⟩
  | t :: ts, _, i + 1, x, h, e => by
    obtain ⟨v, r, rfl, _, h2⟩ := h
    obtain ⟨w, e1, e2⟩ := Reps.get (i := i) (t := x) h2 (by simpa using e)
    exact ⟨w, by simpa using e1, e2⟩
theorem Reps.append : ∀ {ts us : List T} {vs ws : List V}, Reps K A H ts vs → Reps K A H us ws → Reps K A H (ts ++ us) (vs ++ ws)
  | [], _, _, _, h, h' => by cases h; exact h'
  | t :: ts, _, _, _, h, h' => by
    obtain ⟨v, r, rfl, h1, h2⟩ := h
    exact Reps.cons h1 (Reps.append h2 h')
theorem Reps.take : ∀ {ts : List T} {vs : List V} (n : Nat), Reps K A H ts vs → Reps K A H (ts.take n) (vs.take n)
  | ts, vs, 0, h => by simp [Reps]
  | [], _, n + 1, h => by cases h; exact Reps.nil
  | t :: ts, _, n + 1, h => by
    obtain ⟨v, r, rfl, h1, h2⟩ := h
    exact Reps.cons h1 (Reps.take n h2)
theorem Reps.drop : ∀ {ts : List T} {vs : List V} (n : Nat), Reps K A H ts vs → Reps K A H (ts.drop n) (vs.drop n)
  | ts, vs, 0, h => h
  | [], _, n + 1, h => by cases h; exact Reps.nil
  | t :: ts, _, n + 1, h => by
    obtain ⟨v, r, rfl, h1, h2⟩ := h
    exact Reps.drop n h2
theorem Reps.set : ∀ {ts : List T} {vs : List V} (i : Nat) {t : T} {v : V}, Reps K A H ts vs → Rep K A H t v → Reps K A H (ts.set i t) (vs.set i v)
  | [], _, _, _, _, h, _ => by cases h; exact Reps.nil
  | t :: ts, _, 0, _, _, h, q => by
    obtain ⟨v, r, rfl, h1, h2⟩ := h
    exact Reps.cons q h2
  | t :: ts, _, i + 1, _, _, h, q => by
    obtain ⟨v, r, rfl, h1, h2⟩ := h
    exact Reps.cons h1 (Reps.set i h2 q)
theorem Reps.eraseIdx : ∀ {ts : List T} {vs : List V} (i : Nat), Reps K A H ts vs → Reps K A H (ts.eraseIdx i) (vs.eraseIdx i)
  | [], _, _, h => by cases h; exact Reps.nil
  | t :: ts, _, 0, h => by
    obtain ⟨v, r, rfl, h1, h2⟩ := h
    exact h2
  | t :: ts, _, i + 1, h => by
    obtain ⟨v, r, rfl, h1, h2⟩ := h
    exact Reps.cons h1 (Reps.eraseIdx i h2)
theorem Reps.reverse : ∀ {ts : List T} {vs : List V}, Reps K A H ts vs → Reps K A H ts.reverse vs.reverse
  | [], _, h => by cases h; exact Reps.nil
  | t :: ts, _, h => by
    obtain ⟨v, r, rfl, h1, h2⟩ := h
    rw [List.reverse_cons, List.reverse_cons]
    exact Reps.append (Reps.reverse h2) (Reps.cons h1 Reps.nil)
theorem Reps.cut {ts : List T} {vs : List V} (h : Reps K A H ts vs) (lo hi : Option Int) : Reps K A H (cutT ts lo hi) (cutV vs lo hi) := by
  unfold cutT cutV
  rw [h.length]
  exact (h.drop _).take _
theorem Reps.ints : ∀ {ts : List T} {vs : List V} {ns : List Int}, Reps K A H ts vs → ints? ts = some ns → vs = ns.map V.int
  | [], _, _, h, e => by cases h; cases e; rfl
  | t :: ts, _, ns, h, e => by
    obtain ⟨v, r, rfl, h1, h2⟩ := h
    cases t <;> simp only [ints?, reduceCtorEq] at e
    case int i =>
      cases e2 : ints? ts with
      | none => rw [e2] at e; cases e
      | some ms =>
        rw [e2] at e
        simp only [Option.map_some, Option.some.injEq] at e
        subst e
        have h1' : v = .int i := h1
        rw [h1', Reps.ints h2 e2]
        rfl
theorem Reps.of_ints : ∀ (ns : List Int), Reps K A H (ns.map T.int) (ns.map V.int)
  | [] => Reps.nil
  | n :: ns => Reps.cons (show V.int n = .int n from rfl) (Reps.of_ints ns)
mutual
theorem Rep.dp : ∀ (t : T) (v : V) {A : Addr → Prop}, Rep K A H t v → Dp K H v t.toD
  | .non, _, _, h => by cases h; exact .non
  | .bl b, _, _, h => by cases h; exact .bl b
  | .int i, _, _, h => by cases h; exact .int i
  | .str x, _, _, h => by cases h; exact .str x
  | .tup ts, _, _, h => by
    obtain ⟨a, vs, rfl, q, r⟩ := h
    exact .tup q.sq (Reps.dp ts vs r)
  | .pair ts, _, _, h => by
    obtain ⟨a, vs, rfl, q, r⟩ := h
    exact .tup q (Reps.dp ts vs r)
  | .lst ts, _, _, h => by
    obtain ⟨a, vs, rfl, q, r⟩ := h
    exact .lst (SqL.of q.1) (Reps.dp ts vs r)
  | .scr ts, _, _, h => by
    obtain ⟨a, vs, rfl, q, r⟩ := h
    exact .lst q.sq (Reps.dp ts vs r)
theorem Reps.dp : ∀ (ts : List T) (vs : List V) {A : Addr → Prop}, Reps K A H ts vs → DpAll K H vs (toDL ts)
  | [], _, _, h => by cases h; exact .nil
  | t :: ts, _, _, h => by
    obtain ⟨v, r, rfl, h1, h2⟩ := h
    exact .cons (Rep.dp t v h1) (Reps.dp ts r h2)
end
end

/-! ### levels -/
/-- 2: a list of this call's own making, that no slot may change; 1: any list that no slot may change -/
def lv (P : Addr → Prop) (He : Hp) (n : Nat) : Addr → Prop := fun a => ¬ P a ∧ (n = 2 → He a = none)
/-- kids of a level's list -/
def kl (n : Nat) : Nat := if n = 0 then 2 else n
/-- 0: a list that a slot may change -/
def RepL (K : PySem.W.Frag) (P : Addr → Prop) (He H : Hp) (n : Nat) (t : T) (v : V) : Prop :=
  if n = 0 then ∃ xs a vs, t = .lst xs ∧ v = .ref a ∧ (H a = some (.lst vs) ∧ P a) ∧ Reps K (lv P He 2) H xs vs else Rep K (lv P He n) H t v
theorem repL_pos {K : PySem.W.Frag} {P : Addr → Prop} {He H : Hp} {n : Nat} {t : T} {v : V} (hn : n ≠ 0) : RepL K P He H n t v = Rep K (lv P He n) H t v := if_neg hn
theorem repL_zero {K : PySem.W.Frag} {P : Addr → Prop} {He H : Hp} {t : T} {v : V} : RepL K P He H 0 t v = ∃ xs a vs, t = .lst xs ∧ v = .ref a ∧ (H a = some (.lst vs) ∧ P a) ∧ Reps K (lv P He 2) H xs vs := if_pos rfl
theorem kl_pos (n : Nat) : kl n ≠ 0 := by unfold kl; split <;> omega
/-- what is protected is tracked; what stood at the entry stands -/
structure Vw (P : Addr → Prop) (He H : Hp) : Prop where
  dom : ∀ a, P a → H a ≠ none
  base : Same He H
section
variable {K : PySem.W.Frag} {P : Addr → Prop} {He H H' : Hp} {n m : Nat} {t : T} {v : V} {ts : List T} {vs : List V}
theorem Vw.mono (w : Vw P He H) (h : Same H H') : Vw P He H' := by
  refine ⟨fun a p e => ?_, w.base.trans h⟩
  cases q : H a with
  | none => exact w.dom a p q
  | some o => rw [h a o q] at e; cases e
/-- a new address is free for every level -/
theorem Vw.new (w : Vw P He H) {p : Addr} (hp : H p = none) : lv P He n p := ⟨fun z => w.dom p z hp, fun _ => w.base.free hp⟩
theorem same_upd {p : Addr} {o : HO} (hp : H p = none) : Same H (upd H p o) := fun b u e => by
  rw [upd_ne (ne_of_none e hp)]
  exact e
theorem lv_le (h : m ≤ n) (hm : m ≠ 0) {a : Addr} (x : lv P He n a) (h2 : n ≤ 2) : lv P He m a := ⟨x.1, fun e => x.2 (by omega)⟩
theorem RepL.same (h : Same H H') (r : RepL K P He H n t v) : RepL K P He H' n t v := by
  by_cases e : n = 0
  · subst e
    rw [repL_zero] at r ⊢
    obtain ⟨xs, a, vs, h1, h2, h3, h4⟩ := r
    exact ⟨xs, a, vs, h1, h2, ⟨h _ _ h3.1, h3.2⟩, h4.same h⟩
  · rw [repL_pos e] at r ⊢
    exact r.same h
theorem RepL.down (h : m ≤ n) (hm : m ≠ 0) (h2 : n ≤ 2) (r : RepL K P He H n t v) : RepL K P He H m t v := by
  rw [repL_pos (by omega)] at r
  rw [repL_pos hm]
  exact r.weak fun a _ _ x => lv_le h hm x h2
theorem Reps.down (h : m ≤ n) (hm : m ≠ 0) (h2 : n ≤ 2) (r : Reps K (lv P He n) H ts vs) : Reps K (lv P He m) H ts vs := r.weak fun a _ _ x => lv_le h hm x h2
/-- a list at any level -/
theorem RepL.lst {xs : List T} (r : RepL K P He H n (.lst xs) v) : ∃ a vs, v = .ref a ∧ H a = some (.lst vs) ∧ Reps K (lv P He (kl n)) H xs vs := by
  by_cases e : n = 0
  · subst e
    rw [repL_zero] at r
    obtain ⟨ys, a, vs, h1, h2, h3, h4⟩ := r
    cases h1
    exact ⟨a, vs, h2, h3.1, h4⟩
  · rw [repL_pos e] at r
    obtain ⟨a, vs, h1, h2, h3⟩ := r
    refine ⟨a, vs, h1, h2.1, ?_⟩
    unfold kl; rw [if_neg e]; exact h3.weak fun _ _ _ x => x.1
theorem RepL.scr {xs : List T} (r : RepL K P He H n (.scr xs) v) : ∃ a vs, v = .ref a ∧ RoL K H a vs ∧ Reps K (lv P He (kl n)) H xs vs := by
  by_cases e : n = 0
  · subst e
    rw [repL_zero] at r
    obtain ⟨ys, a, vs, h1, _⟩ := r
    cases h1
  · rw [repL_pos e] at r
    unfold kl; rw [if_neg e]; exact r
theorem RepL.tupN {xs : List T} (r : RepL K P He H n (.tup xs) v) : ∃ a vs, v = .ref a ∧ SqN K H a vs ∧ Reps K (lv P He (kl n)) H xs vs := by
  by_cases e : n = 0
  · subst e
    rw [repL_zero] at r
    obtain ⟨ys, a, vs, h1, _⟩ := r
    cases h1
  · rw [repL_pos e] at r
    unfold kl; rw [if_neg e]; exact r
theorem RepL.tup {xs : List T} (r : RepL K P He H n (.tup xs) v) : ∃ a vs, v = .ref a ∧ SqT K H a vs ∧ Reps K (lv P He (kl n)) H xs vs := by
  obtain ⟨a, vs, e, q, k⟩ := r.tupN
  exact ⟨a, vs, e, q.sq, k⟩
theorem RepL.pair {xs : List T} (r : RepL K P He H n (.pair xs) v) : ∃ a vs, v = .ref a ∧ SqT K H a vs ∧ Reps K (lv P He (kl n)) H xs vs := by
  by_cases e : n = 0
  · subst e
    rw [repL_zero] at r
    obtain ⟨ys, a, vs, h1, _⟩ := r
    cases h1
  · rw [repL_pos e] at r
    unfold kl; rw [if_neg e]; exact r
theorem RepL.int {i : Int} (r : RepL K P He H n (.int i) v) : v = .int i := by
  by_cases e : n = 0
  · subst e; rw [repL_zero] at r; obtain ⟨ys, a, vs, h1, _⟩ := r; cases h1
  · rw [repL_pos e] at r; exact r
theorem RepL.bl {b : Bool} (r : RepL K P He H n (.bl b) v) : v = .bl b := by
  by_cases e : n = 0
  · subst e; rw [repL_zero] at r; obtain ⟨ys, a, vs, h1, _⟩ := r; cases h1
  · rw [repL_pos e] at r; exact r
theorem RepL.str {x : Str} (r : RepL K P He H n (.str x) v) : v = .str x := by
  by_cases e : n = 0
  · subst e; rw [repL_zero] at r; obtain ⟨ys, a, vs, h1, _⟩ := r; cases h1
  · rw [repL_pos e] at r; exact r
theorem RepL.non (r : RepL K P He H n .non v) : v = .non := by
  by_cases e : n = 0
  · subst e; rw [repL_zero] at r; obtain ⟨ys, a, vs, h1, _⟩ := r; cases h1
  · rw [repL_pos e] at r; exact r
theorem RepL.dp (r : RepL K P He H n t v) : Dp K H v t.toD := by
  by_cases e : n = 0
  · subst e
    rw [repL_zero] at r
    obtain ⟨xs, a, vs, rfl, rfl, h3, h4⟩ := r
    exact .lst (SqL.of h3.1) (Reps.dp _ _ h4)
  · rw [repL_pos e] at r
    exact Rep.dp _ _ r
/-- a value that holds no list -/
theorem RepL.flat (r : RepL K P He H n t v) (f : t.flat = true) : RepL K P He H 2 t v := by
  by_cases e : n = 0
  · subst e
    rw [repL_zero] at r
    obtain ⟨xs, a, vs, rfl, _⟩ := r
    simp [T.flat] at f
  · rw [repL_pos e] at r
    rw [repL_pos (by decide)]
    exact Rep.flat (fun _ _ q _ => q) t v f r
/-- truth -/
theorem RepL.tru {k : Bool} (r : RepL K P He H n t v) (h : truth t = some k) : TruV K v H k := by
  cases t with
  | non => rw [r.non]; simp only [truth, Option.some.injEq] at h; exact h.symm
  | bl b => rw [r.bl]; simp only [truth, Option.some.injEq] at h; exact h.symm
  | int i => rw [r.int]; simp only [truth, Option.some.injEq] at h; exact h.symm
  | str x =>
    rw [r.str]
    simp only [truth] at h
    by_cases c : x.length ≤ sizeLine
    · rw [if_pos c] at h
      cases h
      exact ⟨c, rfl⟩
    · rw [if_neg c] at h; cases h
  | tup xs =>
    obtain ⟨a, vs, rfl, q, rs⟩ := r.tup
    simp only [truth, Option.some.injEq] at h
    refine .inr (.inl ⟨vs, q, ?_⟩)
    rw [← h]
    have e := rs.length
    cases vs <;> cases xs <;> simp_all
  | lst xs =>
    obtain ⟨a, vs, rfl, q, rs⟩ := r.lst
    simp only [truth, Option.some.injEq] at h
    refine .inl ⟨vs, SqL.of q, ?_⟩
    rw [← h]
    have e := rs.length
    cases vs <;> cases xs <;> simp_all
  | scr xs =>
    obtain ⟨a, vs, rfl, q, rs⟩ := r.scr
    simp only [truth, Option.some.injEq] at h
    refine .inl ⟨vs, q.sq, ?_⟩
    rw [← h]
    have e := rs.length
    cases vs <;> cases xs <;> simp_all
  | pair xs =>
    obtain ⟨a, vs, rfl, q, rs⟩ := r.pair
    simp only [truth, Option.some.injEq] at h
    refine .inr (.inl ⟨vs, q, ?_⟩)
    rw [← h]
    have e := rs.length
    cases vs <;> cases xs <;> simp_all
/-- a new list -/
theorem Vw.lst (w : Vw P He H) {p : Addr} (hp : H p = none) (hn : n ≠ 0) (r : Reps K (lv P He n) H ts vs) : RepL K P He (upd H p (.lst vs)) n (.lst ts) (.ref p) := by
  rw [repL_pos hn]
  exact ⟨p, vs, rfl, ⟨upd_same, w.new hp⟩, (r.weak (A' := fun b => lv P He n b ∧ b ≠ p) fun b _ e x => ⟨x, ne_of_none e hp⟩).same (same_upd hp)⟩
theorem Vw.tup (w : Vw P He H) {p : Addr} {o : Obj} (hp : H p = none) (ho : o.dict = none) (hn : n ≠ 0) (r : Reps K (lv P He n) H ts vs) : RepL K P He (upd H p (.frz o (.tup vs))) n (.tup ts) (.ref p) := by
  rw [repL_pos hn]
  exact ⟨p, vs, rfl, .inl ⟨o, upd_same, ho⟩, r.same (same_upd hp)⟩
end
/-- where the value lies in no slot that stood before -/
def FreshV (H : Hp) (t : T) (v : V) : Prop := ∀ xs a, t = .lst xs → v = .ref a → H a = none
theorem scal_fresh {H : Hp} {t : T} {v : V} (h : ∀ xs, t ≠ .lst xs) : FreshV H t v := fun xs a e _ => absurd e (h xs)
theorem fresh_new {H : Hp} {t : T} {p : Addr} (h : H p = none) : FreshV H t (.ref p) := fun xs a _ e => by cases e; exact h
/-- what an operation must give: its value in a heap that has grown -/
def Out (K : PySem.W.Frag) (P : Addr → Prop) (He : Hp) (n : Nat) (fr : Bool) (H : Hp) (Q : VK) : Res T → Prop
  | .ok t => ∀ v H', Same H H' → RepL K P He H' n t v → (fr = true → FreshV H t v) → Q v H'
  | _ => False
end BV

/-! The operations keep to the plain functions. -/
namespace BV
open PySem PySem.Spec PyProof.Rows L2

theorem kl_le {n : Nat} (h : n ≤ 2) : kl n ≤ 2 := by unfold kl; split <;> omega
theorem kl_ge {n : Nat} : 1 ≤ kl n := by have := kl_pos n; omega
def lvB (n m : Nat) : Nat := min (kl n) (kl m)
theorem lvB_pos (n m : Nat) : lvB n m ≠ 0 := by unfold lvB; have := kl_pos n; have := kl_pos m; omega
section
variable {X : Cx} {P : Addr → Prop} {He : Hp} {n m : Nat}
theorem out_scal {K : PySem.W.Frag} {H : Hp} {Q : VK} {t : T} {v : V} {fr : Bool} (k : Nat) (hk : k ≠ 0) (h : Out K P He k fr H Q (.ok t)) (r : Rep K (lv P He k) H t v) (hne : fr = true → ∀ xs, t ≠ .lst xs := by (intro _ _ z; cases z)) : Q v H := h v H (Same.refl H) (by rw [repL_pos hk]; exact r) fun e => scal_fresh (hne e)

def binR (K : PySem.W.Frag) (P : Addr → Prop) (He : Hp) (n m : Nat) (op : Operator) : R2 := fun x y H Q => Vw P He H ∧ ∃ tx ty, RepL K P He H n tx x ∧ RepL K P He H m ty y ∧ Out K P He (lvB n m) true H Q (binT op tx ty)
theorem op_bin (hn : n ≤ 2) (hm : m ≤ 2) (op : Operator) : OpR X (binaryOp op) (binR X.K P He n m op) := by
  intro pins s σ H x y v u Q I rx ry h
  obtain ⟨w, tx, ty, r1, r2, o⟩ := h
  have hp := lvB_pos n m
  have hb : lvB n m ≤ kl n := Nat.min_le_left _ _
  have hb2 : lvB n m ≤ kl m := Nat.min_le_right _ _
  have n2 := kl_le hn
  have m2 := kl_le hm
  revert o
  unfold binT
  split <;> intro o
  · have e1 := r1.int; have e2 := r2.int; subst e1; subst e2
    exact op_add pins s σ H _ _ v u Q I rx ry ⟨_, _, rfl, rfl, out_scal _ hp o rfl⟩
  · have e1 := r1.int; have e2 := r2.int; subst e1; subst e2
    exact op_sub pins s σ H _ _ v u Q I rx ry ⟨_, _, rfl, rfl, out_scal _ hp o rfl⟩
  · rename_i i j
    split at o
    · rename_i c
      have e1 := r1.int; have e2 := r2.int; subst e1; subst e2
      exact op_mul pins s σ H _ _ v u Q I rx ry ⟨_, _, rfl, rfl, c.c, out_scal _ hp o rfl⟩
    · exact o.elim
  · rename_i i j
    split at o
    · rename_i c
      have e1 := r1.int; have e2 := r2.int; subst e1; subst e2
      exact op_fdivN pins s σ H _ _ v u Q I rx ry ⟨_, _, rfl, rfl, c, out_scal _ hp o rfl⟩
    · exact o.elim
  · rename_i i j
    split at o
    · rename_i c
      have e1 := r1.int; have e2 := r2.int; subst e1; subst e2
      exact op_modN pins s σ H _ _ v u Q I rx ry ⟨_, _, rfl, rfl, c, out_scal _ hp o rfl⟩
    · exact o.elim
  · rename_i xs ys
    split at o
    · rename_i c
      obtain ⟨a, vs, rfl, q1, k1⟩ := r1.lst
      obtain ⟨b, ws, rfl, q2, k2⟩ := r2.lst
      have l1 := k1.length
      have l2 := k2.length
      refine op_cat pins s σ H _ _ v u Q I rx ry ⟨a, b, vs, ws, rfl, rfl, q1, q2, by rw [List.length_append] at c; omega, fun p hp' => ?_⟩
      exact o _ _ (same_upd hp') (w.lst hp' hp ((k1.down hb hp n2).append (k2.down hb2 hp m2))) fun _ => fresh_new hp'
    · exact o.elim
  · rename_i xs ys
    split at o
    · rename_i c
      obtain ⟨a, vs, rfl, q1, k1⟩ := r1.tupN
      obtain ⟨b, ws, rfl, q2, k2⟩ := r2.tupN
      have l1 := k1.length
      have l2 := k2.length
      have kk := (k1.down hb hp n2).append (k2.down hb2 hp m2)
      refine op_catN pins s σ H _ _ v u Q I rx ry ⟨a, b, vs, ws, rfl, rfl, q1.sq, q2.sq, by rw [List.length_append] at c; omega, fun e => ?_, fun _ e => ?_, fun _ _ p ob hp' ho => ?_⟩
      · subst e
        refine o _ _ (Same.refl H) ?_ fun _ => scal_fresh (by intro _ z; cases z)
        rw [repL_pos hp]
        exact ⟨b, ws, rfl, q2, by simpa using kk⟩
      · subst e
        refine o _ _ (Same.refl H) ?_ fun _ => scal_fresh (by intro _ z; cases z)
        rw [repL_pos hp]
        exact ⟨a, vs, rfl, q1, by simpa using kk⟩
      · exact o _ _ (same_upd hp') (w.tup hp' ho hp kk) fun _ => fresh_new hp'
    · exact o.elim
  · rename_i xs k
    split at o
    · rename_i c
      obtain ⟨a, vs, rfl, q1, k1⟩ := r1.lst
      have e2 := r2.int; subst e2
      have l1 := k1.length
      have kk : Reps X.K (lv P He (lvB n m)) H (List.replicate k.toNat xs).flatten (List.replicate k.toNat vs).flatten := by
        have k1' := k1.down hb hp n2
        generalize k.toNat = j
        induction j with
        | zero => exact Reps.nil
        | succ j ih =>
          rw [List.replicate_succ, List.replicate_succ, List.flatten_cons, List.flatten_cons]
          exact k1'.append ih
      refine op_rep pins s σ H _ _ v u Q I rx ry ⟨a, k, vs, rfl, rfl, q1, c.1.c.1, c.1.c.2, by rw [l1]; exact c.2, fun p hp' => ?_⟩
      exact o _ _ (same_upd hp') (w.lst hp' hp kk) fun _ => fresh_new hp'
    · exact o.elim
  · exact o.elim
theorem op_neg' : UnR X (unaryOp .USub) (fun x H Q => ∃ tx, RepL X.K P He H n tx x ∧ Out X.K P He 2 false H Q (negT tx)) := by
  intro pins s σ H x v Q I rx h
  obtain ⟨tx, r1, o⟩ := h
  revert o
  unfold negT
  split <;> intro o
  · have e1 := r1.int; subst e1
    exact un_neg pins s σ H _ v Q I rx ⟨_, rfl, out_scal _ (by decide) o rfl⟩
  · exact o.elim

/-- a comparison's answer -/
def OutB (H : Hp) (Q : VK) : Res Bool → Prop
  | .ok b => Q (.bl b) H
  | _ => False
def cmpR (K : PySem.W.Frag) (P : Addr → Prop) (He : Hp) (n m : Nat) (op : CmpOp) : R2 := fun x y H Q => ∃ tx ty, RepL K P He H n tx x ∧ RepL K P He H m ty y ∧ OutB H Q (cmpT op tx ty)
theorem op_eqT (hu : X.A.units + 65 < cLine) {pins : List (Addr × Obj)} {s : Shared} {σ : L2.St} {H : Hp} {x y : V} {v u : Value} {Q : VK} {tx ty : T} (I : Inv X pins σ H s) (rx : RelV x v) (ry : RelV y u)
    (r1 : RepL X.K P He H n tx x) (r2 : RepL X.K P He H m ty y) (o : OutB H Q (eqT tx ty)) : wpAny (model X.prog X.w) X.A (compareOp .Eq v u) (EP X pins σ Q) X.xe s := by
  revert o
  unfold eqT
  split <;> intro o
  · have e1 := r1.int; have e2 := r2.int; subst e1; subst e2
    exact op_eq pins s σ H _ _ v u Q I rx ry ⟨rfl, by simpa [OutB] using o⟩
  · have e1 := r1.str; have e2 := r2.str; subst e1; subst e2
    exact op_eq pins s σ H _ _ v u Q I rx ry ⟨rfl, by simpa [OutB] using o⟩
  · have e1 := r1.bl; have e2 := r2.bl; subst e1; subst e2
    exact op_eq pins s σ H _ _ v u Q I rx ry ⟨rfl, by simpa [OutB] using o⟩
  · split at o
    · rename_i c
      exact op_eqD (by omega) pins s σ H _ _ v u Q I rx ry ⟨_, _, r1.dp, r2.dp, c.1, c.2, o⟩
    · exact o.elim
theorem op_neT (hu : X.A.units + 65 < cLine) {pins : List (Addr × Obj)} {s : Shared} {σ : L2.St} {H : Hp} {x y : V} {v u : Value} {Q : VK} {tx ty : T} (I : Inv X pins σ H s) (rx : RelV x v) (ry : RelV y u)
    (r1 : RepL X.K P He H n tx x) (r2 : RepL X.K P He H m ty y) (o : OutB H Q ((eqT tx ty).bd fun c => .ok (!c))) : wpAny (model X.prog X.w) X.A (compareOp .NotEq v u) (EP X pins σ Q) X.xe s := by
  revert o
  unfold eqT
  split <;> intro o
  · have e1 := r1.int; have e2 := r2.int; subst e1; subst e2
    exact op_ne pins s σ H _ _ v u Q I rx ry ⟨rfl, by simpa [OutB] using o⟩
  · have e1 := r1.str; have e2 := r2.str; subst e1; subst e2
    exact op_ne pins s σ H _ _ v u Q I rx ry ⟨rfl, by simpa [OutB] using o⟩
  · have e1 := r1.bl; have e2 := r2.bl; subst e1; subst e2
    exact op_ne pins s σ H _ _ v u Q I rx ry ⟨rfl, by simpa [OutB] using o⟩
  · split at o
    · rename_i c
      exact op_neD (by omega) pins s σ H _ _ v u Q I rx ry ⟨_, _, r1.dp, r2.dp, c.1, c.2, o⟩
    · exact o.elim
theorem toD_list {ty : T} {xs : List T} (h : listOf? ty = some xs) : ty.toD = .list (toDL xs) ∨ ty.toD = .tuple (toDL xs) := by
  cases ty <;> simp only [listOf?, reduceCtorEq, Option.some.injEq] at h <;> subst h <;> simp [T.toD]
theorem op_inT (hu : X.A.units + 65 < cLine) {pins : List (Addr × Obj)} {s : Shared} {σ : L2.St} {H : Hp} {x y : V} {v u : Value} {Q : VK} {tx ty : T} (I : Inv X pins σ H s) (rx : RelV x v) (ry : RelV y u)
    (r1 : RepL X.K P He H n tx x) (r2 : RepL X.K P He H m ty y) (o : OutB H Q (inT tx ty)) : wpAny (model X.prog X.w) X.A (compareOp .In v u) (EP X pins σ Q) X.xe s := by
  revert o
  unfold inT
  split
  · rename_i xs hx
    split <;> intro o
    · rename_i c
      obtain ⟨as, e1⟩ := Dp.reads I _ _ _ r1.dp rx
      obtain ⟨bs, e2⟩ := Dp.reads I _ _ _ r2.dp ry
      rcases toD_list hx with e | e
      · rw [e] at e2 c
        exact SeqAt.in_list_reads e2 e1 (SeqAt.canLay_of_shaped c.2) (SeqAt.canLay_of_shaped c.1) (room_in_shaped c.1 hu) ⟨.bl _, H, I, rfl, o⟩
      · rw [e] at e2 c
        exact SeqAt.in_tuple_reads e2 e1 (SeqAt.canLay_of_shaped c.2) (SeqAt.canLay_of_shaped c.1) (room_in_shaped c.1 hu) ⟨.bl _, H, I, rfl, o⟩
    · exact o.elim
  · intro o; exact o.elim
theorem op_notInT (hu : X.A.units + 65 < cLine) {pins : List (Addr × Obj)} {s : Shared} {σ : L2.St} {H : Hp} {x y : V} {v u : Value} {Q : VK} {tx ty : T} (I : Inv X pins σ H s) (rx : RelV x v) (ry : RelV y u)
    (r1 : RepL X.K P He H n tx x) (r2 : RepL X.K P He H m ty y) (o : OutB H Q ((inT tx ty).bd fun c => .ok (!c))) : wpAny (model X.prog X.w) X.A (compareOp .NotIn v u) (EP X pins σ Q) X.xe s := by
  revert o
  unfold inT
  split
  · rename_i xs hx
    split <;> intro o
    · rename_i c
      obtain ⟨as, e1⟩ := Dp.reads I _ _ _ r1.dp rx
      obtain ⟨bs, e2⟩ := Dp.reads I _ _ _ r2.dp ry
      rcases toD_list hx with e | e
      · rw [e] at e2 c
        exact SeqAt.notIn_list_reads e2 e1 (SeqAt.canLay_of_shaped c.2) (SeqAt.canLay_of_shaped c.1) (room_in_shaped c.1 hu) ⟨.bl _, H, I, rfl, o⟩
      · rw [e] at e2 c
        exact SeqAt.notIn_tuple_reads e2 e1 (SeqAt.canLay_of_shaped c.2) (SeqAt.canLay_of_shaped c.1) (room_in_shaped c.1 hu) ⟨.bl _, H, I, rfl, o⟩
    · exact o.elim
  · intro o; exact o.elim
theorem isNone_iff {K : PySem.W.Frag} {H : Hp} {t : T} {v : V} (r : RepL K P He H n t v) : decide (v = .non) = isNone t := by
  cases t with
  | non => rw [r.non]; rfl
  | bl b => rw [r.bl]; rfl
  | int b => rw [r.int]; rfl
  | str b => rw [r.str]; rfl
  | tup b => obtain ⟨a, vs, rfl, _⟩ := r.tup; rfl
  | lst b => obtain ⟨a, vs, rfl, _⟩ := r.lst; rfl
  | scr b => obtain ⟨a, vs, rfl, _⟩ := r.scr; rfl
  | pair b => obtain ⟨a, vs, rfl, _⟩ := r.pair; rfl
theorem op_cmp (hu : X.A.units + 65 < cLine) (op : CmpOp) : OpR X (compareOp op) (cmpR X.K P He n m op) := by
  intro pins s σ H x y v u Q I rx ry h
  obtain ⟨tx, ty, r1, r2, o⟩ := h
  revert o
  unfold cmpT
  split <;> intro o
  · exact op_eqT hu I rx ry r1 r2 o
  · exact op_neT hu I rx ry r1 r2 o
  · have e1 := r1.int; have e2 := r2.int; subst e1; subst e2
    exact op_lt pins s σ H _ _ v u Q I rx ry ⟨_, _, rfl, rfl, o⟩
  · have e1 := r1.int; have e2 := r2.int; subst e1; subst e2
    exact op_le pins s σ H _ _ v u Q I rx ry ⟨_, _, rfl, rfl, o⟩
  · have e1 := r1.int; have e2 := r2.int; subst e1; subst e2
    exact op_gt pins s σ H _ _ v u Q I rx ry ⟨_, _, rfl, rfl, o⟩
  · have e1 := r1.int; have e2 := r2.int; subst e1; subst e2
    exact op_ge pins s σ H _ _ v u Q I rx ry ⟨_, _, rfl, rfl, o⟩
  · have e2 := r2.non; subst e2
    refine op_isN pins s σ H _ _ v u Q I rx ry ⟨rfl, ?_⟩
    rw [isNone_iff r1]; exact o
  · have e2 := r2.non; subst e2
    refine op_notN pins s σ H _ _ v u Q I rx ry ⟨rfl, ?_⟩
    rw [isNone_iff r1]; exact o
  · exact op_inT hu I rx ry r1 r2 o
  · exact op_notInT hu I rx ry r1 r2 o
  · exact o.elim

/-! ### subscripts -/
def idxR (K : PySem.W.Frag) (P : Addr → Prop) (He : Hp) (n m : Nat) : R2 := fun x y H Q => ∃ tx ty, RepL K P He H n tx x ∧ RepL K P He H m ty y ∧ Out K P He (kl n) false H Q (idxT tx ty)
theorem at_rep {K : PySem.W.Frag} {A : Addr → Prop} {H : Hp} {xs : List T} {vs : List V} {i : Int} {t : T} (r : Reps K A H xs vs) (h : atT xs i = some t) : ∃ v, atI vs i = some v ∧ Rep K A H t v := by
  unfold atT atI at h
  unfold atI
  rw [r.length]
  cases e : ixN xs.length i with
  | none => rw [e] at h; cases h
  | some j =>
    rw [e] at h
    exact r.get (by simpa using h)
theorem ix_T : IxR X (idxR X.K P He n m) := by
  intro value slice pins s σ H x y v u Q I rx ry h hs
  obtain ⟨tx, ty, r1, r2, o⟩ := h
  have hk := kl_pos n
  revert o
  unfold idxT
  split
  · split <;> intro o
    · rename_i t e
      have e2 := r2.int; subst e2
      obtain ⟨a, vs, rfl, q1, k1⟩ := r1.lst
      obtain ⟨w, e3, rw'⟩ := at_rep k1 e
      exact ix_list value slice pins s σ H _ _ v u Q I rx ry ⟨a, vs, _, w, rfl, rfl, SqL.of q1, e3, out_scal _ hk o rw' (by intro z; cases z)⟩ hs
    · exact o.elim
  · split <;> intro o
    · rename_i t e
      have e2 := r2.int; subst e2
      obtain ⟨a, vs, rfl, q1, k1⟩ := r1.tup
      obtain ⟨w, e3, rw'⟩ := at_rep k1 e
      exact ix_tup value slice pins s σ H _ _ v u Q I rx ry ⟨a, vs, _, w, rfl, rfl, q1, e3, out_scal _ hk o rw' (by intro z; cases z)⟩ hs
    · exact o.elim
  · split <;> intro o
    · rename_i t e
      have e2 := r2.int; subst e2
      obtain ⟨a, vs, rfl, q1, k1⟩ := r1.scr
      obtain ⟨w, e3, rw'⟩ := at_rep k1 e
      exact ix_list value slice pins s σ H _ _ v u Q I rx ry ⟨a, vs, _, w, rfl, rfl, q1.sq, e3, out_scal _ hk o rw' (by intro z; cases z)⟩ hs
    · exact o.elim
  · intro o; exact o.elim
def slR (K : PySem.W.Frag) (P : Addr → Prop) (He : Hp) (n : Nat) : V → Option Int → Option Int → Hp → VK → Prop := fun x lo hi H Q => Vw P He H ∧ ∃ tx, RepL K P He H n tx x ∧ Out K P He (kl n) true H Q (sliceT tx lo hi)
theorem sl_T : SlR X (slR X.K P He n) := by
  intro pins s σ H x v vl vu lo hi sl Q I rx hs pl pu h
  obtain ⟨w, tx, r1, o⟩ := h
  have hk := kl_pos n
  revert o
  unfold sliceT
  split <;> intro o
  · obtain ⟨a, vs, rfl, q1, k1⟩ := r1.lst
    exact sl_list pins s σ H _ v vl vu lo hi sl Q I rx hs pl pu ⟨a, vs, rfl, SqL.of q1, fun p hp => o _ _ (same_upd hp) (w.lst hp hk (k1.cut lo hi)) fun _ => fresh_new hp⟩
  · obtain ⟨a, vs, rfl, q1, k1⟩ := r1.tupN
    refine sl_tupN pins s σ H _ v vl vu lo hi sl Q I rx hs pl pu ⟨a, vs, rfl, q1.sq, fun e => ?_, fun _ p ob hp ho => o _ _ (same_upd hp) (w.tup hp ho hk (k1.cut lo hi)) fun _ => fresh_new hp⟩
    refine o _ _ (Same.refl H) ?_ fun _ => scal_fresh (by intro _ z; cases z)
    rw [repL_pos hk]
    refine ⟨a, vs, rfl, q1, ?_⟩
    have kk := k1.cut lo hi
    have e2 : cutV vs lo hi = vs := by
      unfold cutV
      rw [e.1, e.2, Nat.sub_zero, List.drop_zero, List.take_length]
    rw [e2] at kk
    exact kk
  · exact o.elim
end
end BV

/-! The built-in functions keep to the plain functions. -/
namespace BV
open PySem PySem.Spec PyProof.Rows L2

theorem insInt_perm (a : Int) : ∀ l : List Int, (insInt a l).Perm (a :: l)
  | [] => .refl _
  | b :: l => by
    unfold insInt
    split
    · exact .refl _
    · exact ((insInt_perm a l).cons b).trans (.swap a b l)
theorem sortInt_perm : ∀ l : List Int, (sortInt l).Perm l
  | [] => .refl _
  | a :: l => (insInt_perm a (sortInt l)).trans ((sortInt_perm l).cons a)
theorem insInt_pw (a : Int) : ∀ l : List Int, l.Pairwise (· ≤ ·) → (insInt a l).Pairwise (· ≤ ·)
  | [], _ => by simp [insInt]
  | b :: l, h => by
    unfold insInt
    obtain ⟨h1, h2⟩ := List.pairwise_cons.mp h
    split
    · rename_i c
      refine List.pairwise_cons.mpr ⟨fun x hx => ?_, h⟩
      rcases List.mem_cons.mp hx with e | hx
      · subst e; exact c
      · exact Int.le_trans c (h1 x hx)
    · rename_i c
      refine List.pairwise_cons.mpr ⟨fun x hx => ?_, insInt_pw a l h2⟩
      rcases List.mem_cons.mp ((insInt_perm a l).mem_iff.mp hx) with e | hx
      · subst e; omega
      · exact h1 x hx
theorem sortInt_pw : ∀ l : List Int, (sortInt l).Pairwise (· ≤ ·)
  | [] => .nil
  | a :: l => insInt_pw a _ (sortInt_pw l)
theorem sortInt_of {a b : List Int} (h : a.Perm b) (p : a.Pairwise (· ≤ ·)) : a = sortInt b := PySem.W.ksm_same (h.trans (sortInt_perm b).symm) p (sortInt_pw b)
theorem factN_eq : ∀ n : Fin 21, ((Builtin.Math.factorialNat n.val : Nat) : Int) = factN n.val := by decide +kernel
theorem factN_size : ∀ n : Fin 21, (factN n.val).natAbs.log2 < bitsLine := by decide +kernel
theorem vals_intsAre : ∀ {us : List Value} {ns : List Int}, IntsAre us ns → Vals (ns.map V.int) us
  | _, _, .nil => .nil
  | _, _, .cons n t r => .cons ⟨t, rfl⟩ (vals_intsAre r)

/-- values at levels -/
def ArgL (K : PySem.W.Frag) (P : Addr → Prop) (He H : Hp) : List Nat → List T → List V → Prop
  | [], [], vs => vs = []
  | n :: ns, t :: ts, vs => ∃ v r, vs = v :: r ∧ RepL K P He H n t v ∧ ArgL K P He H ns ts r
  | _, _, _ => False
def biR (K : PySem.W.Frag) (P : Addr → Prop) (He : Hp) (ns : List Nat) (k : Nat) (b : Bi) : List V → Hp → VK → Prop := fun xs H Q => Vw P He H ∧ ∃ ts, ArgL K P He H ns ts xs ∧ Out K P He k true H Q (biT b ts)
section
variable {X : Cx} {P : Addr → Prop} {He : Hp} {n m : Nat}
theorem ArgL.one {K : PySem.W.Frag} {H : Hp} {n : Nat} {ts : List T} {vs : List V} (h : ArgL K P He H [n] ts vs) : ∃ t v, ts = [t] ∧ vs = [v] ∧ RepL K P He H n t v := by
  match ts, h with
  | [], h => exact h.elim
  | [t], h =>
    obtain ⟨v, r, rfl, h1, h2⟩ := h
    have e : r = [] := h2
    subst e
    exact ⟨t, v, rfl, rfl, h1⟩
  | t :: u :: ts, h =>
    obtain ⟨v, r, rfl, h1, h2⟩ := h
    exact h2.elim
theorem ArgL.two {K : PySem.W.Frag} {H : Hp} {n m : Nat} {ts : List T} {vs : List V} (h : ArgL K P He H [n, m] ts vs) : ∃ t u v x, ts = [t, u] ∧ vs = [v, x] ∧ RepL K P He H n t v ∧ RepL K P He H m u x := by
  match ts, h with
  | [], h => exact h.elim
  | t :: ts, h =>
    obtain ⟨v, r, rfl, h1, h2⟩ := h
    obtain ⟨u, x, rfl, rfl, h3⟩ := ArgL.one h2
    exact ⟨t, u, v, x, rfl, rfl, h1, h3⟩
theorem bi_len : CallR X (.builtin "len") (biR X.K P He [n] 2 .len) := by
  intro pins s σ H xs us Q I rx h
  obtain ⟨w, ts, r, o⟩ := h
  obtain ⟨t, v, rfl, rfl, r1⟩ := r.one
  revert o
  cases t with
  | lst ys =>
    intro o
    obtain ⟨a, vs, rfl, q1, k1⟩ := r1.lst
    exact call_len pins s σ H _ us Q I rx ⟨_, _, rfl, .inl ⟨vs, SqL.of q1, rfl⟩, by rw [k1.length]; exact out_scal _ (by decide) o rfl⟩
  | tup ys =>
    intro o
    obtain ⟨a, vs, rfl, q1, k1⟩ := r1.tup
    exact call_len pins s σ H _ us Q I rx ⟨_, _, rfl, .inr ⟨vs, q1, rfl⟩, by rw [k1.length]; exact out_scal _ (by decide) o rfl⟩
  | scr ys =>
    intro o
    obtain ⟨a, vs, rfl, q1, k1⟩ := r1.scr
    exact call_len pins s σ H _ us Q I rx ⟨_, _, rfl, .inl ⟨vs, q1.sq, rfl⟩, by rw [k1.length]; exact out_scal _ (by decide) o rfl⟩
  | str y =>
    intro o
    have e1 := r1.str; subst e1
    simp only [biT] at o
    split at o
    · rename_i c
      exact call_len pins s σ H _ us Q I rx ⟨_, y.length, rfl, ⟨c, rfl⟩, out_scal _ (by decide) o rfl⟩
    · exact o.elim
  | _ => intro o; exact o.elim
theorem bi_toInt : CallR X (.type "int") (biR X.K P He [n] 2 .toInt) := by
  intro pins s σ H xs us Q I rx h
  obtain ⟨w, ts, r, o⟩ := h
  obtain ⟨t, v, rfl, rfl, r1⟩ := r.one
  revert o
  cases t with
  | int i =>
    intro o
    have e1 := r1.int; subst e1
    exact call_int1 pins s σ H _ us Q I rx (.inl ⟨i, rfl, out_scal _ (by decide) o rfl⟩)
  | bl b =>
    intro o
    have e1 := r1.bl; subst e1
    exact call_int1 pins s σ H _ us Q I rx (.inr ⟨b, rfl, out_scal _ (by decide) o rfl⟩)
  | _ => intro o; exact o.elim
theorem bi_abs : CallR X (.builtin "abs") (biR X.K P He [n] 2 .abs) := by
  intro pins s σ H xs us Q I rx h
  obtain ⟨w, ts, r, o⟩ := h
  obtain ⟨t, v, rfl, rfl, r1⟩ := r.one
  revert o
  cases t with
  | int i =>
    intro o
    have e1 := r1.int; subst e1
    exact call_abs pins s σ H _ us Q I rx ⟨i, rfl, out_scal _ (by decide) o rfl⟩
  | _ => intro o; exact o.elim
theorem bi_min2 (hc : X.calm = true) : CallR X (.builtin "min") (biR X.K P He [n, m] 2 .min2) := by
  intro pins s σ H xs us Q I rx h
  obtain ⟨w, ts, r, o⟩ := h
  obtain ⟨t, u, v, x, rfl, rfl, r1, r2⟩ := r.two
  revert o
  cases t with
  | int i =>
    cases u with
    | int j =>
      intro o
      have e1 := r1.int; have e2 := r2.int; subst e1; subst e2
      exact call_min2 hc pins s σ H _ us Q I rx ⟨i, j, rfl, out_scal _ (by decide) o rfl⟩
    | _ => intro o; exact o.elim
  | _ => intro o; exact o.elim
theorem bi_max2 (hc : X.calm = true) : CallR X (.builtin "max") (biR X.K P He [n, m] 2 .max2) := by
  intro pins s σ H xs us Q I rx h
  obtain ⟨w, ts, r, o⟩ := h
  obtain ⟨t, u, v, x, rfl, rfl, r1, r2⟩ := r.two
  revert o
  cases t with
  | int i =>
    cases u with
    | int j =>
      intro o
      have e1 := r1.int; have e2 := r2.int; subst e1; subst e2
      exact call_max2 hc pins s σ H _ us Q I rx ⟨i, j, rfl, out_scal _ (by decide) o rfl⟩
    | _ => intro o; exact o.elim
  | _ => intro o; exact o.elim
theorem bi_fact : CallR X (.builtin "math.factorial") (biR X.K P He [n] 2 .fact) := by
  intro pins s σ H xs us Q I rx h
  obtain ⟨w, ts, r, o⟩ := h
  obtain ⟨t, v, rfl, rfl, r1⟩ := r.one
  revert o
  cases t with
  | int i =>
    intro o
    have e1 := r1.int; subst e1
    simp only [biT] at o
    split at o
    · rename_i c
      obtain ⟨u, rfl, t, rfl⟩ := vals1 rx
      have hi : i.toNat < 21 := by omega
      have f1 := factN_eq ⟨i.toNat, hi⟩
      have f2 := factN_size ⟨i.toNat, hi⟩
      refine PySem.W.mg_factorial_v (c := factN i.toNat) ?_ (by omega) ?_ f1 f2 ⟨.int (factN i.toNat), H, I.tok _, ⟨_, rfl⟩, out_scal _ (by decide) o rfl⟩
      · have e : (20 : Int) ≤ Builtin.Math.maxSsize := by decide
        omega
      · have e : (20 : Int) ≤ Builtin.Math.manyFactors := by decide
        omega
    · exact o.elim
  | _ => intro o; exact o.elim
theorem bi_tupOf : CallR X (.type "tuple") (biR X.K P He [n] (kl n) .tupOf) := by
  intro pins s σ H xs us Q I rx h
  obtain ⟨w, ts, r, o⟩ := h
  obtain ⟨t, v, rfl, rfl, r1⟩ := r.one
  have hk := kl_pos n
  revert o
  cases t with
  | lst ys =>
    intro o
    obtain ⟨a, vs, rfl, q1, k1⟩ := r1.lst
    exact tuple_ofN pins s σ H _ us Q I rx ⟨a, vs, rfl, .inl ⟨SqL.of q1, fun l ob hl ho => o _ _ (same_upd hl) (w.tup hl ho hk k1) fun _ => fresh_new hl⟩⟩
  | tup ys =>
    intro o
    obtain ⟨a, vs, rfl, q1, k1⟩ := r1.tupN
    exact tuple_ofN pins s σ H _ us Q I rx ⟨a, vs, rfl, .inr ⟨q1.sq, out_scal _ hk o ⟨a, vs, rfl, q1, k1⟩⟩⟩
  | _ => intro o; exact o.elim
theorem bi_listOf : CallR X (.type "list") (biR X.K P He [n] (kl n) .listOf) := by
  intro pins s σ H xs us Q I rx h
  obtain ⟨w, ts, r, o⟩ := h
  obtain ⟨t, v, rfl, rfl, r1⟩ := r.one
  have hk := kl_pos n
  revert o
  cases t with
  | lst ys =>
    intro o
    obtain ⟨a, vs, rfl, q1, k1⟩ := r1.lst
    exact call_list_of pins s σ H _ us Q I rx ⟨a, vs, rfl, .inl (SqL.of q1), fun l hl => o _ _ (same_upd hl) (w.lst hl hk k1) fun _ => fresh_new hl⟩
  | tup ys =>
    intro o
    obtain ⟨a, vs, rfl, q1, k1⟩ := r1.tup
    exact call_list_of pins s σ H _ us Q I rx ⟨a, vs, rfl, .inr q1, fun l hl => o _ _ (same_upd hl) (w.lst hl hk k1) fun _ => fresh_new hl⟩
  | _ => intro o; exact o.elim

/-- sorted(t), t a tuple of ints -/
theorem sorted_ints_tup {prog : Program} {w : World} {A : Around} {E : Value → Shared → Prop} {s : Shared} {l : Addr} {vs : List Value} {ns : List Int} {Q : Value → Shared → Prop} (hl : IsTup s.heap l vs.toArray) (hI : IntsAre vs ns) (hL : vs.length ≤ sizeLine)
    (h : ∀ (out : Array Value) (ns' : List Int) (h1 h' : Heap) (e : Nat), (∀ b o, s.heap.get? b = some o → h1.get? b = some o) → (∀ b o, h1.get? b = some o → h'.get? b = some o) → h'.get? h1.objs.size = some (seqObj "list" out e) → IntsAre out.toList ns' → ns'.Perm ns → ns'.Pairwise (· ≤ ·) → Q (.ref h1.objs.size) { s with heap := h' }) :
    wpAny (model prog w) A (call (.builtin "sorted") [.ref l]) Q E s := by
  obtain ⟨o, ho, hc, n, hd⟩ := hl
  refine Calls.call_function_entry kind_sorted plain_sorted entry_sorted (args_sorted1 _) ?_
  unfold Builtin.«sorted»
  refine wpAny_bind (m := checkCount "sorted" 1 1 _) (wpAny_pure ?_)
  refine wpAny_bind (wpAny_collect_seq l (.inr rfl) ho hc hd (fun h1 k1 => ?_) (by simpa using hL))
  refine wpAny_bind (wpAny_newList ?_)
  have hoL : (h1.push (seqObj "list" vs.toArray 0)).get? h1.objs.size = some (seqObj "list" vs.toArray 0) := Heap.get?_push_size _ rfl
  refine wpAny_bind (wpAny_holding (wpAny_call_entry slot_list_sort ⟨_, hoL, rfl⟩ entry_list_sort (list_sort_treeAny hoL hI hL fun out ns' a1 a2 a3 => ⟨_, rfl, ?_⟩) (args_list_sort _)))
  obtain ⟨e, he⟩ := sortedHeap_at (vs := vs) (out := out) hoL
  exact wpAny_pure ⟨_, rfl, h out ns' h1 _ e k1 (fun b u q => (sortedHeap_old (Nat.ne_of_lt (Heap.lt_size q)) (by rw [Heap.size_push]; exact Nat.lt_succ_of_lt (Heap.lt_size q))).trans (Heap.get?_push_of_some _ q)) he a1 a2 a3⟩
theorem each_of_reps {K : PySem.W.Frag} {A : Addr → Prop} {H : Hp} : ∀ {ts : List T} {vs : List V} {us : List Value}, Reps K A H ts vs → Vals vs us → PySem.W.EachIs (fun u (b : T × V) => RelV b.2 u ∧ Rep K A H b.1 b.2) us (ts.zip vs)
  | [], vs, us, h, r => by cases h; cases r; exact .nil
  | t :: ts, vs, us, h, r => by
    obtain ⟨v, l, rfl, h1, h2⟩ := h
    cases r with
    | cons r1 r2 => exact .cons ⟨r1, h1⟩ (each_of_reps h2 r2)
theorem reps_of_each {K : PySem.W.Frag} {A : Addr → Prop} {H : Hp} : ∀ {bs : List (T × V)} {us : List Value}, PySem.W.EachIs (fun u (b : T × V) => RelV b.2 u ∧ Rep K A H b.1 b.2) us bs → Reps K A H (bs.map Prod.fst) (bs.map Prod.snd) ∧ Vals (bs.map Prod.snd) us
  | _, _, .nil => ⟨Reps.nil, .nil⟩
  | _, _, .cons h t => ⟨Reps.cons h.2 (reps_of_each t).1, .cons h.1 (reps_of_each t).2⟩
theorem zip_fst : ∀ {ts : List T} {vs : List V}, vs.length = ts.length → (ts.zip vs).map Prod.fst = ts
  | [], [], _ => rfl
  | [], _ :: _, h => by simp at h
  | _ :: _, [], h => by simp at h
  | t :: ts, v :: vs, h => by
    simp only [List.zip_cons_cons, List.map_cons]
    rw [zip_fst (by simpa using h)]
/-- sorted of tuples that can be compared -/
theorem sorted_deep {pins : List (Addr × Obj)} {σ : L2.St} {H : Hp} {s : Shared} {a : Addr} {xs : List T} {vs : List V} {Q : VK} {B : Addr → Prop} (I : Inv X pins σ H s) (hv : H a = some (.lst vs)) (rs : Reps X.K B H xs vs) (ok : sortOk xs = true) (hu : X.A.units + 70 < cLine)
    (q : ∀ p H' zs, Same H H' → H p = none → H' p = some (.lst zs) → (∀ C : Addr → Prop, Reps X.K C H' (sortT xs) zs) → Q (.ref p) H') :
    wpAny (model X.prog X.w) X.A (call (.builtin "sorted") [.ref a]) (EP X pins σ Q) X.xe s := by
  unfold sortOk at ok
  simp only [Bool.and_eq_true, List.all_eq_true] at ok
  obtain ⟨ok1, ok2⟩ := ok
  obtain ⟨its, rv, hl, hz⟩ := I.list (SqL.of hv)
  have e1 := each_of_reps rs rv
  have hlen : (xs.zip vs).length = xs.length := by rw [List.length_zip, rs.length, Nat.min_self]
  have hmem : ∀ b ∈ xs.zip vs, b.1 ∈ xs := fun b hb => (List.of_mem_zip hb).1
  have dep : ∀ b ∈ xs.zip vs, b.1.toD.depth ≤ 64 := fun b hb => by
    have h := (ok1 _ (hmem b hb)).1.2
    have h2 : (b.1.toD.canLay0 && decide (b.1.toD.depth ≤ 64)) = true := h
    rw [Bool.and_eq_true, decide_eq_true_eq] at h2
    exact h2.2
  refine PySem.W.sorted_data (enc := fun b : T × V => b.1.toD) hl.isList e1 (e1.mono fun u b h => Dp.reads I _ _ _ (Rep.dp _ _ h.2) h.1) ?_ ?_ (by rw [hlen, ← rs.length]; exact hz) (fun b hb => by have := dep b hb; omega) fun out ho eo => ?_
  · intro d hd d' hd'
    obtain ⟨b, hb, rfl⟩ := List.mem_map.mp hd
    obtain ⟨b', hb', rfl⟩ := List.mem_map.mp hd'
    exact (ok1 _ (hmem b hb)).2 _ (hmem b' hb')
  · refine .inl fun d hd => ?_
    obtain ⟨b, hb, rfl⟩ := List.mem_map.mp hd
    have h := ok2 _ (hmem b hb)
    split at h
    · rename_i x r e
      exact ⟨x.toD, toDL r, by rw [e]; simp [T.toD, toDL]⟩
    · cases h
  · obtain ⟨r1, r2⟩ := reps_of_each eo
    have es : ((xs.zip vs).mergeSort (PySem.W.dataLe false fun b : T × V => b.1.toD)).map Prod.fst = sortT xs := by
      have h := List.map_mergeSort (r := PySem.W.dataLe false fun b : T × V => b.1.toD) (s := PySem.W.dataLe false T.toD) (f := Prod.fst) (l := xs.zip vs) (fun _ _ _ _ => rfl)
      rw [h, zip_fst rs.length]
      rfl
    rw [es] at r1
    have hzl : (((xs.zip vs).mergeSort (PySem.W.dataLe false fun b : T × V => b.1.toD)).map Prod.snd).length ≤ sizeLine := by
      rw [List.length_map, List.length_mergeSort, hlen, ← rs.length]
      exact hz
    generalize ((xs.zip vs).mergeSort (PySem.W.dataLe false fun b : T × V => b.1.toD)).map Prod.snd = zs at r1 r2 hzl
    have hd : s.heap.objs.size ≤ s.heap.objs.size + 1 := Nat.le_succ _
    have hf := I.hok.fresh hd
    obtain ⟨n, hn⟩ := sortedAll_at s.heap its out.toArray
    refine ⟨.ref (s.heap.objs.size + 1), _, I.laid (t' := s.toks) (o := .lst zs) (fun b u e => sortedAll_old e) hd ⟨hzl, out, n, r2, hn⟩, rfl, q _ _ zs (same_upd hf) hf upd_same fun C => ?_⟩
    have fl : flatL (sortT xs) = true := by
      have h : ∀ ts : List T, (∀ t ∈ ts, t.flat = true) → flatL ts = true := by
        intro ts
        induction ts with
        | nil => intro _; simp [flatL]
        | cons t ts ih => intro h; simp only [flatL, Bool.and_eq_true]; exact ⟨h t (by simp), ih fun u hu => h u (by simp [hu])⟩
      exact h _ fun t ht => (ok1 t ((List.mergeSort_perm xs _).mem_iff.mp ht)).1.1
    exact (Reps.flat (A' := C) (fun _ _ e _ => e) _ _ fl r1).same (same_upd hf)
theorem bi_sorted (hu : X.A.units + 70 < cLine) : CallR X (.builtin "sorted") (biR X.K P He [n] 2 .sorted) := by
  intro pins s σ H xs us Q I rx h
  obtain ⟨w, ts, r, o⟩ := h
  obtain ⟨t, v, rfl, rfl, r1⟩ := r.one
  simp only [biT] at o
  split at o
  · rename_i ns hns
    split at o
    · rename_i hlen
      have tupc : ∀ ys a vs, t = .tup ys → v = .ref a → SqT X.K H a vs → vs = ns.map V.int → wpAny (model X.prog X.w) X.A (call (.builtin "sorted") us) (EP X pins σ Q) X.xe s := by
        intro ys a vs et ev q1 evs
        subst ev evs
        rw [Vals.ref1 rx]
        obtain ⟨its, rv, ht, hz⟩ := I.tuple q1
        have hl := rv.length
        refine sorted_ints_tup ht rv.ints (by omega) fun out ns' h1 h' e k1 k2 he a1 a2 a3 => ?_
        have es := sortInt_of a2 a3
        subst es
        have I1 : Inv X pins σ H { s with heap := h1 } := I.kept (t' := s.toks) k1
        have hf : H h1.objs.size = none := I1.hok.fresh (Nat.le_refl _)
        have va := vals_intsAre a1
        have hlen2 : ((sortInt ns).map V.int).length ≤ sizeLine := by rw [List.length_map, a2.length_eq]; exact small64 hlen
        have new : ObjOk X.prog X.w (upd H h1.objs.size (.lst ((sortInt ns).map V.int))) h' h1.objs.size (.lst ((sortInt ns).map V.int)) := ⟨hlen2, out.toList, e, va, he⟩
        refine ⟨.ref h1.objs.size, _, I1.laid (t' := s.toks) k2 (Nat.le_refl _) new, rfl, ?_⟩
        exact o _ _ (same_upd hf) (w.lst hf (by decide) (Reps.of_ints _)) fun _ => fresh_new hf
      have lstc : ∀ a vs, v = .ref a → SqL X.K H a vs → vs = ns.map V.int → wpAny (model X.prog X.w) X.A (call (.builtin "sorted") us) (EP X pins σ Q) X.xe s := by
        intro a vs ev q1 evs
        subst ev evs
        refine cr_sorted pins s σ H _ us Q I rx ⟨a, ns, rfl, q1, hlen, fun ns' p a2 a3 hp => ?_⟩
        have es := sortInt_of a2 a3
        subst es
        exact o _ _ (same_upd hp) (w.lst hp (by decide) (Reps.of_ints _)) fun _ => fresh_new hp
      cases t with
      | lst ys =>
        obtain ⟨a, vs, rfl, q1, k1⟩ := r1.lst
        exact lstc a vs rfl (SqL.of q1) (k1.ints hns)
      | scr ys =>
        obtain ⟨a, vs, rfl, q1, k1⟩ := r1.scr
        exact lstc a vs rfl q1.sq (k1.ints hns)
      | tup ys =>
        obtain ⟨a, vs, rfl, q1, k1⟩ := r1.tup
        exact tupc ys a vs rfl rfl q1 (k1.ints hns)
      | _ => simp [listOf?] at hns
    · exact o.elim
  · cases t with
    | lst ys =>
      dsimp only at o
      split at o
      · rename_i hok
        obtain ⟨a, vs, rfl, q1, k1⟩ := r1.lst
        obtain ⟨u, rfl, ru⟩ := vals1 rx
        obtain rfl : u = Value.ref a := ru
        refine sorted_deep I q1 k1 hok hu ?_
        intro p H' zs sm hp hv rs
        exact o _ _ sm (by
          rw [repL_pos (by decide)]
          exact ⟨p, zs, rfl, ⟨hv, w.new hp⟩, rs _⟩) fun _ => fresh_new hp
      · exact o.elim
    | _ => exact o.elim
end
end BV

/-! What holds of a call's slots; the readings of expressions. -/
namespace BV
open PySem PySem.Spec PyProof.Rows L2

/-- which handled exceptions stand where -/
abbrev XN := Addr → Str → List (Str × T) → Prop
def Own (ρ : Env) (σ : L2.St) (a : Addr) : Prop := ∃ (i : Nat) (xs : List T), ρ[i]? = some (some (.own xs)) ∧ σ[i]? = some (some (.ref a))
/-- the addresses of lists that may change -/
def Pr (Ox : Addr → Prop) (ρ : Env) (σ : L2.St) : Addr → Prop := fun a => Ox a ∨ Own ρ σ a
def SlOk (K : PySem.W.Frag) (xn : XN) (Ox P : Addr → Prop) (He H : Hp) (s : Sl) (o : Option (Option V)) : Prop :=
  match s with
  | .val t => ∃ v, o = some (some v) ∧ Rep K (lv P He 2) H t v
  | .par t => ∃ v, o = some (some v) ∧ Rep K (lv P He 1) H t v
  | .own xs => ∃ a vs, o = some (some (.ref a)) ∧ H a = some (.lst vs) ∧ He a = none ∧ ¬ Ox a ∧ Reps K (lv P He 2) H xs vs
  | .exn c fs => ∃ a, o = some (some (.ref a)) ∧ xn a c fs
/-- He: the heap at the entry; Ox: further lists that change; xt: further values that are kept -/
structure FI (K : PySem.W.Frag) (xn : XN) (He : Hp) (Ox : Addr → Prop) (xt : List (Nat × T × V)) (ρ : Env) (σ : L2.St) (H : Hp) : Prop where
  len : σ.length = ρ.length
  sl : ∀ (i : Nat) (s : Sl), ρ[i]? = some (some s) → SlOk K xn Ox (Pr Ox ρ σ) He H s σ[i]?
  inj : ∀ (i j : Nat) (xs ys : List T) (a : Addr), ρ[i]? = some (some (.own xs)) → ρ[j]? = some (some (.own ys)) → σ[i]? = some (some (.ref a)) → σ[j]? = some (some (.ref a)) → i = j
  base : Same He H
  oxd : ∀ a, Ox a → H a ≠ none
  xts : ∀ e ∈ xt, e.1 ≠ 0 ∧ Rep K (lv (Pr Ox ρ σ) He e.1) H e.2.1 e.2.2
section
variable {K : PySem.W.Frag} {xn : XN} {He H H' : Hp} {Ox : Addr → Prop} {xt : List (Nat × T × V)} {ρ : Env} {σ : L2.St}
theorem FI.ownL (F : FI K xn He Ox xt ρ σ H) {a : Addr} (h : Own ρ σ a) : ∃ vs, H a = some (.lst vs) := by
  obtain ⟨i, xs, e1, e2⟩ := h
  obtain ⟨b, vs, e3, e4, _⟩ := F.sl i _ e1
  rw [e2] at e3
  cases e3
  exact ⟨vs, e4⟩
theorem FI.vw (F : FI K xn He Ox xt ρ σ H) : Vw (Pr Ox ρ σ) He H := by
  refine ⟨fun a p e => ?_, F.base⟩
  rcases p with p | p
  · exact F.oxd a p e
  · obtain ⟨vs, q⟩ := F.ownL p
    rw [q] at e; cases e
theorem SlOk.same {P : Addr → Prop} (h : Same H H') {s : Sl} {o : Option (Option V)} (x : SlOk K xn Ox P He H s o) : SlOk K xn Ox P He H' s o := by
  cases s with
  | val t => obtain ⟨v, e, r⟩ := x; exact ⟨v, e, r.same h⟩
  | par t => obtain ⟨v, e, r⟩ := x; exact ⟨v, e, r.same h⟩
  | own xs => obtain ⟨a, vs, e, q, f, ox, r⟩ := x; exact ⟨a, vs, e, h _ _ q, f, ox, r.same h⟩
  | exn c fs => exact x
theorem FI.same (F : FI K xn He Ox xt ρ σ H) (h : Same H H') : FI K xn He Ox xt ρ σ H' := by
  refine ⟨F.len, fun i s e => (F.sl i s e).same h, F.inj, F.base.trans h, fun a p e => ?_, fun e m => ⟨(F.xts e m).1, (F.xts e m).2.same h⟩⟩
  exact F.oxd a p (h.free e)

abbrev WXb := Value → Option Addr → L2.St → Hp → Prop
/-- what is wanted of an evaluation: a value in a grown heap, or an exception -/
def OutE (K : PySem.W.Frag) (mg : Str → Option Value) (W : WXb) (P : Addr → Prop) (He : Hp) (σ : L2.St) (n : Nat) (fr : Bool) (H : Hp) (Q : VK) : Res T → Prop
  | .ok t => ∀ v H', Same H H' → RepL K P He H' n t v → (fr = true → FreshV H t v) → Q v H'
  | .exc c fs => fs = [] ∧ ∀ cv H', Same H H' → mg c = some cv → W cv none σ H'
  | .stuck => False
def OutA (K : PySem.W.Frag) (mg : Str → Option Value) (W : WXb) (P : Addr → Prop) (He : Hp) (σ : L2.St) (ns : List Nat) (H : Hp) (Q : List V → Hp → Prop) : Res (List T) → Prop
  | .ok ts => ∀ vs H', Same H H' → ArgL K P He H' ns ts vs → Q vs H'
  | .exc c fs => fs = [] ∧ ∀ cv H', Same H H' → mg c = some cv → W cv none σ H'
  | .stuck => False
def OutT (mg : Str → Option Value) (W : WXb) (σ : L2.St) (H : Hp) (Q : Bool → Hp → Prop) : Res Bool → Prop
  | .ok b => ∀ H', Same H H' → Q b H'
  | .exc c fs => fs = [] ∧ ∀ cv H', Same H H' → mg c = some cv → W cv none σ H'
  | .stuck => False
variable {mg : Str → Option Value} {W : WXb} {P : Addr → Prop} {n m : Nat} {fr fr' : Bool} {Q Q' : VK}
theorem FreshV.of {t : T} {v : V} (h : Same H H') (x : FreshV H' t v) : FreshV H t v := fun xs a e1 e2 => h.free (x xs a e1 e2)
theorem OutE.mono (h : Same H H') : ∀ {r : Res T}, OutE K mg W P He σ n fr H Q r → OutE K mg W P He σ n fr H' Q r
  | .ok t, o => fun v H2 s r f => o v H2 (h.trans s) r fun e => (f e).of h
  | .exc c fs, o => ⟨o.1, fun cv H2 s q => o.2 cv H2 (h.trans s) q⟩
  | .stuck, o => o
theorem OutT.mono {Q : Bool → Hp → Prop} (h : Same H H') : ∀ {r : Res Bool}, OutT mg W σ H Q r → OutT mg W σ H' Q r
  | .ok t, o => fun H2 s => o H2 (h.trans s)
  | .exc c fs, o => ⟨o.1, fun cv H2 s q => o.2 cv H2 (h.trans s) q⟩
  | .stuck, o => o
theorem OutA.mono {ns : List Nat} {Q : List V → Hp → Prop} (h : Same H H') : ∀ {r : Res (List T)}, OutA K mg W P He σ ns H Q r → OutA K mg W P He σ ns H' Q r
  | .ok t, o => fun vs H2 s => o vs H2 (h.trans s)
  | .exc c fs, o => ⟨o.1, fun cv H2 s q => o.2 cv H2 (h.trans s) q⟩
  | .stuck, o => o
/-- a step, then the rest -/
theorem out_bd {r : Res T} {g : T → Res T} (o : OutE K mg W P He σ m fr H Q (r.bd g)) (k : ∀ t v H', Same H H' → RepL K P He H' n t v → (fr' = true → FreshV H t v) → OutE K mg W P He σ m fr H' Q (g t) → Q' v H') : OutE K mg W P He σ n fr' H Q' r := by
  cases r with
  | ok t => exact fun v H' s rr f => k t v H' s rr f (OutE.mono s (r := g t) o)
  | exc c fs => exact o
  | stuck => exact o
theorem out_bdT {r : Res T} {g : T → Res Bool} {Qt : Bool → Hp → Prop} (o : OutT mg W σ H Qt (r.bd g)) (k : ∀ t v H', Same H H' → RepL K P He H' n t v → OutT mg W σ H' Qt (g t) → Q' v H') : OutE K mg W P He σ n fr' H Q' r := by
  cases r with
  | ok t => exact fun v H' s rr _ => k t v H' s rr (OutT.mono s (r := g t) o)
  | exc c fs => exact o
  | stuck => exact o
theorem out_bdA {ns : List Nat} {r : Res (List T)} {g : List T → Res T} {Qa : List V → Hp → Prop} (o : OutE K mg W P He σ m fr H Q (r.bd g)) (k : ∀ ts vs H', Same H H' → ArgL K P He H' ns ts vs → OutE K mg W P He σ m fr H' Q (g ts) → Qa vs H') : OutA K mg W P He σ ns H Qa r := by
  cases r with
  | ok t => exact fun v H' s rr => k t v H' s rr (OutE.mono s (r := g t) o)
  | exc c fs => exact o
  | stuck => exact o
/-- behind the truth of a value -/
theorem out_truth {t : T} {v : V} {g : Bool → Res T} (rr : RepL K P He H n t v) (o : OutE K mg W P He σ m fr H Q ((truthR t).bd g)) : ∃ k, TruV K v H k ∧ OutE K mg W P He σ m fr H Q (g k) := by
  unfold truthR toSet at o
  cases e : truth t with
  | none => rw [e] at o; exact o.elim
  | some k => rw [e] at o; exact ⟨k, rr.tru e, o⟩
theorem out_truthT {t : T} {v : V} {g : Bool → Res Bool} {Qt : Bool → Hp → Prop} (rr : RepL K P He H n t v) (o : OutT mg W σ H Qt ((truthR t).bd g)) : ∃ k, TruV K v H k ∧ OutT mg W σ H Qt (g k) := by
  unfold truthR toSet at o
  cases e : truth t with
  | none => rw [e] at o; exact o.elim
  | some k => rw [e] at o; exact ⟨k, rr.tru e, o⟩

/-- the reading of an expression whose value is f of the slots -/
def rdE (K : PySem.W.Frag) (mg : Str → Option Value) (xn : XN) (W : WXb) (n : Nat) (fr : Bool) (f : Env → Res T) : TE := fun σ H Q => ∃ He Ox ρ xt, FI K xn He Ox xt ρ σ H ∧ OutE K mg W (Pr Ox ρ σ) He σ n fr H Q (f ρ)
def rdA (K : PySem.W.Frag) (mg : Str → Option Value) (xn : XN) (W : WXb) (ns : List Nat) (f : Env → Res (List T)) : TA := fun σ H Q => ∃ He Ox ρ xt, FI K xn He Ox xt ρ σ H ∧ OutA K mg W (Pr Ox ρ σ) He σ ns H Q (f ρ)
def rdT (K : PySem.W.Frag) (mg : Str → Option Value) (xn : XN) (W : WXb) (f : Env → Res Bool) : TT := fun σ H Q => ∃ He Ox ρ xt, FI K xn He Ox xt ρ σ H ∧ OutT mg W σ H Q (f ρ)
end
theorem PE.weak {X : Cx} {e : Expr} {t t' : TE} (h : PE X e t) (hw : ∀ σ H Q, t' σ H Q → t σ H Q) : PE X e t' := ⟨fun pins s σ H Q I q => h.run pins s σ H Q I (hw σ H Q q)⟩
theorem PT.weak {X : Cx} {e : Expr} {t t' : TT} (h : PT X e t) (hw : ∀ σ H Q, t' σ H Q → t σ H Q) : PT X e t' := ⟨fun pins s σ H Q I q => h.run pins s σ H Q I (hw σ H Q q)⟩
theorem PW.weak {X : Cx} {e : Expr} {t t' : TT} (h : PW X e t) (hw : ∀ σ H Q, t' σ H Q → t σ H Q) : PW X e t' := ⟨fun wh pins s σ H Q I q => h.run wh pins s σ H Q I (hw σ H Q q)⟩
theorem PA.weak {X : Cx} {e : List Expr} {t t' : TA} (h : PA X e t) (hw : ∀ σ H Q, t' σ H Q → t σ H Q) : PA X e t' := ⟨fun pos pins s σ H Q I q => h.run pos pins s σ H Q I (hw σ H Q q)⟩
theorem PS.weak {X : Cx} {e : Stmt} {t t' : TS} (h : PS X e t) (hw : ∀ D σ H, t' D σ H → t D σ H) : PS X e t' := ⟨fun pins s σ H D I q => h.run pins s σ H D I (hw D σ H q)⟩
theorem PSs.weak {X : Cx} {e : List Stmt} {t t' : TS} (h : PSs X e t) (hw : ∀ D σ H, t' D σ H → t D σ H) : PSs X e t' := ⟨fun pins s σ H D I q => h.run pins s σ H D I (hw D σ H q)⟩

/-! ### levels of expressions -/
def biLv (b : Bi) (n : Nat) : Nat := match b with
  | .tupOf => kl n | .listOf => kl n
  | _ => 2
mutual
def lvl : IE → Nat
  | .var .val _ => 2
  | .var .par _ => 1
  | .var .own _ => 0
  | .bin _ a b => lvB (lvl a) (lvl b)
  | .and a b => min (lvl a) (lvl b)
  | .or a b => min (lvl a) (lvl b)
  | .ite _ a b => min (lvl a) (lvl b)
  | .tup es => lvls es
  | .lst es => lvls es
  | .idx a _ => kl (lvl a)
  | .slice a _ _ => kl (lvl a)
  | .turn _ a => kl (lvl a)
  | .bi b es => biLv b (lvls es)
  | .comp _ elt _ _ _ => lvl elt
  | .comp2 _ _ _ _ _ _ _ _ elt => lvl elt
  | _ => 2
def lvls : List IE → Nat
  | [] => 2
  | e :: es => min (lvl e) (lvls es)
end
def lvlsL (es : List IE) : List Nat := es.map lvl
theorem biLv_le {b : Bi} {n : Nat} (h : n ≤ 2) : biLv b n ≤ 2 := by
  unfold biLv; split <;> first | exact kl_le h | decide
theorem lvB_le {a b : Nat} (h : a ≤ 2) : lvB a b ≤ 2 := Nat.le_trans (Nat.min_le_left _ _) (kl_le h)
mutual
theorem lvl_le : ∀ e : IE, lvl e ≤ 2
  | .var .val _ => by simp [lvl]
  | .var .par _ => by simp [lvl]
  | .var .own _ => by simp [lvl]
  | .bin _ a b => by simp only [lvl]; exact lvB_le (lvl_le a)
  | .and a b => by simp only [lvl]; have := lvl_le a; omega
  | .or a b => by simp only [lvl]; have := lvl_le a; omega
  | .ite _ a b => by simp only [lvl]; have := lvl_le a; omega
  | .tup es => by simp only [lvl]; exact lvls_le es
  | .lst es => by simp only [lvl]; exact lvls_le es
  | .idx a _ => by simp only [lvl]; exact kl_le (lvl_le a)
  | .slice a _ _ => by simp only [lvl]; exact kl_le (lvl_le a)
  | .turn _ a => by simp only [lvl]; exact kl_le (lvl_le a)
  | .bi b es => by simp only [lvl]; exact biLv_le (lvls_le es)
  | .comp _ elt _ _ _ => by simp only [lvl]; exact lvl_le elt
  | .comp2 _ _ _ _ _ _ _ _ elt => by simp only [lvl]; exact lvl_le elt
  | .int _ => by simp [lvl]
  | .bl _ => by simp [lvl]
  | .non => by simp [lvl]
  | .str _ => by simp [lvl]
  | .gl _ _ => by simp [lvl]
  | .neg _ => by simp [lvl]
  | .cmp _ _ _ => by simp [lvl]
  | .cmp2 _ _ _ _ _ => by simp [lvl]
  | .not _ => by simp [lvl]
  | .call _ _ => by simp [lvl]
  | .meth _ _ _ => by simp [lvl]
  | .chk _ => by simp [lvl]
  | .isE _ _ _ => by simp [lvl]
theorem lvls_le : ∀ es : List IE, lvls es ≤ 2
  | [] => by simp [lvls]
  | e :: es => by simp only [lvls]; have := lvl_le e; omega
end
/-- values of a display -/
theorem argL_reps {K : PySem.W.Frag} {P : Addr → Prop} {He H : Hp} : ∀ {es : List IE} {ts : List T} {vs : List V} {k : Nat}, k ≤ lvls es → k ≠ 0 → ArgL K P He H (lvlsL es) ts vs → Reps K (lv P He k) H ts vs
  | [], [], vs, _, _, _, h => h
  | [], _ :: _, _, _, _, _, h => h.elim
  | _ :: _, [], _, _, _, _, h => h.elim
  | e :: es, t :: ts, vs, k, hk, h0, h => by
    obtain ⟨v, r, rfl, h1, h2⟩ := h
    simp only [lvls] at hk
    have h1' := RepL.down (m := k) (by omega) h0 (lvl_le e) h1
    rw [repL_pos h0] at h1'
    exact Reps.cons h1' (argL_reps (by omega) h0 h2)
theorem ArgL.length {K : PySem.W.Frag} {P : Addr → Prop} {He H : Hp} : ∀ {ns : List Nat} {ts : List T} {vs : List V}, ArgL K P He H ns ts vs → vs.length = ns.length ∧ ts.length = ns.length
  | [], [], vs, h => by cases (show vs = [] from h); exact ⟨rfl, rfl⟩
  | [], _ :: _, _, h => h.elim
  | _ :: _, [], _, h => h.elim
  | n :: ns, t :: ts, vs, h => by
    obtain ⟨v, r, rfl, h1, h2⟩ := h
    have := h2.length
    exact ⟨by simp [this.1], by simp [this.2]⟩
theorem ArgL.same {K : PySem.W.Frag} {P : Addr → Prop} {He H H' : Hp} (s : Same H H') : ∀ {ns : List Nat} {ts : List T} {vs : List V}, ArgL K P He H ns ts vs → ArgL K P He H' ns ts vs
  | [], [], vs, h => h
  | [], _ :: _, _, h => h.elim
  | _ :: _, [], _, h => h.elim
  | n :: ns, t :: ts, vs, h => by
    obtain ⟨v, r, rfl, h1, h2⟩ := h
    exact ⟨v, r, rfl, h1.same s, h2.same s⟩
/-- any value, seen by a callee -/
theorem RepL.all {K : PySem.W.Frag} {P : Addr → Prop} {He H : Hp} {n : Nat} {t : T} {v : V} (r : RepL K P He H n t v) : Rep K (fun _ => True) H t v := by
  by_cases e : n = 0
  · subst e
    rw [repL_zero] at r
    obtain ⟨xs, a, vs, rfl, rfl, h, k⟩ := r
    exact ⟨a, vs, rfl, ⟨h.1, trivial⟩, k.weak fun b _ _ x => ⟨trivial, fun e => x.1 (by rw [e]; exact h.2)⟩⟩
  · rw [repL_pos e] at r
    exact r.weak fun _ _ _ _ => trivial
theorem ArgL.all {K : PySem.W.Frag} {P : Addr → Prop} {He H : Hp} : ∀ {ns : List Nat} {ts : List T} {vs : List V}, ArgL K P He H ns ts vs → Reps K (fun _ => True) H ts vs
  | [], [], vs, h => h
  | [], _ :: _, _, h => h.elim
  | _ :: _, [], _, h => h.elim
  | n :: ns, t :: ts, vs, h => by
    obtain ⟨v, r, rfl, h1, h2⟩ := h
    exact Reps.cons h1.all h2.all
end BV

/-! enumerate over a tuple. -/
namespace BV
open PySem PySem.Spec PyProof.Rows L2

theorem meets_enumerate_newT (l : Addr) (items : Array Value) (n : Nat) (dct : Option Addr) (sl : Array (Option Value)) :
    Meets (Builtin.«enumerate.__new__» ⟨[.type "enumerate", .ref l], []⟩) (fun _ R s => s.heap.get? l = some { cls := .type "tuple", dict := dct, data := .seq items n, slots := sl } ∧
      R (.ok (.ret (.ref (s.heap.push { cls := .type "tuple_iterator", data := .fields #[.ref l, .int 0 0] }).objs.size)))
        { s with heap := (s.heap.push { cls := .type "tuple_iterator", data := .fields #[.ref l, .int 0 0] }).push { cls := .type "enumerate", data := .fields #[.none, .bool false, .ref s.heap.objs.size, rawInt 0, .none, .none] } }) :=
  .of_wp fun prog w A R s h => by
    obtain ⟨hp, g, d, tk, os⟩ := s; obtain ⟨hl, h⟩ := h
    have hsub := sub_enumerate
    have hL : Heap.IsTuple (Shared.heap ⟨hp, g, d, tk, os⟩) l items := ⟨_, hl, rfl, n, rfl⟩
    wp_walk using wpAny_loadPart' hl
    refine wpAny_stack_any fun st => wpAny_pure ?_
    split
    · rename_i c _ _ _ _ _
      cases (c == Value.type "enumerate")
      · wp_walk using wpAny_loadPart' hl, wpAny_pyIter_tuple hL
        exact ⟨_, rfl, h⟩
      · wp_walk using wpAny_loadPart' hl, wpAny_pyIter_tuple hL
        exact ⟨_, rfl, h⟩
    · wp_walk using wpAny_loadPart' hl, wpAny_pyIter_tuple hL
      exact ⟨_, rfl, h⟩
theorem call_enumerate_tuple {prog : Program} {w : World} {A : Around} {E : Value → Shared → Prop} {s : Shared} {l : Addr} {items : Array Value} {Q : Value → Shared → Prop} (hL : s.heap.IsTuple l items)
    (h : ∀ h', IsEnum h' (s.heap.objs.size + 1) s.heap.objs.size 0 .none → h'.IsTupleIter s.heap.objs.size l 0 → h'.objs.size = s.heap.objs.size + 2 →
      (∀ b o, s.heap.get? b = some o → h'.get? b = some o) → Q (.ref (s.heap.objs.size + 1)) { s with heap := h' }) :
    wpAny (model prog w) A (call (.type "enumerate") [.ref l]) Q E s := by
  obtain ⟨⟨c, dct, dt, sl⟩, hl, hc, n, hd⟩ := hL
  replace hc : c = .type "tuple" := hc
  replace hd : dt = .seq items n := hd
  subst hc hd
  refine callType_new F.called_enumerate (by decide) (F.typeCall_enumerate_1 _) (F.newCall_enumerate_1 _) (fun obj => F.args_object_init_2 obj _) F.entry_enumerate_new
    (meets_enumerate_newT l items n dct sl) ⟨hl, ?_⟩
  have hz : (s.heap.push { cls := .type "tuple_iterator", data := .fields #[.ref l, .int 0 0] }).objs.size = s.heap.objs.size + 1 := Heap.size_push ..
  show _ ∧ _
  rw [hz]
  have he : IsEnum ((s.heap.push { cls := .type "tuple_iterator", data := .fields #[.ref l, .int 0 0] }).push
      { cls := .type "enumerate", data := .fields #[.none, .bool false, .ref s.heap.objs.size, rawInt 0, .none, .none] }) (s.heap.objs.size + 1) s.heap.objs.size 0 .none := by
    have := Heap.get?_push_size (s.heap.push { cls := .type "tuple_iterator", data := .fields #[.ref l, .int 0 0] })
      (o := { cls := .type "enumerate", data := .fields #[.none, .bool false, .ref s.heap.objs.size, rawInt 0, .none, .none] }) rfl
    rw [hz] at this; exact this
  refine ⟨⟨_, he, rfl⟩, h _ he ⟨_, Heap.get?_push_of_some _ (Heap.get?_push_size _ rfl), rfl, rfl⟩ (by rw [Heap.size_push, hz]) fun b o x => Heap.get?_push_of_some _ (Heap.get?_push_of_some _ x)⟩

/-- the tuple at a, each item in a new pair -/
def IteT (K : PySem.W.Frag) (a : Addr) : It :=
  ⟨fun i H => ∃ (xs : List V) (x : V), SqT K H a xs ∧ xs[i]? = some x, fun i H v H' => ∃ T x, v = .ref T ∧ H T = none ∧ H' = upd H T (.tup [.int (i : Nat), x]) ∧ ∀ xs, SqT K H a xs → xs[i]? = some x, fun i H => ∃ xs : List V, SqT K H a xs ∧ xs.length ≤ i⟩
theorem turn_enumT {P : Program} {w : World} {K : PySem.W.Frag} {elts : List Expr} {kk : Nat} {tpos : Pos} (a e it : Addr) :
    Turn P w K (.Tuple elts kk tpos) (IteT K a) [e, it] e (fun i h => (∃ old, IsEnum h e it ((i : Nat) : Int) old) ∧ h.IsTupleIter it a i ∧ e ≠ it) where
  mem := by simp
  obj := fun i h st b hb => by
    obtain ⟨⟨old, he⟩, ⟨o, ho, hc, hd⟩, _⟩ := st
    have e' : b = e ∨ b = it := by simpa using hb
    rcases e' with z | z
    · rw [z]; exact ⟨_, he, fun v q => nomatch q⟩
    · rw [z]; exact ⟨o, ho, fun v q => by rw [hd] at q; cases q⟩
  keep := fun i h h' st k => let ⟨⟨old, he⟩, hi, hne⟩ := st; ⟨⟨old, k e (by simp) _ he⟩, hi.at fun o q => k it (by simp) o q, hne⟩
  item := by
    intro X hP hw hK hc i pins s σ H E I hf st hg
    subst hP hw hK
    obtain ⟨⟨old, he⟩, hit, hne⟩ := st
    obtain ⟨xs, x, hq, hx⟩ := hg
    obtain ⟨its, rv, p, hz⟩ := I.tuple hq
    obtain ⟨u, hu, ru⟩ := rv.get hx
    have hel : e < s.heap.objs.size := Heap.lt_size he
    have hil : it < s.heap.objs.size := by obtain ⟨_, q, _⟩ := hit; exact Heap.lt_size q
    have hai : a ≠ it := by
      rintro rfl
      obtain ⟨o1, e1, c1, _⟩ := id p
      obtain ⟨o2, e2, c2, _⟩ := id hit
      rw [e1] at e2; cases e2
      rw [c1] at c2
      injection c2 with c3
      exact absurd c3 (by decide)
    have hae : e ≠ a := by
      rintro rfl
      obtain ⟨o1, e1, c1, _⟩ := id p
      rw [he] at e1; cases e1
      injection (show Value.type "enumerate" = Value.type "tuple" from c1) with c3
      exact absurd c3 (by decide)
    have D := Draws.tuple (prog := X.prog) (w := X.w) (A := X.A.in1) (I.ok.hd hc) it a hai its.toArray
    have hlt : i < its.toArray.size := by
      have := (List.getElem?_eq_some_iff.mp hu).1
      simpa using this
    refine wpAny_pyNext_enum_itemD D he ⟨hit, (show s.heap.IsTuple a its.toArray from p)⟩ hlt hne (by simp; exact ⟨hne, hae⟩) fun x' h' tk hP ho hst' hT hsz hk => ?_
    have ex : x' = u := by
      have hP' : its.toArray[i]? = some x' := hP
      have hu' : its.toArray[i]? = some u := by simpa using hu
      rw [hu'] at hP'; exact (Option.some.inj hP').symm
    subst ex
    refine ⟨_, rfl, wpAny_letOwnedTupleGo_enum (s := { s with heap := h', toks := tk + 1 }) ho fun h'' he' sb => ?_⟩
    have hT2 : h''.get? s.heap.objs.size = some { cls := .type "tuple", data := .seq #[.int i tk, x'] } := (sb.2 _ (Nat.ne_of_gt hel)).trans hT
    have new : ObjOk X.prog X.w (upd H s.heap.objs.size (.tup [.int (i : Nat), x])) h'' s.heap.objs.size (.tup [.int (i : Nat), x]) :=
      ⟨by show 2 ≤ sizeLine; decide, [.int i tk, x'], .cons ⟨_, rfl⟩ (.cons ru .nil), ⟨_, hT2, rfl, _, rfl⟩⟩
    have I1 : Inv X pins σ (upd H s.heap.objs.size (.tup [.int (i : Nat), x])) { s with heap := h'', toks := tk + 1 } :=
      I.turnedNew (ch := [e, it]) (fun b ob hb q => (sb.2 b (fun z => hb (by simp [z]))).trans (hk b ob (fun z => hb (by simp [z])) (fun z => hb (by simp [z])) q)) hf (Nat.le_refl _) new
    refine ⟨.ref s.heap.objs.size, _, I1, rfl, ⟨_, x, rfl, I.hok.fresh (Nat.le_refl _), rfl, fun ys hy => by rw [I.tuple_inj hy hq]; exact hx⟩, ⟨⟨x', ?_⟩, hst'.1.at fun o q => (sb.2 it (Ne.symm hne)).trans q, hne⟩, fun b hb => ?_⟩
    · have e1 : ((i + 1 : Nat) : Int) = (i : Int) + 1 := by omega
      rw [e1]; exact he'
    · have hb' : b < s.heap.objs.size := by
        have e' : b = e ∨ b = it := by simpa using hb
        rcases e' with z | z
        · rw [z]; exact hel
        · rw [z]; exact hil
      rw [upd_ne (Nat.ne_of_lt hb')]
      exact (hf b hb).1
  done := by
    intro X hP hw hK hc i pins s σ H E I hf st hg
    subst hP hw hK
    obtain ⟨⟨old, he⟩, hit, hne⟩ := st
    obtain ⟨xs, hq, hx⟩ := hg
    obtain ⟨its, rv, p, hz⟩ := I.tuple hq
    obtain ⟨f0, f1, f2, f3, f4, f5⟩ := hf it (by simp)
    have hl := rv.length
    have hai : a ≠ it := by
      rintro rfl
      obtain ⟨o1, e1, c1, _⟩ := id p
      obtain ⟨o2, e2, c2, _⟩ := id hit
      rw [e1] at e2; cases e2
      rw [c1] at c2
      injection c2 with c3
      exact absurd c3 (by decide)
    unfold pyNext
    have hT : s.TypeIs (.ref e) "enumerate" := ⟨_, he, rfl⟩
    refine wpAny_bind (wpAny_attempt (wpAny_callSpecial?_slot (name := Str.ofString "__next__") hT F.slot_enumerate_next
      (wpAny_call_entry F.slot_enumerate_next hT F.entry_enumerate_next ?_ (F.args_enumerate_next_1 _))))
    show wpAny _ _ (field (.ref e) 2 >>= _) _ _ _
    refine wpAny_bind (wpAny_field he rfl (x := .ref it) rfl ?_)
    refine wpAny_bind (wpAny_nextOf_tuple_end (I.ok.hd hc) hit (show s.heap.IsTuple a its.toArray from p) (by simp; omega) fun h' x he' hx' => ?_)
    obtain ⟨o, ho, hc'⟩ := hx'
    refine wpAny_bind (wpAny_isInstance (T := "StopIteration") (b := true) ⟨o, ho, hc'⟩ isSubtype_stop ?_)
    exact wpAny_pure ⟨rfl, I.turned (t' := s.toks) (fun b o hb q => he' b o hb q) f0 f1 f3 f4 f5⟩
  self := fun A i s Q E st h => let ⟨⟨_, he⟩, _⟩ := st; wpAny_pyIter_enum he h

/-- enumerate(e), e a list or a tuple -/
def iEnumA (K : PySem.W.Frag) (ta : TA) : TI := fun σ H R => ta σ H fun vs H1 => ∃ a xs, vs = [.ref a] ∧ ((SqL K H1 a xs ∧ (xs.length ≤ sizeLine → R (Ite K a) H1)) ∨ (SqT K H1 a xs ∧ (xs.length ≤ sizeLine → R (IteT K a) H1)))
theorem pi_enumA {X : Cx} {e : Expr} {ta : TA} {p pos tpos : Pos} {elts : List Expr} {kk : Nat} (hg : Gl X "enumerate") (hm : X.mg "enumerate" = none) (ha : PA X [e] ta) (hs : starEach [e] X.env = [(false, eval e X.env)]) :
    PI X (.Tuple elts kk tpos) (.Call (.Name "enumerate" p) [e] [] pos) (iEnumA X.K ta) := by
  refine ⟨fun pins s σ H R I h => ?_⟩
  refine Call_ (ld_blt I hg hm boot_enumerate (PyProof.Rows.callWith_type1 (thn (ha.run pos pins s σ H _ I h) fun us s1 ⟨vs, H1, I1, r1, q1⟩ => ?_) hs rfl))
  obtain ⟨a, xs, ex, q⟩ := q1
  subst ex
  cases r1 with
  | cons r rr =>
    cases rr
    cases r
    have fp : ∀ (h' : Heap) b, b ∈ [s1.heap.objs.size + 1, s1.heap.objs.size] → FpOk X pins H1 b := fun h' b hb => by
      have e' : b = s1.heap.objs.size + 1 ∨ b = s1.heap.objs.size := by simpa using hb
      have hle : s1.heap.objs.size ≤ b := by
        rcases e' with z | z
        · rw [z]; exact Nat.le_add_right _ _
        · rw [z]; exact Nat.le_refl _
      exact I1.fpOk hle (I1.hok.fresh hle)
    rcases q with ⟨hq, q⟩ | ⟨hq, q⟩
    · obtain ⟨its, rv, p', hz⟩ := I1.list hq
      refine call_enumerate_list p'.isList fun h' he hit hsz hk => wpAny_pyIter_enum he ?_
      have I2 : Inv X pins σ H1 { s1 with heap := h' } := I1.kept (t' := s1.toks) hk
      exact ⟨s1.heap.objs.size + 1, [s1.heap.objs.size + 1, s1.heap.objs.size], _, _, H1, rfl, I2, turn_enum a (s1.heap.objs.size + 1) s1.heap.objs.size, ⟨⟨.none, he⟩, hit, Nat.succ_ne_self _⟩, fp h', q hz⟩
    · obtain ⟨its, rv, p', hz⟩ := I1.tuple hq
      refine call_enumerate_tuple (show s1.heap.IsTuple a its.toArray from p') fun h' he hit hsz hk => wpAny_pyIter_enum he ?_
      have I2 : Inv X pins σ H1 { s1 with heap := h' } := I1.kept (t' := s1.toks) hk
      exact ⟨s1.heap.objs.size + 1, [s1.heap.objs.size + 1, s1.heap.objs.size], _, _, H1, rfl, I2, turn_enumT a (s1.heap.objs.size + 1) s1.heap.objs.size, ⟨⟨.none, he⟩, hit, Nat.succ_ne_self _⟩, fp h', q hz⟩
/-- a list or a tuple, walked -/
def iSeq (K : PySem.W.Frag) (tl : TE) : TI := fun σ H R => tl σ H fun x H1 => ∃ a, x = .ref a ∧ ((∃ xs, SqL K H1 a xs ∧ (xs.length ≤ sizeLine → R (Itl K a) H1)) ∨ (∃ xs, SqT K H1 a xs ∧ (xs.length ≤ sizeLine → R (Itt K a) H1)))
theorem pi_seqA {X : Cx} {tg l : Expr} {tl : TE} (hl : PE X l tl) : PI X tg l (iSeq X.K tl) := by
  refine ⟨fun pins s σ H R I h => ?_⟩
  refine thn (hl.run pins s σ H _ I h) fun v s1 ⟨x, H1, I1, r1, q1⟩ => ?_
  obtain ⟨a, e, q⟩ := q1
  subst e
  cases r1
  have fp : ∀ b ∈ [s1.heap.objs.size], FpOk X pins H1 b := fun b hb => by
    have e : b = s1.heap.objs.size := by simpa using hb
    subst e
    exact I1.fpOk (Nat.le_refl _) (I1.hok.fresh (Nat.le_refl _))
  rcases q with ⟨xs, hq, q⟩ | ⟨xs, hq, q⟩
  · obtain ⟨its, rv, p, hz⟩ := I1.list hq
    refine wpAny_pyIter_list p.isList ?_
    exact ⟨s1.heap.objs.size, [s1.heap.objs.size], _, _, H1, rfl, I1.kept (t' := s1.toks) fun b o e => Heap.get?_push_of_some _ e, turn_list a _, ⟨_, Heap.get?_push_size _ rfl, rfl, rfl⟩, fp, q hz⟩
  · obtain ⟨its, rv, p, hz⟩ := I1.tuple hq
    refine wpAny_pyIter_tuple (show s1.heap.IsTuple a its.toArray from p) ?_
    exact ⟨s1.heap.objs.size, [s1.heap.objs.size], _, _, H1, rfl, I1.kept (t' := s1.toks) fun b o e => Heap.get?_push_of_some _ e, turn_tuple a _, ⟨_, Heap.get?_push_size _ rfl, rfl, rfl⟩, fp, q hz⟩
end BV

/-! e[::-1] and e[:0:-1]; the places of items. -/
namespace BV
open PySem PySem.Spec PyProof.Rows L2

/-! ### picks -/
def hiK (k : Bool) : Option Int := if k = true then some 0 else none
def jK (k : Bool) : Nat := if k = true then 1 else 0
theorem fm_congr {α β : Type} {f g : α → Option β} : ∀ {l : List α}, (∀ x ∈ l, f x = g x) → l.filterMap f = l.filterMap g
  | [], _ => rfl
  | a :: l, h => by
    rw [List.filterMap_cons, List.filterMap_cons, h a (by simp), fm_congr fun x hx => h x (by simp [hx])]
theorem takes_get {α : Type} (ys : List α) : ∀ m : Nat, (List.range m).filterMap (fun i => ys[i]?) = ys.take m
  | 0 => rfl
  | m + 1 => by
    rw [List.range_succ, List.filterMap_append, takes_get ys m, List.take_add_one]
    cases h : ys[m]? <;> simp [h]
theorem cutK_take {α : Type} (k : Bool) (xs : List α) : cutK k xs = xs.reverse.take (xs.length - jK k) := by
  cases k with
  | true =>
    simp only [cutK, jK, if_true]
    rw [← List.reverse_drop] <;> simp
  | false =>
    simp only [cutK, jK, Bool.false_eq_true, if_false, Nat.sub_zero]
    rw [← List.length_reverse, List.take_length]
theorem cutK_pick {α : Type} (k : Bool) (xs : List α) : ((List.range (xs.length - jK k)).filterMap fun (i : Nat) => xs[(((xs.length : Nat) : Int) - 1 + (i : Int) * (-1)).toNat]?) = cutK k xs := by
  rw [cutK_take, ← takes_get]
  refine fm_congr fun i hi => ?_
  have h := List.mem_range.mp hi
  rw [List.getElem?_reverse (by omega)]
  congr 1
  omega
theorem cutK_len {α : Type} (k : Bool) (xs : List α) : (cutK k xs).length ≤ xs.length := by
  rw [cutK_take, List.length_take, List.length_reverse]; omega
theorem Reps.cutK {K : PySem.W.Frag} {A : Addr → Prop} {H : Hp} {ts : List T} {vs : List V} (k : Bool) (h : Reps K A H ts vs) : Reps K A H (BV.cutK k ts) (BV.cutK k vs) := by
  cases k with
  | true => exact (h.drop 1).reverse
  | false => exact h.reverse
theorem vals_rev : ∀ {xs : List V} {us : List Value}, Vals xs us → Vals xs.reverse us.reverse
  | _, _, r => r.reverse
theorem vals_cutK (k : Bool) {xs : List V} {us : List Value} (r : Vals xs us) : Vals (cutK k xs) (cutK k us) := by
  cases k with
  | true => exact vals_rev (r.drop 1)
  | false => exact vals_rev r
theorem pickL (k : Bool) (arr : Array Value) : slicePick arr none (hiK k) (some (-1)) = (cutK k arr.toList).toArray := by
  unfold slicePick
  have e : sliceBounds none (hiK k) (some (-1)) arr.size = ((arr.size : Int) - 1, (if k = true then max (-1) (min 0 ((arr.size : Int) - 1)) else -1), -1) := by
    cases k <;> rfl
  rw [e]
  have e2 : sliceRange ((arr.size : Int) - 1) (if k = true then max (-1) (min 0 ((arr.size : Int) - 1)) else -1) (-1) = (List.range (arr.size - jK k)).map fun (i : Nat) => ((arr.size : Int) - 1 + (-1) * (i : Int)).toNat := by
    have g : ∀ a b : Int, sliceRange a b (-1) = (List.range (if a > b then a - b else 0).toNat).map fun (i : Nat) => (a + (-1) * (i : Int)).toNat := by
      intro a b
      unfold sliceRange
      have z : ¬ ((-1 : Int) > 0) := by decide
      simp only [if_neg z, Int.neg_neg, Int.ediv_one]
      congr 3
      split <;> omega
    rw [g]
    congr 2
    cases k with
    | true =>
      simp only [if_true, jK]
      split <;> omega
    | false =>
      simp only [Bool.false_eq_true, if_false, jK]
      split <;> omega
  show (List.filterMap (fun x => arr[x]?) (sliceRange ((arr.size : Int) - 1) (if k = true then max (-1) (min 0 ((arr.size : Int) - 1)) else -1) (-1))).toArray = _
  rw [e2, List.filterMap_map]
  congr 1
  rw [← cutK_pick]
  rw [show arr.toList.length = arr.size from Array.length_toList]
  refine fm_congr fun i _ => ?_
  show arr[((arr.size : Int) - 1 + (-1) * (i : Int)).toNat]? = arr.toList[((arr.size : Int) - 1 + (i : Int) * (-1)).toNat]?
  rw [Array.getElem?_toList, Int.mul_comm]

section
variable {prog : Program} {w : World} {A : Around} {E : Value → Shared → Prop} {s : Shared}
theorem applied_dn {sl : Addr} {v1 v2 v3 : Value} {n : Nat} {k : Bool} {Q : Int × Int × Nat → Shared → Prop} (hs : s.heap.IsSliceOf sl v1 v2 v3) (p1 : IsPart v1 none) (p2 : IsPart v2 (hiK k)) (p3 : IsPart v3 (some (-1)))
    (fin : Q ((n : Int) - 1, -1, n - jK k) s) : wpAny (model prog w) A (Builtin.Slice.sliceApplied (.ref sl) (pure (n : Int))) Q E s := by
  obtain ⟨ob, at1, cl, dat⟩ := id hs
  unfold Builtin.Slice.sliceApplied Builtin.Slice.sliceFields
  refine wpAny_bind (wpAny_bind (wpAny_field at1 dat (x := v1) rfl (wpAny_bind (wpAny_field at1 dat (x := v2) rfl (wpAny_bind (wpAny_field at1 dat (x := v3) rfl (wpAny_pure ?_)))))))
  refine wpAny_bind (HT.slicePart_ p3 ?_)
  show wpAny _ _ (if ((-1 : Int) == 0) = true then _ else _) _ _ s
  rw [if_neg (show ¬ ((-1 : Int) == 0) = true by decide)]
  refine wpAny_bind (HT.slicePart_ p1 (wpAny_bind (HT.slicePart_ p2 (wpAny_bind (wpAny_pure ?_)))))
  have e : Builtin.Slice.sliceAdjust none (hiK k) (-1) (n : Int) = ((n : Int) - 1, if k = true then min 0 ((n : Int) - 1) else -1) := by
    cases k <;> rfl
  have e2 : Builtin.Slice.slicePlaces ((n : Int) - 1) (if k = true then min 0 ((n : Int) - 1) else -1) (-1) = n - jK k := by
    unfold Builtin.Slice.slicePlaces
    rw [if_neg (by decide)]
    cases k with
    | true =>
      simp only [if_true, jK, Int.neg_neg, Int.ediv_one]
      split <;> omega
    | false =>
      simp only [Bool.false_eq_true, if_false, jK, Int.neg_neg, Int.ediv_one]
      split <;> omega
  show wpAny _ _ (match Builtin.Slice.sliceAdjust none (hiK k) (-1) (n : Int) with | (lo, hi) => pure (lo, (-1 : Int), Builtin.Slice.slicePlaces lo hi (-1))) _ _ s
  rw [e]
  show wpAny _ _ (pure ((n : Int) - 1, (-1 : Int), Builtin.Slice.slicePlaces ((n : Int) - 1) (if k = true then min 0 ((n : Int) - 1) else -1) (-1))) _ _ s
  rw [e2]
  exact wpAny_pure fin
theorem get_tup_dn {t sl : Addr} {arr : Array Value} {v1 v2 v3 : Value} {k : Bool} {Q : Value → Shared → Prop} (ht : IsTup s.heap t arr) (hs : s.heap.IsSliceOf sl v1 v2 v3) (p1 : IsPart v1 none) (p2 : IsPart v2 (hiK k)) (p3 : IsPart v3 (some (-1)))
    (fin : Q (.ref s.heap.objs.size) { s with heap := s.heap.push { cls := .type "tuple", data := .seq (cutK k arr.toList).toArray } }) (sz : arr.size ≤ sizeLine) : wpAny (model prog w) A (getItem (.ref t) (.ref sl)) Q E s := by
  have okz : sizeOk (.seq (cutK k arr.toList).toArray) := by
    have h1 : (cutK k arr.toList).length ≤ sizeLine := Nat.le_trans (cutK_len k arr.toList) (by rw [Array.length_toList]; exact sz)
    show (cutK k arr.toList).toArray.size ≤ sizeLine
    rw [List.size_toArray]
    exact h1
  obtain ⟨ob, at1, cl, dat⟩ := id hs
  have tS : s.TypeIs (.ref sl) "slice" := ⟨ob, at1, cl⟩
  unfold getItem
  try with_reducible refine wpAny_holding ?_
  first | refine wpAny_bind (wpAny_pure ?_) | skip
  refine wpAny_bind (wpAny_sequenceKey ht.typeIs (by decide) ?_)
  refine wpAny_bind (wpAny_callSpecial?_slot (name := Str.ofString "__getitem__") ht.typeIs PyProof.Rows.slot_tuple_getitem (wpAny_call_entry PyProof.Rows.slot_tuple_getitem ht.typeIs entry_tuple_getitem ?_ (args_tuple_getitem _ _)))
  show wpAny _ _ (Builtin.Tuple.tupleItemsOf (.ref t) >>= _) _ _ s
  refine wpAny_bind (tupleItemsOf_ ht ?_)
  refine wpAny_bind (wpAny_typeOf tS ?_)
  rw [if_pos (show ((Value.type "slice" == Value.type "slice") = true) by decide)]
  refine wpAny_bind (applied_dn (k := k) hs p1 p2 p3 ?_)
  have no : ¬ ((((arr.size : Nat) : Int) - 1 == 0 && (-1 : Int) == 1 && (arr.size - jK k) == arr.size) = true) := by
    intro q
    rw [Bool.and_eq_true, Bool.and_eq_true] at q
    exact absurd q.1.2 (by decide)
  show wpAny _ _ (if ((((arr.size : Nat) : Int) - 1 == 0 && (-1 : Int) == 1 && (arr.size - jK k) == arr.size) = true) then _ else _) _ _ s
  rw [if_neg no]
  have e : ((List.range (arr.size - jK k)).filterMap fun (i : Nat) => arr[(((arr.size : Nat) : Int) - 1 + (i : Int) * (-1)).toNat]?) = cutK k arr.toList := by
    rw [← cutK_pick, Array.length_toList]
    refine fm_congr fun i _ => ?_
    rw [Array.getElem?_toList]
  rw [e]
  first
    | exact wpAny_bind (wpAny_newObj_type (wpAny_pure ⟨_, rfl, wpAny_pure fin⟩) okz)
    | exact wpAny_bind (wpAny_bind (wpAny_newObj_type (wpAny_pure (wpAny_pure ⟨_, rfl, wpAny_pure fin⟩)) okz))
    | exact wpAny_bind (wpAny_bind (wpAny_newObj_type (wpAny_pure ⟨_, rfl, wpAny_pure fin⟩) okz))
end
def turnR (K : PySem.W.Frag) (P : Addr → Prop) (He : Hp) (n : Nat) (cut : Bool) : V → Hp → VK → Prop := fun x H Q => Vw P He H ∧ ∃ tx, RepL K P He H n tx x ∧ Out K P He (kl n) true H Q (turnT cut tx)
def tTurn (K : PySem.W.Frag) (n : Nat) (cut : Bool) (te : TE) : TE := fun σ H Q => te σ H fun x H1 => ∃ P He, turnR K P He n cut x H1 Q
/-- the slice's upper bound in the text -/
def cutX (cut : Bool) : Option Expr → Bool
  | none => !cut
  | some (.Constant (.int 0) _ _) => cut
  | _ => false
section
variable {X : Cx}
theorem pe_turn {e : Expr} {te : TE} {n : Nat} {cut : Bool} {up : Option Expr} {k : Nat} {p1 p2 p3 pos : Pos} (hu : cutX cut up = true) (he : PE X e te) : PE X (.Subscript e (.Slice none up (some (.UnaryOp .USub (.Constant (.int 1) k p1) p2)) p3) pos) (tTurn X.K n cut te) := by
  have pu : PO X up (fun σ H Q => Q (hiK cut) H) := by
    unfold cutX at hu
    split at hu
    · have : cut = false := by simpa using hu
      subst this
      exact ⟨fun pins s σ H Q I h => po_none.run pins s σ H Q I h⟩
    · subst hu
      exact ⟨fun pins s σ H Q I h => (po_some (pe_int (i := 0))).run pins s σ H Q I ⟨0, rfl, h⟩⟩
    · cases hu
  refine ⟨fun pins s σ H Q I h => ?_⟩
  refine Subscript_ (thn (he.run pins s σ H _ I h) fun v s1 ⟨x, H1, I1, r1, q1⟩ => ?_)
  obtain ⟨P, He, vw, tx, rx, o⟩ := q1
  have st : PO X (some (.UnaryOp .USub (.Constant (.int 1) k p1) p2)) (tPart (tUn (rU fun i => .int (-i)) (tC (.int 1)))) := po_some (pe_un un_neg pe_int)
  refine wpAny_Slice (thn (po_none.run pins s1 σ H1 (fun o H2 => o = none ∧ H2 = H1) I1 ⟨rfl, rfl⟩) fun vl s2 ⟨l, H2, I2, pl, el, e2⟩ => ?_)
  subst el e2
  refine thn (pu.run pins s2 σ H2 (fun o H3 => o = hiK cut ∧ H3 = H2) I2 ⟨rfl, rfl⟩) fun vu s3 ⟨u, H3, I3, pu', eu, e3⟩ => ?_
  subst eu e3
  refine thn (st.run pins s3 σ H3 (fun o H4 => o = some (-1) ∧ H4 = H3) I3 ⟨1, rfl, -1, rfl, rfl, rfl⟩) fun vs s4 ⟨oo, H4, I4, ps, eo, e4⟩ => ?_
  subst eo e4
  have I5 : Inv X pins σ H4 { s4 with heap := s4.heap.push { cls := .type "slice", data := .fields #[vl, vu, vs] } } := I4.kept (t' := s4.toks) fun b ob q => Heap.get?_push_of_some _ q
  have hk := kl_pos n
  revert o
  unfold turnT
  split <;> intro o
  · obtain ⟨a, ws, rfl, q1, k1⟩ := rx.lst
    cases r1
    obtain ⟨its, r, ht, hz⟩ := I5.list (SqL.of q1)
    have hlen := r.length
    show wpAny (model X.prog X.w) X.A (subscriptTail e (.Slice none up (some (.UnaryOp .USub (.Constant (.int 1) k p1) p2)) p3) (.ref a) (.ref s4.heap.objs.size)) (EP X pins σ Q) X.xe { s4 with heap := s4.heap.push { cls := .type "slice", data := .fields #[vl, vu, vs] } }
    refine tail_any (ops := [.ref a, .ref s4.heap.objs.size]) ht.isList.typeIs (PySem.slot_list_getitem.lookup) ?_ (by with_unfolding_all rfl)
    refine wpAny_getItem_list_slice ht.isList (Heap.IsSliceOf.new _ vl vu vs) pl pu' ps (by decide) ?_ (by rw [List.size_toArray]; omega)
    rw [pickL]
    have hf := I5.hok.fresh (Nat.le_refl _)
    refine ⟨.ref _, _, I5.laid (t' := s4.toks) (o := .lst (cutK cut ws)) (fun b ob q => Heap.get?_push_of_some _ q) (Nat.le_refl _) ?_, rfl, o _ _ (same_upd hf) (vw.lst hf hk (k1.cutK cut)) fun _ => fresh_new hf⟩
    exact ⟨Nat.le_trans (cutK_len cut ws) hz, _, 0, vals_cutK cut r, Heap.get?_push_size _ rfl⟩
  · obtain ⟨a, ws, rfl, q1, k1⟩ := rx.tup
    cases r1
    obtain ⟨its, r, ht, hz⟩ := I5.tuple q1
    have hlen := r.length
    show wpAny (model X.prog X.w) X.A (subscriptTail e (.Slice none up (some (.UnaryOp .USub (.Constant (.int 1) k p1) p2)) p3) (.ref a) (.ref s4.heap.objs.size)) (EP X pins σ Q) X.xe { s4 with heap := s4.heap.push { cls := .type "slice", data := .fields #[vl, vu, vs] } }
    refine tail_any (ops := [.ref a, .ref s4.heap.objs.size]) ht.typeIs (PyProof.Rows.slot_tuple_getitem.lookup) ?_ (by with_unfolding_all rfl)
    have hf := I5.hok.fresh (Nat.le_refl _)
    refine get_tup_dn (k := cut) ht (Heap.IsSliceOf.new _ vl vu vs) pl pu' ps ?_ (by rw [List.size_toArray]; omega)
    refine Inv.layT (t := s4.toks) I5 (fun b ob q => Heap.get?_push_of_some _ q) (Nat.le_refl _) (Heap.get?_push_size _ rfl) (by simpa using vals_cutK cut r) (Nat.le_trans (cutK_len cut ws) hz) fun p ob hp ho => ?_
    exact o _ _ (same_upd hp) (vw.tup hp ho hk (k1.cutK cut)) fun _ => fresh_new hp
  · exact o.elim
end
end BV

/-! The check that a form is that of an expression of the text, and that the text then keeps to its value. -/
namespace BV
open PySem PySem.Spec PyProof.Rows L2

/-- what is known of names: the defs by number, the module's constants, the built-ins that stand; the def's own names by slot -/
structure Nm where
  fns : List Str
  consts : List (Str × T)
  blt : List Str
  fact : Bool
  /-- own exception classes -/
  excs : List Str
  /-- class, class or built-in class, whether the first is one of the second -/
  subs : List (Str × Str × Bool)
  N : List Str
  calm : Bool
  top : Bool
def Nm.hot (M : Nm) : Nm := { M with calm := false }
def Nm.blk (M : Nm) : Nm := { M with top := false }
def dbgOk (x : Str) : Bool := !(x == ("__debug__" : Str)) && !(x == ("__classdict__" : Str)) && !(x == ("__name__" : Str))
def visB (sc : Scope) (x : Str) : Bool := sc.names.lookup x == some .local || sc.names.lookup x == some .cell || sc.names.lookup x == some .free
def glB (sc : Scope) (x : Str) : Bool := sc.names.lookup x == some .globalImplicit
def stB (M : Nm) (sc : Scope) (x : Str) : Bool := sc.names.lookup x == some .local || (M.top && sc.names.lookup x == some .cell)
def bltB (M : Nm) (sc : Scope) (x : Str) : Bool := glB sc x && dbgOk x && M.blt.contains x
def notStar : Expr → Bool
  | .Starred .. => false
  | _ => true
def notSlice : Expr → Bool
  | .Slice .. => false
  | _ => true
def notSet : Expr → Bool
  | .Set .. => false
  | _ => true
def plainT : Expr → Bool
  | .UnaryOp .Not _ _ => false
  | .BoolOp .. => false
  | .IfExp .. => false
  | .Compare .. => false
  | _ => true
def isTup : Expr → Bool
  | .Tuple .. => true
  | _ => false
/-- the base of a method's call: not super() -/
def noSup : Expr → Bool
  | .Call (.Name _ _) [] [] _ => false
  | _ => true
def sameC : T → T → Bool
  | .int i, .int j => i == j
  | .str x, .str y => x == y
  | _, _ => false
/-- a built-in function: its name, its value -/
def biNm : Bi → Str
  | .len => "len" | .toInt => "int" | .abs => "abs" | .min2 => "min" | .max2 => "max" | .tupOf => "tuple" | .listOf => "list" | .sorted => "sorted" | .fact => "factorial"
  | _ => "__name__"
def biAr : Bi → Nat
  | .len => 1 | .toInt => 1 | .abs => 1 | .min2 => 2 | .max2 => 2 | .tupOf => 1 | .listOf => 1 | .sorted => 1
  | _ => 1000
def biCalm : Bi → Bool
  | .min2 => true | .max2 => true | _ => false
mutual
def chkTg (M : Nm) (sc : Scope) : Tg → Expr → Bool
  | .nm _ i, .Name x _ => M.N[i]? == some x && stB M sc x
  | .tp ts, .Tuple es _ _ => M.calm && chkTgs M sc ts es
  | _, _ => false
def chkTgs (M : Nm) (sc : Scope) : List Tg → List Expr → Bool
  | [], [] => true
  | t :: ts, e :: es => notStar e && chkTg M sc t e && chkTgs M sc ts es
  | _, _ => false
end
mutual
def tgOk : Tg → Nat → Bool
  | .nm .val _, n => n == 2
  | .nm .par _, n => 1 ≤ n
  | .nm .own _, _ => false
  | .tp ts, n => 1 ≤ n && tgOks ts n
def tgOks : List Tg → Nat → Bool
  | [], _ => true
  | t :: ts, n => tgOk t n && tgOks ts n
end
def ownOf (M : Nm) (tg : Tg) : List (Str × Nat) := tg.slots.map fun i => (M.N.getD i "", i)
/-- what stands between the brackets of range, enumerate, zip; of anything else: itself -/
def iterArgs (M : Nm) (sc : Scope) (tg : Expr) : Sk → Expr → Option (List Expr)
  | .plain, e => some [e]
  | .rng1, .Call (.Name f _) [a] [] _ => if f == ("range" : Str) && bltB M sc f then some [a] else none
  | .rng2, .Call (.Name f _) [a, b] [] _ => if f == ("range" : Str) && bltB M sc f then some [a, b] else none
  | .rng3, .Call (.Name f _) [a, b, c] [] _ => if f == ("range" : Str) && bltB M sc f then some [a, b, c] else none
  | .enum, .Call (.Name f _) [a] [] _ => if f == ("enumerate" : Str) && bltB M sc f && isTup tg then some [a] else none
  | .zip, .Call (.Name f _) [a, b] [] _ => if f == ("zip" : Str) && bltB M sc f && isTup tg then some [a, b] else none
  | _, _ => none
/-- the level of what a walk gives -/
def srcLv : Sk → List IE → Nat
  | .plain, es => kl (lvls es)
  | .rng1, _ => 2 | .rng2, _ => 2 | .rng3, _ => 2
  | .enum, es => kl (lvls es)
  | .zip, [a, b] => min (kl (lvl a)) (kl (lvl b))
  | _, _ => 0
def tstOk : IE → Expr → Bool
  | .and a b, .BoolOp .And (x :: y :: r) p => tstOk a x && (match r with | [] => tstOk b y | _ => tstOk b (.BoolOp .And (y :: r) p))
  | .or a b, .BoolOp .Or (x :: y :: r) p => tstOk a x && (match r with | [] => tstOk b y | _ => tstOk b (.BoolOp .Or (y :: r) p))
  | .not a, .UnaryOp .Not x _ => tstOk a x
  | .cmp _ _ _, _ => true
  | .cmp2 _ _ _ _ _, _ => true
  | _, x => plainT x
mutual
def chkE (M : Nm) (sc : Scope) : IE → Expr → Bool
  | .int i, .Constant (.int j) _ _ => i == j
  | .bl b, .Constant (.bool c) _ _ => b == c
  | .non, .Constant .none _ _ => true
  | .str x, .Constant (.str y) _ _ => x == y
  | .var _ i, .Name x _ => M.N[i]? == some x && visB sc x && dbgOk x
  | .gl x t, .Name y _ => x == y && glB sc x && dbgOk x && (match M.consts.lookup x with | some u => sameC t u | none => false)
  | .bin op a b, .BinOp x op' y _ => decide (op = op') && chkE M sc a x && chkE M sc b y
  | .neg a, .UnaryOp .USub x _ => chkE M sc a x
  | .cmp op a b, .Compare x [op'] [y] _ => decide (op = op') && chkE M sc a x && chkE M sc b y && !behindInMarks op' y
  | .cmp2 op op' a b c, .Compare x [o, o'] [y, z] _ => decide (op = o) && decide (op' = o') && chkE M sc a x && chkE M sc b y && chkE M sc c z && !lastMarks [o, o'] [y, z]
  | .and a b, .BoolOp .And (x :: y :: r) p => lvl a != 0 && lvl b != 0 && chkE M sc a x && (match r with | [] => chkE M sc b y | _ => chkE M sc b (.BoolOp .And (y :: r) p))
  | .or a b, .BoolOp .Or (x :: y :: r) p => lvl a != 0 && lvl b != 0 && chkE M sc a x && (match r with | [] => chkE M sc b y | _ => chkE M sc b (.BoolOp .Or (y :: r) p))
  | .not a, .UnaryOp .Not x _ => chkE M sc a x
  | .ite c a b, .IfExp x y z _ => lvl a != 0 && lvl b != 0 && tstOk c x && chkE M sc c x && chkE M sc a y && chkE M sc b z
  | .tup es, .Tuple xs _ _ => lvls es != 0 && decide (es.length ≤ 1000) && chkEs M sc es xs
  | .lst es, .List xs _ => lvls es != 0 && decide (es.length ≤ 1000) && chkEs M sc es xs
  | .idx a i, .Subscript x y _ => notSlice y && chkE M sc a x && chkE M sc i y
  | .slice a lo hi, .Subscript x (.Slice l h none _) _ => chkE M sc a x && (match lo, l with | [], none => true | [e], some y => chkE M sc e y | _, _ => false) && (match hi, h with | [], none => true | [e], some y => chkE M sc e y | _, _ => false)
  | .turn cut a, .Subscript x (.Slice none up (some (.UnaryOp .USub (.Constant (.int 1) _ _) _)) _) _ => cutX cut up && chkE M sc a x
  | .meth .index a [e], .Call (.Attribute x f ap) [y] [] cp => f == ("index" : Str) && ap.endLine == cp.line && noSup x && notStar y && chkE M sc a x && chkE M sc e y
  | .meth .indexT a [e], .Call (.Attribute x f ap) [y] [] cp => f == ("index" : Str) && ap.endLine == cp.line && noSup x && notStar y && chkE M sc a x && chkE M sc e y
  | .call f es, .Call (.Name x _) (y :: ys) [] _ => M.calm && M.fns[f]? == some x && glB sc x && dbgOk x && chkEs M sc es (y :: ys)
  | .bi (.isi ts) es, .Call (.Name f _) [x, .Name ty _] [] _ => f == ("isinstance" : Str) && bltB M sc f && bltB M sc ty && (match ts, es with | [t], [e] => chkE M sc e x && (Str.ofString t == ty) && (["int", "bool", "str", "tuple", "list"] : List String).contains t | _, _ => false)
  | .isE i cls tab, .Call (.Name f _) [.Name e _, .Name y _] [] _ => f == ("isinstance" : Str) && bltB M sc f && M.N[i]? == some e && visB sc e && dbgOk e && y == cls && glB sc y && dbgOk y && tab.all fun p => M.subs.contains (p.1, cls, p.2)
  | .bi .listRng es, .Call (.Name f _) [.Call (.Name g _) [x] [] _] [] _ => M.calm && f == ("list" : Str) && bltB M sc f && g == ("range" : Str) && bltB M sc g && chkEs M sc es [x]
  | .bi .fact es, .Call (.Name f _) [x] [] _ => f == ("factorial" : Str) && M.fact && glB sc f && dbgOk f && chkEs M sc es [x]
  | .bi b es, .Call (.Name f _) (y :: ys) [] _ => f == biNm b && bltB M sc f && biAr b != 1000 && decide (es.length = biAr b) && (M.calm || !biCalm b) && chkEs M sc es (y :: ys)
  | .comp tg elt sk ses ifs, .ListComp elt' [⟨tg', iter, ifs', as⟩] scope _ => decide (as = 0) && M.calm && blkC M.N sc scope (ownOf M tg) && (match iterArgs M sc tg' sk iter with | some xs => chkEs M sc ses xs | none => false) && notSet iter && tgOk tg (srcLv sk ses)
      && chkTg M.blk (relS scope sc) tg tg' && decide (ifs.length ≤ 1) && chkEs M.blk (relS scope sc) ifs ifs' && tstOks ifs ifs' && lvl elt != 0 && chkE M.blk (relS scope sc) elt elt'
  | .comp2 tg sk ses ifs tg2 sk2 ses2 ifs2 elt, .ListComp elt' [⟨tg', iter, ifs', as⟩, ⟨tg2', iter2, ifs2', as2⟩] scope _ => decide (as = 0) && decide (as2 = 0) && M.calm && blkC M.N sc scope (ownOf M tg ++ ownOf M tg2) &&
      (match iterArgs M sc tg' sk iter with | some xs => chkEs M sc ses xs | none => false) && notSet iter && tgOk tg (srcLv sk ses) && chkTg M.blk (relS scope sc) tg tg' && decide (ifs.length ≤ 1) && chkEs M.blk (relS scope sc) ifs ifs' && tstOks ifs ifs' &&
      (match iterArgs M.blk (relS scope sc) tg2' sk2 iter2 with | some xs => chkEs M.blk (relS scope sc) ses2 xs | none => false) && notSet iter2 && tgOk tg2 (srcLv sk2 ses2) && chkTg M.blk (relS scope sc) tg2 tg2' && decide (ifs2.length ≤ 1) && chkEs M.blk (relS scope sc) ifs2 ifs2' && tstOks ifs2 ifs2' &&
      (lvlsL ses2).all (fun n => n != 0) && lvl elt != 0 && chkE M.blk (relS scope sc) elt elt'
  | .chk a, x => chkE M sc a x
  | _, _ => false
def chkEs (M : Nm) (sc : Scope) : List IE → List Expr → Bool
  | [], [] => true
  | e :: es, x :: xs => notStar x && chkE M sc e x && chkEs M sc es xs
  | _, _ => false
def tstOks : List IE → List Expr → Bool
  | [], [] => true
  | e :: es, x :: xs => tstOk e x && tstOks es xs
  | _, _ => false
end
end BV

/-! The text's expressions keep to their values. -/
namespace BV
open PySem PySem.Spec PyProof.Rows L2

/-- what a call must give -/
def OutF (K : PySem.W.Frag) (mg : Str → Option Value) (H : Hp) (Q : VK) (E : XK) : Res T → Prop
  | .ok t => ∀ v H', Same H H' → Rep K (fun a => H a = none) H' t v → Q v H'
  | .exc c fs => fs = [] ∧ ∀ cv H', Same H H' → mg c = some cv → E cv none H'
  | .stuck => False
/-- a def's promise: its value by the plain function -/
def spF (K : PySem.W.Frag) (mg : Str → Option Value) (cf : List T → Res T) : Sp := fun vs H Q E => ∃ ts, Reps K (fun _ => True) H ts vs ∧ OutF K mg H Q E (cf ts)
def RelT : T → Value → Prop
  | .int i, u => ∃ t, u = .int i t
  | .str x, u => ∃ t, u = .str x t
  | _, _ => False
structure Glob (prog : Program) (w : World) (K : PySem.W.Frag) (mg : Str → Option Value) (base : Heap) (M : Nm) (cf : Nat → List T → Res T) (k : Nat) : Prop where
  fn : ∀ (i : Nat) (x : Str), M.fns[i]? = some x → ∃ (f : Addr) (fd : FuncData) (ps : List Str), mg x = some (.ref f) ∧ PySem.W.keepIn K (.ref f) = true ∧ Binds K fd ps [] ∧ FnOk prog w K mg base (L2.CX prog w) k f fd ps (spF K mg (cf i))
  const : ∀ (x : Str) (t : T), M.consts.lookup x = some t → ∃ u, mg x = some u ∧ RelT t u
  blt : ∀ x ∈ M.blt, mg x = none
  fact : M.fact = true → mg "factorial" = some (.builtin "math.factorial")
  exc : ∀ x ∈ M.excs, ∃ (C : Addr) (bmB : List Value) (B newId initId : String), ExcBaseFacts B newId initId bmB ∧ PySem.W.excIn K C bmB newId = true ∧ mg x = some (.ref C) ∧ PySem.W.keepIn K (.ref C) = true ∧
    PySem.W.subIn K (.ref C) (.type "BaseException") = some true ∧ PySem.W.typeIn K (.ref C) = some (.type "type")
  subs : ∀ (x y : Str) (b : Bool), (x, y, b) ∈ M.subs → ∃ (C : Addr) (yv : Value), mg x = some (.ref C) ∧ ExcC K C ∧ (mg y = some yv ∨ (mg y = none ∧ bootBuiltins y = some yv ∧ y ≠ "__name__")) ∧ (∃ c : V, RelV c yv ∧ ∀ u, RelV c u → u = yv) ∧ PySem.W.exmOne K (.ref C) yv = some b ∧ PySem.W.kitOne K (.ref C) yv = some b
theorem Glob.blk {prog : Program} {w : World} {K : PySem.W.Frag} {mg : Str → Option Value} {base : Heap} {M : Nm} {cf : Nat → List T → Res T} {k : Nat} (g : Glob prog w K mg base M cf k) : Glob prog w K mg base M.blk cf k := ⟨g.fn, g.const, g.blt, g.fact, g.exc, g.subs⟩
structure Ctx (X : Cx) (M : Nm) (sc : Scope) (cf : Nat → List T → Res T) (k : Nat) (xn : XN) : Prop where
  N : X.N = M.N
  nd : M.N.Nodup
  sc : X.env.scope = sc
  calm : X.calm = M.calm
  g : Glob X.prog X.w X.K X.mg X.base M cf k
  room : M.calm = true → Room k X.A
  hu70 : X.A.units + 70 < cLine
  fn : M.top = true → ∀ x, X.fn x = true
  /-- the handled exception -/
  exn : ∀ a c fs, xn a c fs → M.calm = false ∧ ∃ (X0 : Cx) (D : Addr) (oe : Obj) (pn : List (Addr × Obj)), X = X0.suite a ((a, oe) :: pn) ∧ X.mg c = some (.ref D) ∧ Zc (.ref D) none oe ∧ ∃ vs, oe.data = .fields vs
section
variable {X : Cx} {M : Nm} {sc : Scope} {cf : Nat → List T → Res T} {k : Nat} {xn : XN}
theorem Ctx.hu (C : Ctx X M sc cf k xn) : X.A.units + 65 < cLine := by have := C.hu70; omega
theorem vis_of (C : Ctx X M sc cf k xn) {x : Str} (h : visB sc x = true) : Vis X.env.scope x := by
  rw [C.sc]
  unfold visB at h
  simp only [Bool.or_eq_true, beq_iff_eq] at h
  rcases h with (h | h) | h
  · exact .inl h
  · exact .inr (.inl h)
  · exact .inr (.inr h)
theorem gl_of (C : Ctx X M sc cf k xn) {x : Str} (h : glB sc x = true) : Gl X x := by
  show X.env.scope.names.lookup x = some .globalImplicit
  rw [C.sc]
  unfold glB at h
  exact beq_iff_eq.mp h
theorem dbg1 {x : Str} (h : dbgOk x = true) : (x == ("__debug__" : Str)) = false := by
  unfold dbgOk at h
  simp only [Bool.and_eq_true, Bool.not_eq_true'] at h
  exact h.1.1
theorem dbg2 {x : Str} (h : dbgOk x = true) : (x == ("__classdict__" : Str)) = false := by
  unfold dbgOk at h
  simp only [Bool.and_eq_true, Bool.not_eq_true'] at h
  exact h.1.2
theorem dbg3 {x : Str} (h : dbgOk x = true) : x ≠ ("__name__" : Str) := by
  unfold dbgOk at h
  simp only [Bool.and_eq_true, Bool.not_eq_true', beq_eq_false_iff_ne] at h
  exact h.2
theorem blt_of (C : Ctx X M sc cf k xn) {x : Str} (h : bltB M sc x = true) : Gl X x ∧ X.mg x = none ∧ dbgOk x = true := by
  unfold bltB at h
  simp only [Bool.and_eq_true] at h
  exact ⟨gl_of C h.1.1, C.g.blt x (by simpa using h.2), h.1.2⟩
theorem star_cons {e : Expr} {es : List Expr} {env : PySem.Env} (h : notStar e = true) : starEach (e :: es) env = (false, eval e env) :: starEach es env := by
  cases e <;> first | rfl | (simp [notStar] at h)
theorem star_none {env : PySem.Env} {pos : Pos} : ∀ {M : Nm} {sc : Scope} {es : List IE} {xs : List Expr}, chkEs M sc es xs = true → (backTo pos (starEach xs env)).any (·.1) = false
  | M, sc, [], [], _ => rfl
  | M, sc, [], _ :: _, h => by simp [chkEs] at h
  | M, sc, _ :: _, [], h => by simp [chkEs] at h
  | M, sc, e :: es, x :: xs, h => by
    simp only [chkEs, Bool.and_eq_true] at h
    rw [star_cons h.1.1]
    have ih := star_none (env := env) (pos := pos) h.2
    simp only [backTo, List.map_cons, List.any_cons, Bool.false_or] at ih ⊢
    exact ih
theorem plain_tst {x : Expr} {env : PySem.Env} (h : plainT x = true) : ∀ whole, isTrue x env whole = (do let v ← whole; standAt x.pos; holding [v] (truthy v)) := by
  intro whole
  cases x with
  | UnaryOp op a p => cases op <;> first | rfl | (simp [plainT] at h)
  | BoolOp op a p => simp [plainT] at h
  | IfExp a b c p => simp [plainT] at h
  | Compare a b c p => simp [plainT] at h
  | _ => rfl
theorem plain_ix {x : Expr} (h : notSlice x = true) : PlainIx x := by
  intro o i
  cases x <;> first | rfl | (simp [notSlice] at h)
theorem not_set {x : Expr} {env : PySem.Env} (h : notSet x = true) : ∀ v, foldedSetIterable x env v = pure v := by
  intro v
  cases x <;> first | rfl | (simp [notSet] at h)
end

/-! ### built-ins -/
def biVal : Bi → Value
  | .len => .builtin "len" | .toInt => .type "int" | .abs => .builtin "abs" | .min2 => .builtin "min" | .max2 => .builtin "max" | .tupOf => .type "tuple" | .listOf => .type "list" | .sorted => .builtin "sorted"
  | _ => .none
theorem kl_min {n : Nat} (h : n ≤ 2) : kl (min n 2) = kl n := by rw [Nat.min_eq_left h]
theorem bi_ok {X : Cx} (hu : X.A.units + 70 < cLine) (b : Bi) (hb : biAr b ≠ 1000) (hc : biCalm b = true → X.calm = true) {es : List IE} (hl : es.length = biAr b) : CallR X (biVal b) (fun xs H Q => ∃ P He, biR X.K P He (lvlsL es) (biLv b (lvls es)) b xs H Q) := by
  intro pins s σ H xs us Q I rx h
  obtain ⟨P, He, h⟩ := h
  have one : biAr b = 1 → ∃ e, es = [e] := fun e1 => by
    rw [e1] at hl
    match es, hl with
    | [e], _ => exact ⟨e, rfl⟩
  have two : biAr b = 2 → ∃ e f, es = [e, f] := fun e1 => by
    rw [e1] at hl
    match es, hl with
    | [e, f], _ => exact ⟨e, f, rfl⟩
  cases b with
  | len => obtain ⟨e, rfl⟩ := one rfl; exact bi_len pins s σ H xs us Q I rx h
  | toInt => obtain ⟨e, rfl⟩ := one rfl; exact bi_toInt pins s σ H xs us Q I rx h
  | abs => obtain ⟨e, rfl⟩ := one rfl; exact bi_abs pins s σ H xs us Q I rx h
  | min2 => obtain ⟨e, f, rfl⟩ := two rfl; exact bi_min2 (hc rfl) pins s σ H xs us Q I rx h
  | max2 => obtain ⟨e, f, rfl⟩ := two rfl; exact bi_max2 (hc rfl) pins s σ H xs us Q I rx h
  | tupOf =>
    obtain ⟨e, rfl⟩ := one rfl
    have h' : biR X.K P He [lvl e] (kl (lvl e)) .tupOf xs H Q := by
      have q := h
      simp only [biLv, lvls, lvlsL, List.map] at q
      rw [kl_min (lvl_le e)] at q
      exact q
    exact bi_tupOf pins s σ H xs us Q I rx h'
  | listOf =>
    obtain ⟨e, rfl⟩ := one rfl
    have h' : biR X.K P He [lvl e] (kl (lvl e)) .listOf xs H Q := by
      have q := h
      simp only [biLv, lvls, lvlsL, List.map] at q
      rw [kl_min (lvl_le e)] at q
      exact q
    exact bi_listOf pins s σ H xs us Q I rx h'
  | sorted => obtain ⟨e, rfl⟩ := one rfl; exact bi_sorted hu pins s σ H xs us Q I rx h
  | _ => exact absurd rfl hb
theorem boot_bi (b : Bi) (hb : biAr b ≠ 1000) : bootBuiltins (biNm b) = some (biVal b) ∧ ((∃ id, biVal b = .builtin id) ∨ ∃ t, biVal b = .type t) := by
  cases b with
  | len => exact ⟨by decide +kernel, .inl ⟨_, rfl⟩⟩
  | toInt => exact ⟨by decide +kernel, .inr ⟨_, rfl⟩⟩
  | abs => exact ⟨by decide +kernel, .inl ⟨_, rfl⟩⟩
  | min2 => exact ⟨by decide +kernel, .inl ⟨_, rfl⟩⟩
  | max2 => exact ⟨by decide +kernel, .inl ⟨_, rfl⟩⟩
  | tupOf => exact ⟨by decide +kernel, .inr ⟨_, rfl⟩⟩
  | listOf => exact ⟨by decide +kernel, .inr ⟨_, rfl⟩⟩
  | sorted => exact ⟨by decide +kernel, .inl ⟨_, rfl⟩⟩
  | _ => exact absurd rfl hb
/-- isinstance's answers -/
theorem kit_tab : ∀ a ∈ (["NoneType", "bool", "int", "str", "tuple", "list"] : List String), ∀ b ∈ (["int", "bool", "str", "tuple", "list"] : List String), kitB a b = some (a == b || (a == "bool" && b == "int")) := by decide +kernel
theorem tyX_of {K : PySem.W.Frag} {P : Addr → Prop} {He H : Hp} {n : Nat} {t : T} {v : V} (r : RepL K P He H n t v) : TyX K H v (.type (tyName t)) := by
  cases t with
  | non => rw [r.non]; exact .base .non
  | bl b => rw [r.bl]; exact .base (.bl b)
  | int i => rw [r.int]; exact .base (.int i)
  | str x => rw [r.str]; exact .base (.str x)
  | tup xs =>
    obtain ⟨a, vs, rfl, q, _⟩ := r.tup
    rcases q with (q | ⟨o, q⟩) | ⟨o, its, n', q, c, _⟩
    · exact .base (.tup q)
    · exact .fTuple q
    · exact .kTuple q c
  | pair xs =>
    obtain ⟨a, vs, rfl, q, _⟩ := r.pair
    rcases q with (q | ⟨o, q⟩) | ⟨o, its, n', q, c, _⟩
    · exact .base (.tup q)
    · exact .fTuple q
    · exact .kTuple q c
  | lst xs =>
    obtain ⟨a, vs, rfl, q, _⟩ := r.lst
    exact .base (.lst q)
  | scr xs =>
    obtain ⟨a, vs, rfl, q, _⟩ := r.scr
    rcases q with ⟨o, q⟩ | ⟨o, its, n', q, c, _⟩
    · exact .base (.frz q)
    · exact .kList q c
theorem tyName_mem (t : T) : tyName t ∈ (["NoneType", "bool", "int", "str", "tuple", "list"] : List String) := by cases t <;> simp [tyName]
end BV

/-! What is walked: the items of a walk, and their places in the heap. -/
namespace BV
open PySem PySem.Spec PyProof.Rows L2

/-- the walk J gives xs, items of level n, while the sources stand -/
def Src (K : PySem.W.Frag) (J : It) (srcs : List (Nat × T × V)) (n : Nat) (xs : List T) : Prop :=
  ∃ (G : Hp → Prop) (Y : Nat → Hp → V → Hp → Prop), Walk J xs.length G Y ∧ ∀ P He H, Vw P He H → (∀ e ∈ srcs, RepL K P He H e.1 e.2.1 e.2.2) →
    G H ∧ ∀ i v H', i < xs.length → Y i H v H' → Same H H' ∧ ∃ t, xs[i]? = some t ∧ Rep K (lv P He n) H' t v
section
variable {K : PySem.W.Frag} {m n : Nat} {a b : Addr} {xs ys : List T}
theorem src_list (t : T) (ht : t = .lst xs ∨ t = .scr xs) : Src K (Itl K a) [(m, t, .ref a)] (kl m) xs := by
  refine ⟨fun H => ∃ ws, SqL K H a ws ∧ ws.length = xs.length, fun i H v H' => H' = H ∧ ∀ ws, SqL K H a ws → ws[i]? = some v, ⟨?_, ?_, ?_⟩, ?_⟩
  · rintro i H hi ⟨ws, q, l⟩
    exact ⟨ws, ws[i]'(by omega), q, by simp [show i < ws.length by omega]⟩
  · rintro H ⟨ws, q, l⟩
    exact ⟨ws, q, by omega⟩
  · intro i H x H' _ _ y
    exact y
  · intro P He H w h
    have r := h _ (List.mem_singleton.mpr rfl)
    have q : ∃ vs, SqL K H a vs ∧ Reps K (lv P He (kl m)) H xs vs := by
      rcases ht with rfl | rfl
      · obtain ⟨a', vs, e, q, k⟩ := RepL.lst r
        cases e
        exact ⟨vs, SqL.of q, k⟩
      · obtain ⟨a', vs, e, q, k⟩ := RepL.scr r
        cases e
        exact ⟨vs, q.sq, k⟩
    obtain ⟨vs, q, k⟩ := q
    refine ⟨⟨vs, q, k.length⟩, fun i v H' hi y => ?_⟩
    obtain ⟨rfl, y⟩ := y
    refine ⟨Same.refl _, xs[i], by simp [hi], ?_⟩
    obtain ⟨v', e1, e2⟩ := k.get (i := i) (t := xs[i]) (by simp [hi])
    rw [y vs q] at e1
    cases e1
    exact e2
theorem src_tup : Src K (Itt K a) [(m, .tup xs, .ref a)] (kl m) xs := by
  refine ⟨fun H => ∃ ws, SqT K H a ws ∧ ws.length = xs.length, fun i H v H' => H' = H ∧ ∀ ws, SqT K H a ws → ws[i]? = some v, ⟨?_, ?_, ?_⟩, ?_⟩
  · rintro i H hi ⟨ws, q, l⟩
    exact ⟨ws, ws[i]'(by omega), q, by simp [show i < ws.length by omega]⟩
  · rintro H ⟨ws, q, l⟩
    exact ⟨ws, q, by omega⟩
  · intro i H x H' _ _ y
    exact y
  · intro P He H w h
    obtain ⟨a', vs, e, q, k⟩ := RepL.tup (h _ (List.mem_singleton.mpr rfl))
    cases e
    refine ⟨⟨vs, q, k.length⟩, fun i v H' hi y => ?_⟩
    obtain ⟨rfl, y⟩ := y
    refine ⟨Same.refl _, xs[i], by simp [hi], ?_⟩
    obtain ⟨v', e1, e2⟩ := k.get (i := i) (t := xs[i]) (by simp [hi])
    rw [y vs q] at e1
    cases e1
    exact e2
theorem rangeL_length (lo : Int) (n : Nat) : (rangeL lo n).length = n := by simp [rangeL]
theorem rangeL_get (lo : Int) (n i : Nat) (h : i < n) : (rangeL lo n)[i]? = some (.int (lo + (i : Int))) := by simp [rangeL, h]
theorem src_range (lo : Int) (j : Nat) : Src K (Itr lo j) [] 2 (rangeL lo j) := by
  refine ⟨fun _ => True, YFn fun i => .int (lo + i), by rw [rangeL_length]; exact walk_range, fun P He H w _ => ⟨trivial, fun i v H' hi y => ?_⟩⟩
  obtain ⟨rfl, rfl⟩ := y
  rw [rangeL_length] at hi
  exact ⟨Same.refl _, _, rangeL_get lo j i hi, rfl⟩
theorem src_rangeD (lo : Int) (j : Nat) : Src K (Itc lo (-1) j) [] 2 ((List.range j).map fun (i : Nat) => T.int (lo - (i : Int))) := by
  refine ⟨fun _ => True, YFn fun i => .int (lo + (i : Nat) * (-1)), by rw [List.length_map, List.length_range]; exact walk_rangeC, fun P He H w _ => ⟨trivial, fun i v H' hi y => ?_⟩⟩
  obtain ⟨rfl, rfl⟩ := y
  rw [List.length_map, List.length_range] at hi
  refine ⟨Same.refl _, .int (lo - i), by simp [hi], ?_⟩
  show V.int _ = V.int _
  congr 1
  omega
def enumL (xs : List T) : List T := (List.range xs.length).zip xs |>.map fun p => T.pair [.int (p.1 : Nat), p.2]
theorem enumL_length (xs : List T) : (enumL xs).length = xs.length := by simp [enumL]
theorem enumL_get (xs : List T) (i : Nat) (h : i < xs.length) : (enumL xs)[i]? = some (.pair [.int (i : Nat), xs[i]]) := by simp [enumL, h]
/-- a new pair -/
theorem rep_pair {P : Addr → Prop} {He H : Hp} {T0 : Addr} {x y : V} {t u : T} (hT : H T0 = none) (h1 : Rep K (lv P He n) H t x) (h2 : Rep K (lv P He n) H u y) : Rep K (lv P He n) (upd H T0 (.tup [x, y])) (.pair [t, u]) (.ref T0) :=
  ⟨T0, _, rfl, .inl (.inl upd_same), Reps.cons (h1.same (same_upd hT)) (Reps.cons (h2.same (same_upd hT)) Reps.nil)⟩
theorem src_enum (t : T) (ht : t = .lst xs ∨ t = .scr xs) : Src K (Ite K a) [(m, t, .ref a)] (kl m) (enumL xs) := by
  refine ⟨fun H => ∃ ws, SqL K H a ws ∧ ws.length = xs.length, fun i H v H' => ∃ T x, v = .ref T ∧ H T = none ∧ H' = upd H T (.tup [.int (i : Nat), x]) ∧ ∀ xs, SqL K H a xs → xs[i]? = some x, ⟨?_, ?_, ?_⟩, ?_⟩
  · rintro i H hi ⟨ws, q, l⟩
    rw [enumL_length] at hi
    exact ⟨ws, ws[i]'(by omega), q, by simp [show i < ws.length by omega]⟩
  · rintro H ⟨ws, q, l⟩
    exact ⟨ws, q, by rw [enumL_length]; omega⟩
  · intro i H x H' _ _ y
    exact y
  · intro P He H w h
    have r := h _ (List.mem_singleton.mpr rfl)
    have q : ∃ vs, SqL K H a vs ∧ Reps K (lv P He (kl m)) H xs vs := by
      rcases ht with rfl | rfl
      · obtain ⟨a', vs, e, q, k⟩ := RepL.lst r
        cases e
        exact ⟨vs, SqL.of q, k⟩
      · obtain ⟨a', vs, e, q, k⟩ := RepL.scr r
        cases e
        exact ⟨vs, q.sq, k⟩
    obtain ⟨vs, q, k⟩ := q
    refine ⟨⟨vs, q, k.length⟩, fun i v H' hi y => ?_⟩
    rw [enumL_length] at hi
    obtain ⟨T0, x, rfl, hT, rfl, y⟩ := y
    obtain ⟨v', e1, e2⟩ := k.get (i := i) (t := xs[i]) (by simp [hi])
    rw [y vs q] at e1
    cases e1
    exact ⟨same_upd hT, _, enumL_get xs i hi, rep_pair hT rfl e2⟩
theorem src_enumT : Src K (IteT K a) [(m, .tup xs, .ref a)] (kl m) (enumL xs) := by
  refine ⟨fun H => ∃ ws, SqT K H a ws ∧ ws.length = xs.length, fun i H v H' => ∃ T x, v = .ref T ∧ H T = none ∧ H' = upd H T (.tup [.int (i : Nat), x]) ∧ ∀ xs, SqT K H a xs → xs[i]? = some x, ⟨?_, ?_, ?_⟩, ?_⟩
  · rintro i H hi ⟨ws, q, l⟩
    rw [enumL_length] at hi
    exact ⟨ws, ws[i]'(by omega), q, by simp [show i < ws.length by omega]⟩
  · rintro H ⟨ws, q, l⟩
    exact ⟨ws, q, by rw [enumL_length]; omega⟩
  · intro i H x H' _ _ y
    exact y
  · intro P He H w h
    obtain ⟨a', vs, e, q, k⟩ := RepL.tup (h _ (List.mem_singleton.mpr rfl))
    cases e
    refine ⟨⟨vs, q, k.length⟩, fun i v H' hi y => ?_⟩
    rw [enumL_length] at hi
    obtain ⟨T0, x, rfl, hT, rfl, y⟩ := y
    obtain ⟨v', e1, e2⟩ := k.get (i := i) (t := xs[i]) (by simp [hi])
    rw [y vs q] at e1
    cases e1
    exact ⟨same_upd hT, _, enumL_get xs i hi, rep_pair hT rfl e2⟩
def zipL (xs ys : List T) : List T := (xs.zip ys).map fun p => T.pair [p.1, p.2]
theorem zipL_length (xs ys : List T) : (zipL xs ys).length = min xs.length ys.length := by simp [zipL]
theorem zipL_get (xs ys : List T) (i : Nat) (h : i < xs.length) (h2 : i < ys.length) : (zipL xs ys)[i]? = some (.pair [xs[i], ys[i]]) := by simp [zipL, List.getElem?_zip_eq_some, h, h2, List.zip, List.getElem?_zipWith]
theorem src_zip {m' : Nat} : m ≤ 2 → m' ≤ 2 → Src K (Itz K a b) [(m, .lst xs, .ref a), (m', .lst ys, .ref b)] (min (kl m) (kl m')) (zipL xs ys) := by
  intro hm hm'
  have k1 := kl_pos m
  have k2 := kl_pos m'
  refine ⟨fun H => (∃ ws, SqL K H a ws ∧ ws.length = xs.length) ∧ ∃ ws, SqL K H b ws ∧ ws.length = ys.length, fun i H v H' => ∃ T x y, v = .ref T ∧ H T = none ∧ H' = upd H T (.tup [x, y]) ∧ (∀ xs, SqL K H a xs → xs[i]? = some x) ∧ ∀ ys, SqL K H b ys → ys[i]? = some y, ⟨?_, ?_, ?_⟩, ?_⟩
  · rintro i H hi ⟨⟨ws, q, l⟩, ⟨zs, q2, l2⟩⟩
    rw [zipL_length] at hi
    exact ⟨ws, zs, ws[i]'(by omega), zs[i]'(by omega), q, q2, by simp [show i < ws.length by omega], by simp [show i < zs.length by omega]⟩
  · rintro H ⟨⟨ws, q, l⟩, ⟨zs, q2, l2⟩⟩
    exact ⟨ws, zs, q, q2, by rw [zipL_length]; omega⟩
  · intro i H x H' _ _ y
    exact y
  · intro P He H w h
    obtain ⟨a', vs, e, q, k⟩ := RepL.lst (h (m, .lst xs, .ref a) (by simp))
    cases e
    obtain ⟨b', zs, e, q2, kk⟩ := RepL.lst (h (m', .lst ys, .ref b) (by simp))
    cases e
    refine ⟨⟨⟨vs, SqL.of q, k.length⟩, ⟨zs, SqL.of q2, kk.length⟩⟩, fun i v H' hi y => ?_⟩
    rw [zipL_length] at hi
    obtain ⟨T0, x, z, rfl, hT, rfl, y, y2⟩ := y
    obtain ⟨v', e1, e2⟩ := k.get (i := i) (t := xs[i]'(by omega)) (by simp [show i < xs.length by omega])
    rw [y vs (SqL.of q)] at e1
    cases e1
    obtain ⟨v2, e3, e4⟩ := kk.get (i := i) (t := ys[i]'(by omega)) (by simp [show i < ys.length by omega])
    rw [y2 zs (SqL.of q2)] at e3
    cases e3
    refine ⟨same_upd hT, _, zipL_get xs ys i (by omega) (by omega), rep_pair hT ?_ ?_⟩
    · exact e2.weak fun c _ _ x => lv_le (Nat.min_le_left _ _) (by omega) x (kl_le hm)
    · exact e4.weak fun c _ _ x => lv_le (Nat.min_le_right _ _) (by omega) x (kl_le hm')
theorem src_zipT {m' : Nat} : m ≤ 2 → m' ≤ 2 → Src K (RZ.ItzT K a b) [(m, .tup xs, .ref a), (m', .tup ys, .ref b)] (min (kl m) (kl m')) (zipL xs ys) := by
  intro hm hm'
  have k1 := kl_pos m
  have k2 := kl_pos m'
  refine ⟨fun H => (∃ ws, SqT K H a ws ∧ ws.length = xs.length) ∧ ∃ ws, SqT K H b ws ∧ ws.length = ys.length, fun i H v H' => ∃ T x y, v = .ref T ∧ H T = none ∧ H' = upd H T (.tup [x, y]) ∧ (∀ xs, SqT K H a xs → xs[i]? = some x) ∧ ∀ ys, SqT K H b ys → ys[i]? = some y, ⟨?_, ?_, ?_⟩, ?_⟩
  · rintro i H hi ⟨⟨ws, q, l⟩, ⟨zs, q2, l2⟩⟩
    rw [zipL_length] at hi
    exact ⟨ws, zs, ws[i]'(by omega), zs[i]'(by omega), q, q2, by simp [show i < ws.length by omega], by simp [show i < zs.length by omega]⟩
  · rintro H ⟨⟨ws, q, l⟩, ⟨zs, q2, l2⟩⟩
    exact ⟨ws, zs, q, q2, by rw [zipL_length]; omega⟩
  · intro i H x H' _ _ y
    exact y
  · intro P He H w h
    obtain ⟨a', vs, e, q, k⟩ := RepL.tup (h (m, .tup xs, .ref a) (by simp))
    cases e
    obtain ⟨b', zs, e, q2, kk⟩ := RepL.tup (h (m', .tup ys, .ref b) (by simp))
    cases e
    refine ⟨⟨⟨vs, q, k.length⟩, ⟨zs, q2, kk.length⟩⟩, fun i v H' hi y => ?_⟩
    rw [zipL_length] at hi
    obtain ⟨T0, x, z, rfl, hT, rfl, y, y2⟩ := y
    obtain ⟨v', e1, e2⟩ := k.get (i := i) (t := xs[i]'(by omega)) (by simp [show i < xs.length by omega])
    rw [y vs q] at e1
    cases e1
    obtain ⟨v2, e3, e4⟩ := kk.get (i := i) (t := ys[i]'(by omega)) (by simp [show i < ys.length by omega])
    rw [y2 zs q2] at e3
    cases e3
    refine ⟨same_upd hT, _, zipL_get xs ys i (by omega) (by omega), rep_pair hT ?_ ?_⟩
    · exact e2.weak fun c _ _ x => lv_le (Nat.min_le_left _ _) (by omega) x (kl_le hm)
    · exact e4.weak fun c _ _ x => lv_le (Nat.min_le_right _ _) (by omega) x (kl_le hm')
end
/-- the reading of what is walked -/
def OutI (K : PySem.W.Frag) (mg : Str → Option Value) (W : WXb) (P : Addr → Prop) (He : Hp) (σ : L2.St) (n : Nat) (H : Hp) (R : It → Hp → Prop) (ks : List Nat) : Res (List T) → Prop
  | .ok xs => ∀ J H' srcs, Same H H' → Src K J srcs n xs → (∀ e ∈ srcs, RepL K P He H' e.1 e.2.1 e.2.2 ∧ e.1 ∈ ks) → xs.length ≤ sizeLine → R J H'
  | .exc c fs => fs = [] ∧ ∀ cv H', Same H H' → mg c = some cv → W cv none σ H'
  | .stuck => False
def rdI (K : PySem.W.Frag) (mg : Str → Option Value) (xn : XN) (W : WXb) (n : Nat) (ks : List Nat) (f : Env → Res (List T)) : TI := fun σ H R => ∃ He Ox ρ xt, FI K xn He Ox xt ρ σ H ∧ OutI K mg W (Pr Ox ρ σ) He σ n H R ks (f ρ)
end BV

/-! Targets, and the slots behind them. -/
namespace BV
open PySem PySem.Spec PyProof.Rows L2

mutual
def gT (K : PySem.W.Frag) : Tg → TG
  | .nm _ i => gName i
  | .tp ts => gTup K ts.length (gTs K ts)
def gTs (K : PySem.W.Frag) : List Tg → TGs
  | [] => gNil
  | t :: ts => gCons (gT K t) (gTs K ts)
end
section
variable {X : Cx} {M : Nm} {sc : Scope} {cf : Nat → List T → Res T} {k : Nat} {xn : XN}
theorem loc_of (C : Ctx X M sc cf k xn) {x : Str} (h : stB M sc x = true) : Loc X.env.scope x ∧ (X.fn x = true ∨ X.env.scope.names.lookup x = some .local) := by
  rw [C.sc]
  unfold stB at h
  simp only [Bool.or_eq_true, Bool.and_eq_true, beq_iff_eq] at h
  rcases h with h | ⟨t, h⟩
  · exact ⟨.inl h, .inr h⟩
  · exact ⟨.inr h, .inl (C.fn t x)⟩
theorem chkTgs_len : ∀ {ts : List Tg} {es : List Expr}, chkTgs M sc ts es = true → ts.length = es.length
  | [], [], _ => rfl
  | [], _ :: _, h => by simp [chkTgs] at h
  | _ :: _, [], h => by simp [chkTgs] at h
  | t :: ts, e :: es, h => by
    simp only [chkTgs, Bool.and_eq_true] at h
    simp [chkTgs_len h.2]
theorem asgEach_cons {e : Expr} {es : List Expr} {env : PySem.Env} (h : notStar e = true) : assignEach (e :: es) env = (false, assign e env) :: assignEach es env := by
  cases e <;> first | rfl | (simp [notStar] at h)
theorem asgEach_len : ∀ {ts : List Tg} {es : List Expr} {env : PySem.Env}, chkTgs M sc ts es = true → (assignEach es env).length = ts.length ∧ (assignEach es env).findIdx? (·.1) = none
  | [], [], _, _ => ⟨rfl, rfl⟩
  | [], _ :: _, _, h => by simp [chkTgs] at h
  | _ :: _, [], _, h => by simp [chkTgs] at h
  | t :: ts, e :: es, env, h => by
    simp only [chkTgs, Bool.and_eq_true] at h
    obtain ⟨h1, h2⟩ := asgEach_len (env := env) h.2
    rw [asgEach_cons h.1.1]
    refine ⟨by simp [h1], ?_⟩
    rw [List.findIdx?_cons, h2]
    rfl
mutual
theorem pg_T (C : Ctx X M sc cf k xn) : ∀ (tg : Tg) (e : Expr), chkTg M sc tg e = true → PG X e (gT X.K tg)
  | .nm _ i, e, h => by
    cases e <;> simp only [chkTg, Bool.false_eq_true] at h
    rename_i x pos
    simp only [Bool.and_eq_true, beq_iff_eq] at h
    obtain ⟨h1, h2⟩ := loc_of C h.2
    exact pg_name (by rw [C.N]; exact C.nd) (by rw [C.N]; exact h.1) h1 h2
  | .tp ts, e, h => by
    cases e <;> simp only [chkTg, Bool.false_eq_true] at h
    rename_i es n pos
    simp only [Bool.and_eq_true] at h
    obtain ⟨h1, h2⟩ := asgEach_len (env := X.env) h.2
    exact pg_tup (by rw [C.calm]; exact h.1) (pgs_T C ts es h.2) h1 h2
theorem pgs_T (C : Ctx X M sc cf k xn) : ∀ (ts : List Tg) (es : List Expr), chkTgs M sc ts es = true → PGs X es (gTs X.K ts)
  | [], [], _ => pgs_nil
  | [], _ :: _, h => by simp [chkTgs] at h
  | _ :: _, [], h => by simp [chkTgs] at h
  | t :: ts, e :: es, h => by
    simp only [chkTgs, Bool.and_eq_true] at h
    exact pgs_cons (pg_T C t e h.1.2) (pgs_T C ts es h.2) (by rw [asgEach_cons h.1.1]; rfl)
end
end

/-! ### the slots behind a store -/
section
variable {K : PySem.W.Frag} {xn : XN} {He H : Hp} {Ox : Addr → Prop} {xt : List (Nat × T × V)} {ρ : Env} {σ : L2.St}
theorem own_set {i : Nat} {s : Option Sl} {v : Option V} (hs : ∀ xs, s ≠ some (.own xs)) {a : Addr} (h : Own (ρ.set i s) (σ.set i v) a) : Own ρ σ a := by
  obtain ⟨j, xs, e1, e2⟩ := h
  by_cases hj : j = i
  · subst hj
    rw [List.getElem?_set] at e1
    simp only [if_true] at e1
    split at e1
    · exact absurd (Option.some.inj e1) (hs xs)
    · cases e1
  · rw [List.getElem?_set_ne (Ne.symm hj)] at e1 e2
    exact ⟨j, xs, e1, e2⟩
theorem SlOk.weak {P P' : Addr → Prop} (hp : ∀ a, P' a → P a) {s : Sl} {o : Option (Option V)} (x : SlOk K xn Ox P He H s o) : SlOk K xn Ox P' He H s o := by
  have hl : ∀ n a, lv P He n a → lv P' He n a := fun n a x => ⟨fun z => x.1 (hp a z), x.2⟩
  cases s with
  | val t => obtain ⟨v, e, r⟩ := x; exact ⟨v, e, r.weak fun a _ _ => hl 2 a⟩
  | par t => obtain ⟨v, e, r⟩ := x; exact ⟨v, e, r.weak fun a _ _ => hl 1 a⟩
  | own xs => obtain ⟨a, vs, e, q, f, ox, r⟩ := x; exact ⟨a, vs, e, q, f, ox, r.weak fun a _ _ => hl 2 a⟩
  | exn c fs => exact x
/-- a slot is set to no changing list -/
theorem FI.set (F : FI K xn He Ox xt ρ σ H) (i : Nat) (s : Option Sl) (v : Option V) (hs : ∀ xs, s ≠ some (.own xs)) (ok : ∀ u, s = some u → SlOk K xn Ox (Pr Ox ρ σ) He H u (some v)) : FI K xn He Ox xt (ρ.set i s) (σ.set i v) H := by
  have hp : ∀ a, Pr Ox (ρ.set i s) (σ.set i v) a → Pr Ox ρ σ a := fun a p => p.imp id (own_set hs)
  refine ⟨by rw [List.length_set, List.length_set]; exact F.len, fun j u e => ?_, fun j j' xs ys a e1 e2 e3 e4 => ?_, F.base, F.oxd, fun e m => ⟨(F.xts e m).1, (F.xts e m).2.weak fun a _ _ x => ⟨fun z => x.1 (hp a z), x.2⟩⟩⟩
  · by_cases hj : j = i
    · subst hj
      have hl : j < ρ.length := by
        have := (List.getElem?_eq_some_iff.mp e).1
        rw [List.length_set] at this; exact this
      rw [List.getElem?_set_self hl] at e
      rw [List.getElem?_set_self (by rw [F.len]; exact hl)]
      exact (ok u (Option.some.inj e)).weak hp
    · rw [List.getElem?_set_ne (Ne.symm hj)] at e ⊢
      exact (F.sl j u e).weak hp
  · have g : ∀ (j : Nat) (xs : List T) (w : V), (ρ.set i s)[j]? = some (some (.own xs)) → (σ.set i v)[j]? = some (some w) → ρ[j]? = some (some (.own xs)) ∧ σ[j]? = some (some w) := fun j xs w e1 e2 => by
      by_cases hj : j = i
      · subst hj
        rw [List.getElem?_set] at e1
        simp only [if_true] at e1
        split at e1
        · exact absurd (Option.some.inj e1) (hs xs)
        · cases e1
      · rw [List.getElem?_set_ne (Ne.symm hj)] at e1 e2
        exact ⟨e1, e2⟩
    obtain ⟨a1, a2⟩ := g j xs _ e1 e3
    obtain ⟨b1, b2⟩ := g j' ys _ e2 e4
    exact F.inj j j' xs ys a a1 b1 a2 b2
theorem FI.wipe (F : FI K xn He Ox xt ρ σ H) : ∀ vs : List Nat, FI K xn He Ox xt (wipeE ρ vs) (L2.wipe σ vs) H
  | [] => F
  | v :: vs => (F.wipe vs).set v none none (fun _ e => nomatch e) (fun _ e => nomatch e)
/-- forgotten: what the protected lists were -/
theorem pr_set {i : Nat} {s : Option Sl} {v : Option V} (hs : ∀ xs, s ≠ some (.own xs)) {a : Addr} (p : Pr Ox (ρ.set i s) (σ.set i v) a) : Pr Ox ρ σ a := p.imp id (own_set hs)
theorem setAll_len : ∀ {ts : List Tg} {xs : List T} {ρ ρ' : Env}, setAll ts xs ρ = some ρ' → xs.length = ts.length
  | [], [], _, _, _ => rfl
  | [], _ :: _, _, _, e => by simp [setAll] at e
  | _ :: _, [], _, _, e => by simp [setAll] at e
  | t :: ts, x :: xs, ρ, ρ', e => by
    simp only [setAll] at e
    cases e1 : t.set x ρ with
    | none => rw [e1] at e; cases e
    | some ρ1 =>
      rw [e1] at e
      simp [setAll_len e]
mutual
theorem gT_mono : ∀ (tg : Tg) {v : V} {σ : L2.St} {H : Hp} {Q Q' : L2.St → Hp → Prop}, gT K tg v σ H Q → (∀ σ' H', Q σ' H' → Q' σ' H') → gT K tg v σ H Q'
  | .nm _ i, v, σ, H, Q, Q', h, k => k _ _ h
  | .tp ts, v, σ, H, Q, Q', h, k => by
    obtain ⟨a, xs, e, q, l, h⟩ := h
    exact ⟨a, xs, e, q, l, gTs_mono ts h k⟩
theorem gTs_mono : ∀ (ts : List Tg) {vs : List V} {σ : L2.St} {H : Hp} {Q Q' : L2.St → Hp → Prop}, gTs K ts vs σ H Q → (∀ σ' H', Q σ' H' → Q' σ' H') → gTs K ts vs σ H Q'
  | [], vs, σ, H, Q, Q', h, k => ⟨h.1, k _ _ h.2⟩
  | t :: ts, vs, σ, H, Q, Q', h, k => by
    obtain ⟨v, r, e, h⟩ := h
    exact ⟨v, r, e, gT_mono t h fun σ' H' h' => gTs_mono ts h' k⟩
end
mutual
theorem fi_T : ∀ (tg : Tg) {n : Nat} {t : T} {v : V} {ρ ρ' : Env} {σ : L2.St} (vs : List Nat), tgOk tg n = true → (∀ j ∈ tg.slots, j ∈ vs) → FI K xn He Ox xt ρ σ H → Rep K (lv (Pr Ox ρ σ) He n) H t v → tg.set t ρ = some ρ' →
    gT K tg v σ H fun σ' H' => H' = H ∧ FI K xn He Ox xt ρ' σ' H ∧ (∀ a, Pr Ox ρ' σ' a → Pr Ox ρ σ a) ∧ L2.wipe σ' vs = L2.wipe σ vs ∧ ∀ j : Nat, j ∉ vs → ρ'[j]? = ρ[j]? ∧ σ'[j]? = σ[j]?
  | .nm kd i, n, t, v, ρ, ρ', σ, vs, h, hv, F, r, e => by
    have hw : L2.wipe (σ.set i (some v)) vs = L2.wipe σ vs := by
      have hi : i ∈ vs := hv i (by simp [Tg.slots])
      clear hv e r F h
      induction vs with
      | nil => cases hi
      | cons j vs ih =>
        unfold L2.wipe
        by_cases hj : i ∈ vs
        · rw [ih hj]
        · have e : i = j := by
            rcases List.mem_cons.mp hi with e | e
            · exact e
            · exact absurd e hj
          subst e
          clear ih hi
          have comm : ∀ (l : List Nat), i ∉ l → L2.wipe (σ.set i (some v)) l = (L2.wipe σ l).set i (some v) := by
            intro l
            induction l with
            | nil => intro _; rfl
            | cons m l ih =>
              intro hm
              simp only [List.mem_cons, not_or] at hm
              unfold L2.wipe
              rw [ih hm.2, List.set_comm _ _ hm.1]
          rw [comm vs hj, List.set_set]
    have ho : ∀ (s : Option Sl) (v : Option V) (j : Nat), j ∉ vs → (ρ.set i s)[j]? = ρ[j]? ∧ (σ.set i v)[j]? = σ[j]? := fun s v j hj => by
      have hi : i ≠ j := fun e => hj (e ▸ hv i (by simp [Tg.slots]))
      exact ⟨List.getElem?_set_ne hi, List.getElem?_set_ne hi⟩
    cases kd with
    | val =>
      simp only [Tg.set, K3.mk, Option.map_some, Option.some.injEq] at e
      subst e
      have hn : n = 2 := by simpa [tgOk] using h
      subst hn
      exact ⟨rfl, F.set i _ _ (by intro _ z; cases z) (fun u z => by cases z; exact ⟨v, rfl, r⟩), fun a => pr_set (by intro _ z; cases z), hw, ho _ _⟩
    | par =>
      simp only [Tg.set, K3.mk, Option.map_some, Option.some.injEq] at e
      subst e
      have hn : 1 ≤ n := by simpa [tgOk] using h
      refine ⟨rfl, F.set i _ _ (by intro _ z; cases z) (fun u z => by cases z; exact ⟨v, rfl, r.weak fun a _ _ x => ⟨x.1, fun z => absurd z (by decide)⟩⟩), fun a => pr_set (by intro _ z; cases z), hw, ho _ _⟩
    | own => simp [tgOk] at h
  | .tp ts, n, t, v, ρ, ρ', σ, vs, h, hv, F, r, e => by
    simp only [tgOk, Bool.and_eq_true, decide_eq_true_eq] at h
    cases t with
    | tup xs =>
      simp only [Tg.set] at e
      obtain ⟨a, ws, rfl, q, rs⟩ := r
      have hl : ws.length = ts.length := by
        rw [rs.length]
        exact setAll_len e
      exact ⟨a, ws, rfl, q.sq, hl, fis_T ts vs h.2 (fun j hj => hv j (by simpa [Tg.slots] using hj)) F rs e⟩
    | pair xs =>
      simp only [Tg.set] at e
      obtain ⟨a, ws, rfl, q, rs⟩ := r
      have hl : ws.length = ts.length := by
        rw [rs.length]
        exact setAll_len e
      exact ⟨a, ws, rfl, q, hl, fis_T ts vs h.2 (fun j hj => hv j (by simpa [Tg.slots] using hj)) F rs e⟩
    | _ => simp [Tg.set] at e
theorem fis_T : ∀ (ts : List Tg) {n : Nat} {xs : List T} {ws : List V} {ρ ρ' : Env} {σ : L2.St} (vs : List Nat), tgOks ts n = true → (∀ j ∈ slotsL ts, j ∈ vs) → FI K xn He Ox xt ρ σ H → Reps K (lv (Pr Ox ρ σ) He n) H xs ws → setAll ts xs ρ = some ρ' →
    gTs K ts ws σ H fun σ' H' => H' = H ∧ FI K xn He Ox xt ρ' σ' H ∧ (∀ a, Pr Ox ρ' σ' a → Pr Ox ρ σ a) ∧ L2.wipe σ' vs = L2.wipe σ vs ∧ ∀ j : Nat, j ∉ vs → ρ'[j]? = ρ[j]? ∧ σ'[j]? = σ[j]?
  | [], n, [], ws, ρ, ρ', σ, vs, _, _, F, r, e => by
    simp only [setAll, Option.some.injEq] at e
    subst e
    exact ⟨r, rfl, F, fun _ p => p, rfl, fun _ _ => ⟨rfl, rfl⟩⟩
  | [], _, _ :: _, _, _, _, _, _, _, _, _, _, e => by simp [setAll] at e
  | t :: ts, n, [], _, _, _, _, _, _, _, _, _, e => by simp [setAll] at e
  | t :: ts, n, x :: xs, ws, ρ, ρ', σ, vs, h, hv, F, r, e => by
    simp only [tgOks, Bool.and_eq_true] at h
    obtain ⟨v, r', rfl, h1, h2⟩ := r
    simp only [setAll] at e
    cases e1 : t.set x ρ with
    | none => rw [e1] at e; cases e
    | some ρ1 =>
      rw [e1] at e
      refine ⟨v, r', rfl, ?_⟩
      have g := fi_T t (n := n) vs h.1 (fun j hj => hv j (by simp only [slotsL, List.mem_append]; exact .inl hj)) F h1 e1
      refine gT_mono t g fun σ1 H1 ⟨e2, F1, p1, w1, o1⟩ => ?_
      rw [e2]
      have h2' := h2.weak (A' := lv (Pr Ox ρ1 σ1) He n) fun a _ _ x => ⟨fun z => x.1 (p1 a z), x.2⟩
      have g2 := fis_T ts (n := n) vs h.2 (fun j hj => hv j (by simp only [slotsL, List.mem_append]; exact .inr hj)) F1 h2' e
      exact gTs_mono ts g2 fun σ2 H2 ⟨e3, F2, p2, w2, o2⟩ => ⟨e3, F2, fun a p => p1 a (p2 a p), w2.trans w1, fun j hj => ⟨(o2 j hj).1.trans (o1 j hj).1, (o2 j hj).2.trans (o1 j hj).2⟩⟩
end
end
end BV

/-! The text's expressions keep to their values: the proof. -/
namespace BV
open PySem PySem.Spec PyProof.Rows L2

theorem PI.weak {X : Cx} {tg e : Expr} {t t' : TI} (h : PI X tg e t) (hw : ∀ σ H R, t' σ H R → t σ H R) : PI X tg e t' := ⟨fun pins s σ H R I q => h.run pins s σ H R I (hw σ H R q)⟩
section
variable {K : PySem.W.Frag} {mg : Str → Option Value} {W : WXb} {P : Addr → Prop} {He H H' : Hp} {σ : L2.St} {n m : Nat} {fr fr' : Bool} {Q Q' : VK}
theorem OutI.mono {R : It → Hp → Prop} {ks : List Nat} (h : Same H H') : ∀ {r : Res (List T)}, OutI K mg W P He σ n H R ks r → OutI K mg W P He σ n H' R ks r
  | .ok t, o => fun J H2 srcs s => o J H2 srcs (h.trans s)
  | .exc c fs, o => ⟨o.1, fun cv H2 s q => o.2 cv H2 (h.trans s) q⟩
  | .stuck, o => o
theorem out_bdI {R : It → Hp → Prop} {ks ns : List Nat} {r : Res (List T)} {g : List T → Res (List T)} {Qa : List V → Hp → Prop} (o : OutI K mg W P He σ n H R ks (r.bd g)) (k : ∀ ts vs H', Same H H' → ArgL K P He H' ns ts vs → OutI K mg W P He σ n H' R ks (g ts) → Qa vs H') : OutA K mg W P He σ ns H Qa r := by
  cases r with
  | ok t => exact fun v H' s rr => k t v H' s rr (OutI.mono s (r := g t) o)
  | exc c fs => exact o
  | stuck => exact o
theorem out_bdIE {R : It → Hp → Prop} {ks : List Nat} {r : Res T} {g : T → Res (List T)} (o : OutI K mg W P He σ n H R ks (r.bd g)) (k : ∀ t v H', Same H H' → RepL K P He H' m t v → OutI K mg W P He σ n H' R ks (g t) → Q v H') : OutE K mg W P He σ m fr H Q r := by
  cases r with
  | ok t => exact fun v H' s rr _ => k t v H' s rr (OutI.mono s (r := g t) o)
  | exc c fs => exact o
  | stuck => exact o
/-- a value that is there -/
theorem out_val {t : T} {v : V} (o : OutE K mg W P He σ n fr H Q (.ok t)) (hn : n ≠ 0) (hf : fr = true → FreshV H t v) (r : Rep K (lv P He n) H t v) : Q v H := o v H (Same.refl H) (by rw [repL_pos hn]; exact r) hf
theorem out_up {t : T} {v : V} (o : OutE K mg W P He σ n fr H Q (.ok t)) (hs : Same H H') (hf : fr = true → FreshV H t v) (r : RepL K P He H' n t v) : Q v H' := o v H' hs r hf
end

section
variable {X : Cx} {M : Nm} {sc : Scope} {cf : Nat → List T → Res T} {k : Nat} {xn : XN} {W : WXb}
theorem si_plain {tg iter : Expr} {e : IE} (he : PE X iter (rdE X.K X.mg xn W (lvl e) (freshE e) (ev cf e))) :
    PI X tg iter (rdI X.K X.mg xn W (srcLv .plain [e]) (lvlsL [e]) fun ρ => (evs cf [e] ρ).bd (itemsT .plain)) := by
  refine PI.weak (pi_seqA he) fun σ H R q => ?_
  obtain ⟨He, Ox, ρ, xt, F, o⟩ := q
  have o' : OutI X.K X.mg W (Pr Ox ρ σ) He σ (srcLv .plain [e]) H R (lvlsL [e]) ((ev cf e ρ).bd fun t => itemsT .plain [t]) := by
    have q := o
    simp only [evs] at q
    cases h : ev cf e ρ <;> rw [h] at q <;> exact q
  refine ⟨He, Ox, ρ, xt, F, out_bdIE o' fun t v H' s rr oi => ?_⟩
  have ek : srcLv .plain [e] = kl (lvl e) := by
    simp only [srcLv, lvls]
    rw [Nat.min_eq_left (lvl_le e)]
  rw [ek] at oi
  cases t with
  | lst xs =>
    obtain ⟨a, vs, rfl, q, kk⟩ := rr.lst
    exact ⟨a, rfl, .inl ⟨vs, SqL.of q, fun hz => oi _ _ [(lvl e, .lst xs, .ref a)] (Same.refl _) (src_list _ (.inl rfl)) (by intro x hx; cases List.mem_singleton.mp hx; exact ⟨rr, by simp [lvlsL]⟩) (by rw [← kk.length]; exact hz)⟩⟩
  | tup xs =>
    obtain ⟨a, vs, rfl, q, kk⟩ := rr.tup
    exact ⟨a, rfl, .inr ⟨vs, q, fun hz => oi _ _ [(lvl e, .tup xs, .ref a)] (Same.refl _) src_tup (by intro x hx; cases List.mem_singleton.mp hx; exact ⟨rr, by simp [lvlsL]⟩) (by rw [← kk.length]; exact hz)⟩⟩
  | _ => exact oi.elim
theorem star1 {a : Expr} {env : PySem.Env} (h : notStar a = true) : starEach [a] env = [(false, eval a env)] := by rw [star_cons h]; rfl
theorem si (C : Ctx X M sc cf k xn) {tg iter : Expr} {sk : Sk} {ses : List IE} {xs : List Expr} (hi : iterArgs M sc tg sk iter = some xs) (hc : chkEs M sc ses xs = true) (ha : PA X xs (rdA X.K X.mg xn W (lvlsL ses) (evs cf ses)))
    (hp : ∀ e, ses = [e] → xs = [iter] → PE X iter (rdE X.K X.mg xn W (lvl e) (freshE e) (ev cf e))) :
    PI X tg iter (rdI X.K X.mg xn W (srcLv sk ses) (lvlsL ses) fun ρ => (evs cf ses ρ).bd (itemsT sk)) := by
  unfold iterArgs at hi
  split at hi
  · -- plain
    cases hi
    match ses, hc with
    | [e], hc => exact si_plain (hp e rfl rfl)
    | [], hc => simp [chkEs] at hc
    | _ :: _ :: _, hc => simp [chkEs] at hc
  · -- rng1
    rename_i f p a pos
    split at hi
    · rename_i hb
      cases hi
      simp only [Bool.and_eq_true, beq_iff_eq] at hb
      obtain ⟨rfl, hb⟩ := hb
      obtain ⟨g, hm, _⟩ := blt_of C hb
      match ses, hc, ha with
      | [e], hc, ha =>
        simp only [chkEs, Bool.and_eq_true] at hc
        refine PI.weak (pi_range1 g hm ha (star1 hc.1.1)) fun σ H R q => ?_
        obtain ⟨He, Ox, ρ, xt, F, o⟩ := q
        refine ⟨He, Ox, ρ, xt, F, out_bdI o fun ts vs H' s rr oi => ?_⟩
        obtain ⟨t, v, rfl, rfl, r1⟩ := ArgL.one rr
        cases t with
        | int j =>
          have e1 := r1.int; subst e1
          simp only [itemsT] at oi
          split at oi
          · rename_i cnd
            have hs := sizeLine_eq
            exact ⟨j, rfl, by omega, by omega, oi _ _ [] (Same.refl _) (src_range 0 _) (fun _ h => nomatch h) (by rw [rangeL_length]; omega)⟩
          · exact oi.elim
        | _ => exact oi.elim
      | [], hc, _ => simp [chkEs] at hc
      | _ :: _ :: _, hc, _ => simp [chkEs] at hc
    · cases hi
  · -- rng2
    rename_i f p a b pos
    split at hi
    · rename_i hb
      cases hi
      simp only [Bool.and_eq_true, beq_iff_eq] at hb
      obtain ⟨rfl, hb⟩ := hb
      obtain ⟨g, hm, _⟩ := blt_of C hb
      match ses, hc, ha with
      | [e, e'], hc, ha =>
        simp only [chkEs, Bool.and_eq_true] at hc
        refine PI.weak (pi_range2 g hm ha (by rw [star_cons hc.1.1, star1 hc.2.1.1]) (star1 hc.2.1.1)) fun σ H R q => ?_
        obtain ⟨He, Ox, ρ, xt, F, o⟩ := q
        refine ⟨He, Ox, ρ, xt, F, out_bdI o fun ts vs H' s rr oi => ?_⟩
        obtain ⟨t, u, v, x, rfl, rfl, r1, r2⟩ := ArgL.two rr
        cases t with
        | int i =>
          cases u with
          | int j =>
            have e1 := r1.int; have e2 := r2.int; subst e1; subst e2
            simp only [itemsT] at oi
            split at oi
            · rename_i cnd
              have hs := sizeLine_eq
              exact ⟨i, j, rfl, ⟨by omega, by omega, by omega, by omega⟩, oi _ _ [] (Same.refl _) (src_range i _) (fun _ h => nomatch h) (by rw [rangeL_length]; omega)⟩
            · exact oi.elim
          | _ => exact oi.elim
        | _ => exact oi.elim
      | [], hc, _ => simp [chkEs] at hc
      | [_], hc, _ => simp [chkEs] at hc
      | _ :: _ :: _ :: _, hc, _ => simp [chkEs] at hc
    · cases hi
  · -- rng3
    rename_i f p a b c pos
    split at hi
    · rename_i hb
      cases hi
      simp only [Bool.and_eq_true, beq_iff_eq] at hb
      obtain ⟨rfl, hb⟩ := hb
      obtain ⟨g, hm, _⟩ := blt_of C hb
      match ses, hc, ha with
      | [e, e', e''], hc, ha =>
        have hc0 := hc
        simp only [chkEs, Bool.and_eq_true] at hc
        refine PI.weak (pi_range3 g hm ha (star_cons hc.1.1) (by
          have z := star_none (env := X.env) (pos := pos) (M := M) (sc := sc) (es := [e', e'']) (xs := [b, c]) (by simp only [chkEs, Bool.and_eq_true]; exact hc.2)
          exact z)) fun σ H R q => ?_
        obtain ⟨He, Ox, ρ, xt, F, o⟩ := q
        refine ⟨He, Ox, ρ, xt, F, out_bdI o fun ts vs H' s rr oi => ?_⟩
        match ts, rr, oi with
        | [t, u, w], rr, oi =>
          obtain ⟨v, r, rfl, r1, rr⟩ := rr
          obtain ⟨x, y, rfl, -, r2, r3⟩ : ∃ x y, r = [x, y] ∧ True ∧ RepL X.K (Pr Ox ρ σ) He H' (lvl e') u x ∧ RepL X.K (Pr Ox ρ σ) He H' (lvl e'') w y := by
            obtain ⟨t', u', x, y, e1, e2, q1, q2⟩ := ArgL.two rr
            cases e1
            exact ⟨x, y, e2, trivial, q1, q2⟩
          cases t with
          | int i =>
            cases u with
            | int j =>
              cases w with
              | int c =>
                have e1 := r1.int; have e2 := r2.int; have e3 := r3.int; subst e1; subst e2; subst e3
                simp only [itemsT] at oi
                split at oi
                · rename_i cnd
                  obtain ⟨rfl, cnd⟩ := cnd
                  have hs := sizeLine_eq
                  exact ⟨_, _, -1, _, rfl, RgC.neg (by omega) (by omega) (by omega) (by omega), oi _ _ [] (Same.refl _) (src_rangeD _ _) (fun _ h => nomatch h) (by rw [List.length_map, List.length_range]; omega)⟩
                · exact oi.elim
              | _ => exact oi.elim
            | _ => exact oi.elim
          | _ => exact oi.elim
        | [], rr, oi => exact rr.elim
        | [_], rr, oi => obtain ⟨v, r, rfl, r1, rr⟩ := rr; exact rr.elim
        | [_, _], rr, oi => obtain ⟨v, r, rfl, r1, rr⟩ := rr; obtain ⟨v, r, rfl, r1, rr⟩ := rr; exact rr.elim
        | _ :: _ :: _ :: _ :: _, rr, oi => obtain ⟨v, r, rfl, r1, rr⟩ := rr; obtain ⟨v, r, rfl, r1, rr⟩ := rr; obtain ⟨v, r, rfl, r1, rr⟩ := rr; exact rr.elim
      | [], hc, _ => simp [chkEs] at hc
      | [_], hc, _ => simp [chkEs] at hc
      | [_, _], hc, _ => simp [chkEs] at hc
      | _ :: _ :: _ :: _ :: _, hc, _ => simp [chkEs] at hc
    · cases hi
  · -- enum
    rename_i f p a pos
    split at hi
    · rename_i hb
      cases hi
      simp only [Bool.and_eq_true, beq_iff_eq] at hb
      obtain ⟨⟨rfl, hb⟩, ht⟩ := hb
      obtain ⟨g, hm, _⟩ := blt_of C hb
      cases tg <;> simp only [isTup, Bool.false_eq_true] at ht
      match ses, hc, ha with
      | [e], hc, ha =>
        simp only [chkEs, Bool.and_eq_true] at hc
        refine PI.weak (pi_enumA g hm ha (star1 hc.1.1)) fun σ H R q => ?_
        obtain ⟨He, Ox, ρ, xt, F, o⟩ := q
        refine ⟨He, Ox, ρ, xt, F, out_bdI o fun ts vs H' s rr oi => ?_⟩
        obtain ⟨t, v, rfl, rfl, r1⟩ := ArgL.one rr
        have ek : srcLv .enum [e] = kl (lvl e) := by
          simp only [srcLv, lvls]
          rw [Nat.min_eq_left (lvl_le e)]
        rw [ek] at oi
        cases t with
        | lst ys =>
          obtain ⟨a, vs, rfl, q, kk⟩ := r1.lst
          exact ⟨a, vs, rfl, .inl ⟨SqL.of q, fun hz => oi _ _ [(lvl e, .lst ys, .ref a)] (Same.refl _) (src_enum _ (.inl rfl)) (by intro x hx; cases List.mem_singleton.mp hx; exact ⟨r1, by simp [lvlsL]⟩) (show (enumL ys).length ≤ _ by rw [enumL_length, ← kk.length]; exact hz)⟩⟩
        | tup ys =>
          obtain ⟨a, vs, rfl, q, kk⟩ := r1.tup
          exact ⟨a, vs, rfl, .inr ⟨q, fun hz => oi _ _ [(lvl e, .tup ys, .ref a)] (Same.refl _) src_enumT (by intro x hx; cases List.mem_singleton.mp hx; exact ⟨r1, by simp [lvlsL]⟩) (show (enumL ys).length ≤ _ by rw [enumL_length, ← kk.length]; exact hz)⟩⟩
        | _ => exact oi.elim
      | [], hc, _ => simp [chkEs] at hc
      | _ :: _ :: _, hc, _ => simp [chkEs] at hc
    · cases hi
  · -- zip
    rename_i f p a b pos
    split at hi
    · rename_i hb
      cases hi
      simp only [Bool.and_eq_true, beq_iff_eq] at hb
      obtain ⟨⟨rfl, hb⟩, ht⟩ := hb
      obtain ⟨g, hm, _⟩ := blt_of C hb
      cases tg <;> simp only [isTup, Bool.false_eq_true] at ht
      match ses, hc, ha with
      | [e, e'], hc, ha =>
        simp only [chkEs, Bool.and_eq_true] at hc
        refine PI.weak (RZ.pi_zipA g hm ha (star_cons hc.1.1) (by rw [star1 hc.2.1.1]; rfl)) fun σ H R q => ?_
        obtain ⟨He, Ox, ρ, xt, F, o⟩ := q
        refine ⟨He, Ox, ρ, xt, F, out_bdI o fun ts vs H' s rr oi => ?_⟩
        obtain ⟨t, u, v, x, rfl, rfl, r1, r2⟩ := ArgL.two rr
        have srcs : ∀ z, z ∈ [(lvl e, t, v), (lvl e', u, x)] → RepL X.K (Pr Ox ρ σ) He H' z.1 z.2.1 z.2.2 ∧ z.1 ∈ lvlsL [e, e'] := by
          intro z hz
          simp only [List.mem_cons, List.not_mem_nil, or_false] at hz
          rcases hz with rfl | rfl
          · exact ⟨r1, by simp [lvlsL]⟩
          · exact ⟨r2, by simp [lvlsL]⟩
        cases t with
        | lst ys =>
          cases u with
          | lst zs =>
            obtain ⟨a, vs, rfl, q, _⟩ := r1.lst
            obtain ⟨b, ws, rfl, q2, _⟩ := r2.lst
            simp only [itemsT] at oi
            split at oi
            · exact oi.elim
            · rename_i hz
              exact ⟨a, b, vs, ws, rfl, .inl ⟨SqL.of q, SqL.of q2, oi _ _ _ (Same.refl _) (src_zip (lvl_le e) (lvl_le e')) srcs (show (zipL ys zs).length ≤ _ by rw [zipL_length]; omega)⟩⟩
          | _ => exact oi.elim
        | tup ys =>
          cases u with
          | tup zs =>
            obtain ⟨a, vs, rfl, q, _⟩ := r1.tup
            obtain ⟨b, ws, rfl, q2, _⟩ := r2.tup
            simp only [itemsT] at oi
            split at oi
            · exact oi.elim
            · rename_i hz
              exact ⟨a, b, vs, ws, rfl, .inr ⟨q, q2, oi _ _ _ (Same.refl _) (src_zipT (lvl_le e) (lvl_le e')) srcs (show (zipL ys zs).length ≤ _ by rw [zipL_length]; omega)⟩⟩
          | _ => exact oi.elim
        | _ => exact oi.elim
      | [], hc, _ => simp [chkEs] at hc
      | [_], hc, _ => simp [chkEs] at hc
      | _ :: _ :: _ :: _, hc, _ => simp [chkEs] at hc
    · cases hi
  · cases hi
end
end BV

/-! Expressions by their values. -/
namespace BV
open PySem PySem.Spec PyProof.Rows L2

section
variable {X : Cx} {M : Nm} {sc : Scope} {cf : Nat → List T → Res T} {k : Nat} {xn : XN} {W : WXb}
abbrev ERd (X : Cx) (xn : XN) (W : WXb) (cf : Nat → List T → Res T) (e : IE) : TE := rdE X.K X.mg xn W (lvl e) (freshE e) (ev cf e)
abbrev TRd (X : Cx) (xn : XN) (W : WXb) (cf : Nat → List T → Res T) (e : IE) : TT := rdT X.K X.mg xn W fun ρ => (ev cf e ρ).bd truthR
abbrev ARd (X : Cx) (xn : XN) (W : WXb) (cf : Nat → List T → Res T) (es : List IE) : TA := rdA X.K X.mg xn W (lvlsL es) (evs cf es)

theorem const_imp {n : Nat} {fr : Bool} {f : Env → Res T} {t : T} {v : V} (hf : ∀ ρ, f ρ = .ok t) (hn : n ≠ 0) (hs : ∀ xs, t ≠ .lst xs) (hr : ∀ A H, Rep X.K A H t v) : ∀ σ H Q, rdE X.K X.mg xn W n fr f σ H Q → tC v σ H Q := by
  intro σ H Q ⟨He, Ox, ρ, xt, F, o⟩
  rw [hf] at o
  exact out_val o hn (fun _ => scal_fresh hs) (hr _ _)

theorem var_ok (C : Ctx X M sc cf k xn) (kd : K3) (i : Nat) {x : Str} {pos : Pos} (h1 : M.N[i]? = some x) (h2 : visB sc x = true) (h3 : dbgOk x = true) : PE X (.Name x pos) (ERd X xn W cf (.var kd i)) := by
  refine PE.weak (pe_var (i := i) (by rw [C.N]; exact h1) (vis_of C h2) (dbg1 h3) (dbg2 h3)) ?_
  intro σ H Q ⟨He, Ox, ρ, xt, F, o⟩
  simp only [ev] at o
  split at o
  · rename_i s hs
    have sl := F.sl i s hs
    cases kd <;> cases s <;> simp only [Sl.get] at o <;> first | exact o.elim | skip
    · obtain ⟨v, e, r⟩ := sl
      exact ⟨v, e, out_val o (by simp [lvl]) (fun z => by simp [freshE] at z) r⟩
    · obtain ⟨v, e, r⟩ := sl
      exact ⟨v, e, out_val o (by simp [lvl]) (fun z => by simp [freshE] at z) r⟩
    · obtain ⟨a, vs, e, q, f, ox, r⟩ := sl
      refine ⟨.ref a, e, o _ _ (Same.refl H) ?_ (fun z => by simp [freshE] at z)⟩
      have el : lvl (.var .own i) = 0 := by simp [lvl]
      rw [el, repL_zero]
      exact ⟨_, a, vs, rfl, rfl, ⟨q, .inr ⟨i, _, hs, e⟩⟩, r⟩
  · exact o.elim
theorem gl_ok (C : Ctx X M sc cf k xn) (x : Str) (t : T) {pos : Pos} (h1 : glB sc x = true) (h2 : dbgOk x = true) (h3 : (match M.consts.lookup x with | some u => sameC t u | none => false) = true) : PE X (.Name x pos) (ERd X xn W cf (.gl x t)) := by
  split at h3
  · rename_i u hu
    obtain ⟨w, hm, r⟩ := C.g.const x u hu
    cases t <;> cases u <;> simp only [sameC, Bool.false_eq_true] at h3
    · have e := beq_iff_eq.mp h3
      subst e
      obtain ⟨tk, rfl⟩ := r
      refine PE.weak (pe_glob (v := .int _) (gl_of C h1) hm ⟨tk, rfl⟩ (dbg1 h2)) (const_imp (t := .int _) (fun _ => by simp [ev]) (by simp [lvl]) (by intro _ z; cases z) fun _ _ => rfl)
    · have e := beq_iff_eq.mp h3
      subst e
      obtain ⟨tk, rfl⟩ := r
      refine PE.weak (pe_glob (v := .str _) (gl_of C h1) hm ⟨tk, rfl⟩ (dbg1 h2)) (const_imp (t := .str _) (fun _ => by simp [ev]) (by simp [lvl]) (by intro _ z; cases z) fun _ _ => rfl)
  · cases h3
/-- from an operation's wish -/
theorem out_of {P : Addr → Prop} {He H : Hp} {σ : L2.St} {n : Nat} {fr fr' : Bool} {Q : VK} {r : Res T} (o : OutE X.K X.mg W P He σ n fr H Q r) (hx : ∀ c fs, r ≠ .exc c fs) (hf : fr = true → fr' = true) : Out X.K P He n fr' H Q r := by
  cases r with
  | ok t => exact fun v H' s rr f => o v H' s rr fun e => f (hf e)
  | exc c fs => exact absurd rfl (hx c fs)
  | stuck => exact o
theorem binT_noExc (op : Operator) (x y : T) : ∀ c fs, binT op x y ≠ .exc c fs := by
  intro c fs h
  unfold binT at h
  split at h <;> first | cases h | (split at h <;> cases h)
end
end BV

namespace BV
open PySem PySem.Spec PyProof.Rows L2

theorem negT_noExc (x : T) : ∀ c fs, negT x ≠ .exc c fs := by
  intro c fs h; unfold negT at h; split at h <;> cases h
theorem idxT_noExc (x y : T) : ∀ c fs, idxT x y ≠ .exc c fs := by
  intro c fs h; unfold idxT at h; split at h <;> first | cases h | (split at h <;> cases h)
theorem sliceT_noExc (x : T) (lo hi : Option Int) : ∀ c fs, sliceT x lo hi ≠ .exc c fs := by
  intro c fs h; unfold sliceT at h; split at h <;> cases h
theorem biT_noExc (b : Bi) (xs : List T) : ∀ c fs, biT b xs ≠ .exc c fs := by
  intro c fs h; unfold biT at h; split at h <;> first | (cases h; done) | (split at h <;> first | (cases h; done) | (split at h <;> first | (cases h; done) | (split at h <;> cases h)))
theorem turnT_noExc (k : Bool) (x : T) : ∀ c fs, turnT k x ≠ .exc c fs := by
  intro c fs h; unfold turnT at h; split at h <;> cases h
theorem meT_noExc (m : Me) (x : T) (ys : List T) : ∀ c fs, meT m x ys ≠ .exc c fs := by
  intro c fs h; unfold meT at h; split at h <;> first | (cases h; done) | (split at h <;> first | (cases h; done) | (split at h <;> cases h))
theorem eqT_noExc (x y : T) : ∀ c fs, eqT x y ≠ .exc c fs := by
  intro c fs h; unfold eqT at h; split at h <;> first | cases h | (split at h <;> cases h)
theorem inT_noExc (x y : T) : ∀ c fs, inT x y ≠ .exc c fs := by
  intro c fs h; unfold inT at h; split at h <;> first | cases h | (split at h <;> cases h)
theorem cmpT_noExc (op : CmpOp) (x y : T) : ∀ c fs, cmpT op x y ≠ .exc c fs := by
  intro c fs h
  unfold cmpT at h
  split at h
  · exact eqT_noExc _ _ c fs h
  · cases e : eqT x y with
    | ok b => rw [e] at h; cases h
    | exc c' fs' => exact eqT_noExc _ _ c' fs' e
    | stuck => rw [e] at h; cases h
  · cases h
  · cases h
  · cases h
  · cases h
  · cases h
  · cases h
  · exact inT_noExc _ _ c fs h
  · cases e : inT x y with
    | ok b => rw [e] at h; cases h
    | exc c' fs' => exact inT_noExc _ _ c' fs' e
    | stuck => rw [e] at h; cases h
  · cases h
section
variable {X : Cx} {M : Nm} {sc : Scope} {cf : Nat → List T → Res T} {k : Nat} {xn : XN} {W : WXb}
variable {P : Addr → Prop} {He H : Hp} {σ : L2.St} {n m : Nat} {fr : Bool} {Q : VK}
/-- a comparison's answer -/
theorem out_cmp {r : Res Bool} (o : OutE X.K X.mg W P He σ n fr H Q (r.bd fun c => .ok (.bl c))) (hn : n ≠ 0) (hx : ∀ c fs, r ≠ .exc c fs) : OutB H Q r := by
  cases r with
  | ok b => exact out_val o hn (fun _ => scal_fresh (by intro _ z; cases z)) rfl
  | exc c fs => exact absurd rfl (hx c fs)
  | stuck => exact o
/-- a comparison's test -/
theorem out_cmpT {r : Res Bool} {Qt : Bool → Hp → Prop} (o : OutT X.mg W σ H Qt (r.bd fun c => truthR (.bl c))) (hx : ∀ c fs, r ≠ .exc c fs) : OutB H (fun v H' => ∃ b, v = .bl b ∧ Qt b H') r := by
  cases r with
  | ok b => exact ⟨b, rfl, o H (Same.refl H)⟩
  | exc c fs => exact absurd rfl (hx c fs)
  | stuck => exact o
theorem opr_ex {f : Value → Value → Sem Value} {r : (Addr → Prop) → Hp → R2} (h : ∀ P He, OpR X f (r P He)) : OpR X f (fun x y H Q => ∃ P He, r P He x y H Q) := by
  intro pins s σ H x y v u Q I rx ry ⟨P, He, q⟩
  exact h P He pins s σ H x y v u Q I rx ry q
theorem unr_ex {f : Value → Sem Value} {r : (Addr → Prop) → Hp → V → Hp → VK → Prop} (h : ∀ P He, UnR X f (r P He)) : UnR X f (fun x H Q => ∃ P He, r P He x H Q) := by
  intro pins s σ H x v Q I rx ⟨P, He, q⟩
  exact h P He pins s σ H x v Q I rx q
theorem ixr_ex {r : (Addr → Prop) → Hp → R2} (h : ∀ P He, IxR X (r P He)) : IxR X (fun x y H Q => ∃ P He, r P He x y H Q) := by
  intro value slice pins s σ H x y v u Q I rx ry ⟨P, He, q⟩ hs
  exact h P He value slice pins s σ H x y v u Q I rx ry q hs
theorem slr_ex {r : (Addr → Prop) → Hp → V → Option Int → Option Int → Hp → VK → Prop} (h : ∀ P He, SlR X (r P He)) : SlR X (fun x lo hi H Q => ∃ P He, r P He x lo hi H Q) := by
  intro pins s σ H x v vl vu lo hi sl Q I rx hs pl pu ⟨P, He, q⟩
  exact h P He pins s σ H x v vl vu lo hi sl Q I rx hs pl pu q

/-! ### the cases -/
theorem bin_ok {op : Operator} {a b : IE} {x y : Expr} {pos : Pos} (ha : PE X x (ERd X xn W cf a)) (hb : PE X y (ERd X xn W cf b)) : PE X (.BinOp x op y pos) (ERd X xn W cf (.bin op a b)) := by
  refine PE.weak (pe_op (opr_ex fun P He => op_bin (P := P) (He := He) (lvl_le a) (lvl_le b) op) ha hb) ?_
  intro σ H Q ⟨He, Ox, ρ, xt, F, o⟩
  simp only [ev, lvl, freshE] at o
  refine ⟨He, Ox, ρ, xt, F, out_bd o fun t v H1 s1 r1 _ o1 => ?_⟩
  refine ⟨He, Ox, ρ, xt, F.same s1, out_bd o1 fun u v2 H2 s2 r2 _ o2 => ?_⟩
  exact ⟨Pr Ox ρ σ, He, ((F.same s1).same s2).vw, t, u, r1.same s2, r2, out_of o2 (binT_noExc op t u) (fun _ => rfl)⟩
theorem neg_ok {a : IE} {x : Expr} {pos : Pos} (ha : PE X x (ERd X xn W cf a)) : PE X (.UnaryOp .USub x pos) (ERd X xn W cf (.neg a)) := by
  refine PE.weak (pe_un (unr_ex fun P He => op_neg' (P := P) (He := He) (n := lvl a)) ha) ?_
  intro σ H Q ⟨He, Ox, ρ, xt, F, o⟩
  simp only [ev, lvl, freshE] at o
  refine ⟨He, Ox, ρ, xt, F, out_bd o fun t v H1 s1 r1 _ o1 => ?_⟩
  exact ⟨Pr Ox ρ σ, He, t, r1, out_of o1 (negT_noExc t) (fun z => by cases z)⟩
theorem cmp_ok (C : Ctx X M sc cf k xn) {op : CmpOp} {a b : IE} {x y : Expr} {pos : Pos} (ha : PE X x (ERd X xn W cf a)) (hb : PE X y (ERd X xn W cf b)) (hm : behindInMarks op y = false) : PE X (.Compare x [op] [y] pos) (ERd X xn W cf (.cmp op a b)) := by
  refine PE.weak (pe_cmpR (opr_ex fun P He => op_cmp (P := P) (He := He) (n := lvl a) (m := lvl b) C.hu op) ha hb hm) ?_
  intro σ H Q ⟨He, Ox, ρ, xt, F, o⟩
  simp only [ev, lvl, freshE] at o
  refine ⟨He, Ox, ρ, xt, F, out_bd o fun t v H1 s1 r1 _ o1 => ?_⟩
  refine ⟨He, Ox, ρ, xt, F.same s1, out_bd o1 fun u v2 H2 s2 r2 _ o2 => ?_⟩
  exact ⟨Pr Ox ρ σ, He, t, u, r1.same s2, r2, out_cmp o2 (by decide) (cmpT_noExc op t u)⟩
theorem bd_bd {α β γ : Type} (r : Res α) (f : α → Res β) (g : β → Res γ) : (r.bd f).bd g = r.bd fun a => (f a).bd g := by cases r <;> rfl
theorem cmp_tst (C : Ctx X M sc cf k xn) {op : CmpOp} {a b : IE} {x y : Expr} {pos : Pos} (ha : PE X x (ERd X xn W cf a)) (hb : PE X y (ERd X xn W cf b)) (hm : behindInMarks op y = false) : PT X (.Compare x [op] [y] pos) (TRd X xn W cf (.cmp op a b)) := by
  refine PT.weak (pt_cmpR (opr_ex fun P He => op_cmp (P := P) (He := He) (n := lvl a) (m := lvl b) C.hu op) ha hb hm) ?_
  intro σ H Q ⟨He, Ox, ρ, xt, F, o⟩
  simp only [ev, bd_bd] at o
  refine ⟨He, Ox, ρ, xt, F, out_bdT o fun t v H1 s1 r1 o1 => ?_⟩
  refine ⟨He, Ox, ρ, xt, F.same s1, out_bdT o1 fun u v2 H2 s2 r2 o2 => ?_⟩
  exact ⟨Pr Ox ρ σ, He, t, u, r1.same s2, r2, out_cmpT o2 (cmpT_noExc op t u)⟩
theorem cmp2_ok (C : Ctx X M sc cf k xn) {op op' : CmpOp} {a b c : IE} {x y z : Expr} {pos : Pos} (ha : PE X x (ERd X xn W cf a)) (hb : PE X y (ERd X xn W cf b)) (hc : PE X z (ERd X xn W cf c)) (hm : lastMarks [op, op'] [y, z] = false) :
    PE X (.Compare x [op, op'] [y, z] pos) (ERd X xn W cf (.cmp2 op op' a b c)) := by
  refine PE.weak (pe_chain (opr_ex fun P He => op_cmp (P := P) (He := He) (n := lvl a) (m := lvl b) C.hu op) (opr_ex fun P He => op_cmp (P := P) (He := He) (n := lvl b) (m := lvl c) C.hu op') ha hb hc hm) ?_
  intro σ H Q ⟨He, Ox, ρ, xt, F, o⟩
  simp only [ev, lvl, freshE] at o
  refine ⟨He, Ox, ρ, xt, F, out_bd o fun t v H1 s1 r1 _ o1 => ?_⟩
  refine ⟨He, Ox, ρ, xt, F.same s1, out_bd o1 fun u v2 H2 s2 r2 _ o2 => ?_⟩
  refine ⟨Pr Ox ρ σ, He, t, u, r1.same s2, r2, ?_⟩
  cases e : cmpT op t u with
  | stuck => rw [e] at o2; exact o2
  | exc c fs => exact absurd e (cmpT_noExc op t u c fs)
  | ok kk =>
    rw [e] at o2
    simp only [bd_ok] at o2
    refine ⟨kk, rfl, ?_⟩
    cases kk with
    | true =>
      rw [if_pos rfl] at o2 ⊢
      refine ⟨He, Ox, ρ, xt, (F.same s1).same s2, out_bd o2 fun w v3 H3 s3 r3 _ o3 => ?_⟩
      exact ⟨Pr Ox ρ σ, He, u, w, r2.same s3, r3, out_cmp o3 (by decide) (cmpT_noExc op' u w)⟩
    | false =>
      rw [if_neg Bool.false_ne_true] at o2 ⊢
      exact out_val o2 (by decide) (fun _ => scal_fresh (by intro _ z; cases z)) rfl
theorem cmp2_tst (C : Ctx X M sc cf k xn) {op op' : CmpOp} {a b c : IE} {x y z : Expr} {pos : Pos} (ha : PE X x (ERd X xn W cf a)) (hb : PE X y (ERd X xn W cf b)) (hc : PE X z (ERd X xn W cf c)) (hm : lastMarks [op, op'] [y, z] = false) :
    PT X (.Compare x [op, op'] [y, z] pos) (TRd X xn W cf (.cmp2 op op' a b c)) := by
  refine PT.weak (pt_chain (opr_ex fun P He => op_cmp (P := P) (He := He) (n := lvl a) (m := lvl b) C.hu op) (opr_ex fun P He => op_cmp (P := P) (He := He) (n := lvl b) (m := lvl c) C.hu op') ha hb hc hm) ?_
  intro σ H Q ⟨He, Ox, ρ, xt, F, o⟩
  simp only [ev, bd_bd] at o
  refine ⟨He, Ox, ρ, xt, F, out_bdT o fun t v H1 s1 r1 o1 => ?_⟩
  refine ⟨He, Ox, ρ, xt, F.same s1, out_bdT o1 fun u v2 H2 s2 r2 o2 => ?_⟩
  refine ⟨Pr Ox ρ σ, He, t, u, r1.same s2, r2, ?_⟩
  cases e : cmpT op t u with
  | stuck => rw [e] at o2; exact o2
  | exc c fs => exact absurd e (cmpT_noExc op t u c fs)
  | ok kk =>
    rw [e] at o2
    simp only [bd_ok] at o2
    refine ⟨kk, rfl, ?_⟩
    cases kk with
    | true =>
      rw [if_pos rfl] at o2 ⊢
      simp only [bd_bd] at o2
      refine ⟨He, Ox, ρ, xt, (F.same s1).same s2, out_bdT o2 fun w v3 H3 s3 r3 o3 => ?_⟩
      exact ⟨Pr Ox ρ σ, He, u, w, r2.same s3, r3, out_cmpT o3 (cmpT_noExc op' u w)⟩
    | false =>
      rw [if_neg Bool.false_ne_true] at o2 ⊢
      exact ⟨false, rfl, o2 H2 (Same.refl H2)⟩
theorem not_ok {a : IE} {x : Expr} {pos : Pos} (ha : PE X x (ERd X xn W cf a)) : PE X (.UnaryOp .Not x pos) (ERd X xn W cf (.not a)) := by
  refine PE.weak (pe_notT ha) ?_
  intro σ H Q ⟨He, Ox, ρ, xt, F, o⟩
  simp only [ev, lvl, freshE] at o
  refine ⟨He, Ox, ρ, xt, F, out_bd o fun t v H1 s1 r1 _ o1 => ?_⟩
  obtain ⟨kk, h1, o2⟩ := out_truth r1 o1
  exact ⟨kk, h1, out_val o2 (by decide) (fun _ => scal_fresh (by intro _ z; cases z)) rfl⟩
/-- a truth's rest -/
theorem out_tt {r : Res T} {g : Bool → Res Bool} {Qt : Bool → Hp → Prop} {Qt' : Bool → Hp → Prop} (o : OutT X.mg W σ H Qt (r.bd fun t => (truthR t).bd g)) (kk : ∀ b H', Same H H' → OutT X.mg W σ H' Qt (g b) → Qt' b H') : OutT X.mg W σ H Qt' (r.bd truthR) := by
  cases r with
  | stuck => exact o
  | exc c fs => exact o
  | ok t =>
    simp only [bd_ok] at o ⊢
    cases e2 : truthR t with
    | stuck => rw [e2] at o; exact o
    | exc c fs => rw [e2] at o; exact o
    | ok b =>
      rw [e2] at o
      exact fun H' s => kk b H' s (OutT.mono s (r := g b) o)
theorem not_tst {a : IE} {x : Expr} {pos : Pos} (ha : PT X x (TRd X xn W cf a)) : PT X (.UnaryOp .Not x pos) (TRd X xn W cf (.not a)) := by
  refine PT.weak (pt_not ha) ?_
  intro σ H Q ⟨He, Ox, ρ, xt, F, o⟩
  simp only [ev, bd_bd] at o
  exact ⟨He, Ox, ρ, xt, F, out_tt o fun b H' s o1 => o1 H' (Same.refl _)⟩
theorem and_ok {a b : IE} {x y : Expr} {r : List Expr} {pos : Pos} (l1 : lvl a ≠ 0) (l2 : lvl b ≠ 0) (ha : PE X x (ERd X xn W cf a)) (hb : PE X (.BoolOp .And (y :: r) pos) (ERd X xn W cf b)) : PE X (.BoolOp .And (x :: y :: r) pos) (ERd X xn W cf (.and a b)) := by
  refine PE.weak (pe_andT ha hb) ?_
  intro σ H Q ⟨He, Ox, ρ, xt, F, o⟩
  simp only [ev, lvl, freshE] at o
  refine ⟨He, Ox, ρ, xt, F, out_bd o fun t v H1 s1 r1 _ o1 => ?_⟩
  obtain ⟨kk, h1, o2⟩ := out_truth r1 o1
  refine ⟨kk, h1, ?_⟩
  have hm : min (lvl a) (lvl b) ≠ 0 := by omega
  cases kk with
  | true =>
    rw [if_pos rfl] at o2 ⊢
    refine ⟨He, Ox, ρ, xt, F.same s1, ?_⟩
    cases e : ev cf b ρ with
    | ok u => rw [e] at o2; exact fun v' H' s r f => o2 v' H' s (r.down (Nat.min_le_right _ _) hm (lvl_le b)) (fun z => by cases z)
    | exc c fs => rw [e] at o2; exact o2
    | stuck => rw [e] at o2; exact o2
  | false =>
    rw [if_neg Bool.false_ne_true] at o2 ⊢
    exact o2 v H1 (Same.refl _) (r1.down (Nat.min_le_left _ _) hm (lvl_le a)) (fun z => by cases z)
theorem or_ok {a b : IE} {x y : Expr} {r : List Expr} {pos : Pos} (l1 : lvl a ≠ 0) (l2 : lvl b ≠ 0) (ha : PE X x (ERd X xn W cf a)) (hb : PE X (.BoolOp .Or (y :: r) pos) (ERd X xn W cf b)) : PE X (.BoolOp .Or (x :: y :: r) pos) (ERd X xn W cf (.or a b)) := by
  refine PE.weak (pe_orT ha hb) ?_
  intro σ H Q ⟨He, Ox, ρ, xt, F, o⟩
  simp only [ev, lvl, freshE] at o
  refine ⟨He, Ox, ρ, xt, F, out_bd o fun t v H1 s1 r1 _ o1 => ?_⟩
  obtain ⟨kk, h1, o2⟩ := out_truth r1 o1
  refine ⟨kk, h1, ?_⟩
  have hm : min (lvl a) (lvl b) ≠ 0 := by omega
  cases kk with
  | true =>
    rw [if_pos rfl] at o2 ⊢
    exact o2 v H1 (Same.refl _) (r1.down (Nat.min_le_left _ _) hm (lvl_le a)) (fun z => by cases z)
  | false =>
    rw [if_neg Bool.false_ne_true] at o2 ⊢
    refine ⟨He, Ox, ρ, xt, F.same s1, ?_⟩
    cases e : ev cf b ρ with
    | ok u => rw [e] at o2; exact fun v' H' s r f => o2 v' H' s (r.down (Nat.min_le_right _ _) hm (lvl_le b)) (fun z => by cases z)
    | exc c fs => rw [e] at o2; exact o2
    | stuck => rw [e] at o2; exact o2
theorem truth_and {r : Res T} {s : Res T} : (r.bd fun x => (truthR x).bd fun k => if k = true then s else .ok x).bd truthR = r.bd fun x => (truthR x).bd fun k => if k = true then s.bd truthR else .ok false := by
  cases r with
  | stuck => rfl
  | exc c fs => rfl
  | ok t =>
    simp only [bd_ok]
    cases e : truthR t with
    | stuck => rfl
    | exc c fs => rfl
    | ok b =>
      cases b with
      | true => rfl
      | false => exact e
theorem truth_or {r : Res T} {s : Res T} : (r.bd fun x => (truthR x).bd fun k => if k = true then .ok x else s).bd truthR = r.bd fun x => (truthR x).bd fun k => if k = true then .ok true else s.bd truthR := by
  cases r with
  | stuck => rfl
  | exc c fs => rfl
  | ok t =>
    simp only [bd_ok]
    cases e : truthR t with
    | stuck => rfl
    | exc c fs => rfl
    | ok b =>
      cases b with
      | true => exact e
      | false => rfl
theorem and_tst {a b : IE} {x y : Expr} {r : List Expr} {pos : Pos} (ha : PT X x (TRd X xn W cf a)) (hb : PW X (.BoolOp .And (y :: r) pos) (TRd X xn W cf b)) : PW X (.BoolOp .And (x :: y :: r) pos) (TRd X xn W cf (.and a b)) := by
  refine PW.weak (pw_and ha hb) ?_
  intro σ H Q ⟨He, Ox, ρ, xt, F, o⟩
  simp only [ev, truth_and] at o
  refine ⟨He, Ox, ρ, xt, F, out_tt o fun b' H' s o1 => ?_⟩
  cases b' with
  | true =>
    rw [if_pos rfl] at o1 ⊢
    exact ⟨He, Ox, ρ, xt, F.same s, o1⟩
  | false =>
    rw [if_neg Bool.false_ne_true] at o1 ⊢
    exact o1 H' (Same.refl _)
theorem or_tst {a b : IE} {x y : Expr} {r : List Expr} {pos : Pos} (ha : PT X x (TRd X xn W cf a)) (hb : PW X (.BoolOp .Or (y :: r) pos) (TRd X xn W cf b)) : PW X (.BoolOp .Or (x :: y :: r) pos) (TRd X xn W cf (.or a b)) := by
  refine PW.weak (pw_or ha hb) ?_
  intro σ H Q ⟨He, Ox, ρ, xt, F, o⟩
  simp only [ev, truth_or] at o
  refine ⟨He, Ox, ρ, xt, F, out_tt o fun b' H' s o1 => ?_⟩
  cases b' with
  | true =>
    rw [if_pos rfl] at o1 ⊢
    exact o1 H' (Same.refl _)
  | false =>
    rw [if_neg Bool.false_ne_true] at o1 ⊢
    exact ⟨He, Ox, ρ, xt, F.same s, o1⟩
/-- any expression's test, by its value -/
theorem any_tst {e : IE} {x : Expr} (ha : PE X x (ERd X xn W cf e)) (hp : plainT x = true) : PT X x (TRd X xn W cf e) := by
  refine PT.weak (pt_truth ha (plain_tst hp)) ?_
  intro σ H Q ⟨He, Ox, ρ, xt, F, o⟩
  refine ⟨He, Ox, ρ, xt, F, out_bdT o fun t v H1 s1 r1 o1 => ?_⟩
  have o1' : OutT X.mg W σ H1 Q ((truthR t).bd fun b => .ok b) := by
    cases e2 : truthR t <;> rw [e2] at o1 <;> exact o1
  obtain ⟨kk, h1, o2⟩ := out_truthT r1 o1'
  exact ⟨kk, h1, o2 H1 (Same.refl _)⟩
theorem out_ttE {r : Res T} {g : Bool → Res T} {Qt' : Bool → Hp → Prop} (o : OutE X.K X.mg W P He σ n fr H Q (r.bd fun t => (truthR t).bd g)) (kk : ∀ b H', Same H H' → OutE X.K X.mg W P He σ n fr H' Q (g b) → Qt' b H') : OutT X.mg W σ H Qt' (r.bd truthR) := by
  cases r with
  | stuck => exact o
  | exc c fs => exact o
  | ok t =>
    simp only [bd_ok] at o ⊢
    cases e2 : truthR t with
    | stuck => rw [e2] at o; exact o
    | exc c fs => rw [e2] at o; exact o
    | ok b =>
      rw [e2] at o
      exact fun H' s => kk b H' s (OutE.mono s (r := g b) o)
theorem ite_ok {c a b : IE} {x y z : Expr} {pos : Pos} (l1 : lvl a ≠ 0) (l2 : lvl b ≠ 0) (hc : PT X x (TRd X xn W cf c)) (ha : PE X y (ERd X xn W cf a)) (hb : PE X z (ERd X xn W cf b)) : PE X (.IfExp x y z pos) (ERd X xn W cf (.ite c a b)) := by
  refine PE.weak (pe_ifExp hc ha hb) ?_
  intro σ H Q ⟨He, Ox, ρ, xt, F, o⟩
  simp only [ev, lvl, freshE] at o
  have hm : min (lvl a) (lvl b) ≠ 0 := by omega
  refine ⟨He, Ox, ρ, xt, F, out_ttE o fun kk H' s o' => ?_⟩
  cases kk with
  | true =>
    rw [if_pos rfl] at o' ⊢
    refine ⟨He, Ox, ρ, xt, F.same s, ?_⟩
    cases e3 : ev cf a ρ with
    | ok u => rw [e3] at o'; exact fun v' H'' s' r f => o' v' H'' s' (r.down (Nat.min_le_left _ _) hm (lvl_le a)) (fun z => by cases z)
    | exc c fs => rw [e3] at o'; exact o'
    | stuck => rw [e3] at o'; exact o'
  | false =>
    rw [if_neg Bool.false_ne_true] at o' ⊢
    refine ⟨He, Ox, ρ, xt, F.same s, ?_⟩
    cases e3 : ev cf b ρ with
    | ok u => rw [e3] at o'; exact fun v' H'' s' r f => o' v' H'' s' (r.down (Nat.min_le_right _ _) hm (lvl_le b)) (fun z => by cases z)
    | exc c fs => rw [e3] at o'; exact o'
    | stuck => rw [e3] at o'; exact o'
theorem tup_ok {es : List IE} {xs : List Expr} {kk : Nat} {pos : Pos} (hl : lvls es ≠ 0) (hz : es.length ≤ 1000) (ha : PA X xs (ARd X xn W cf es)) : PE X (.Tuple xs kk pos) (ERd X xn W cf (.tup es)) := by
  refine PE.weak (pe_tupN ha) ?_
  intro σ H Q ⟨He, Ox, ρ, xt, F, o⟩
  simp only [ev, lvl, freshE] at o
  refine ⟨He, Ox, ρ, xt, F, out_bdA o fun ts vs H1 s1 r1 o1 => ?_⟩
  have len := r1.length
  refine ⟨by rw [len.1]; unfold lvlsL; rw [List.length_map, sizeLine_eq]; omega, fun p ob hp ho => ?_⟩
  exact o1 _ _ (same_upd hp) ((F.same s1).vw.tup hp ho hl (argL_reps (Nat.le_refl _) hl r1)) (fun z => by cases z)
theorem lst_ok {es : List IE} {xs : List Expr} {pos : Pos} (hl : lvls es ≠ 0) (hz : es.length ≤ 1000) (ha : PA X xs (ARd X xn W cf es)) : PE X (.List xs pos) (ERd X xn W cf (.lst es)) := by
  refine PE.weak (pe_lst ha) ?_
  intro σ H Q ⟨He, Ox, ρ, xt, F, o⟩
  simp only [ev, lvl, freshE] at o
  refine ⟨He, Ox, ρ, xt, F, out_bdA o fun ts vs H1 s1 r1 o1 => ?_⟩
  have len := r1.length
  refine ⟨by rw [len.1]; unfold lvlsL; rw [List.length_map, sizeLine_eq]; omega, fun p hp => ?_⟩
  exact o1 _ _ (same_upd hp) ((F.same s1).vw.lst hp hl (argL_reps (Nat.le_refl _) hl r1)) (fun _ => fresh_new hp)
theorem idx_ok {a i : IE} {x y : Expr} {pos : Pos} (ha : PE X x (ERd X xn W cf a)) (hi : PE X y (ERd X xn W cf i)) (hp : notSlice y = true) : PE X (.Subscript x y pos) (ERd X xn W cf (.idx a i)) := by
  refine PE.weak (pe_ix (ixr_ex fun P He => ix_T (P := P) (He := He) (n := lvl a) (m := lvl i)) ha hi (plain_ix hp)) ?_
  intro σ H Q ⟨He, Ox, ρ, xt, F, o⟩
  simp only [ev, lvl, freshE] at o
  refine ⟨He, Ox, ρ, xt, F, out_bd o fun t v H1 s1 r1 _ o1 => ?_⟩
  refine ⟨He, Ox, ρ, xt, F.same s1, out_bd o1 fun u v2 H2 s2 r2 _ o2 => ?_⟩
  exact ⟨Pr Ox ρ σ, He, t, u, r1.same s2, r2, out_of o2 (idxT_noExc t u) (fun z => by cases z)⟩
end
end BV

namespace BV
open PySem PySem.Spec PyProof.Rows L2
section
variable {X : Cx} {M : Nm} {sc : Scope} {cf : Nat → List T → Res T} {k : Nat} {xn : XN} {W : WXb}
/-- a slice's part -/
def ORd (X : Cx) (xn : XN) (W : WXb) (cf : Nat → List T → Res T) (es : List IE) : TO := fun σ H Q => ∃ He Ox ρ xt, FI X.K xn He Ox xt ρ σ H ∧ (match (evs cf es ρ).bd optInt with
  | .ok o => ∀ H', Same H H' → Q o H'
  | .exc c fs => fs = [] ∧ ∀ cv H', Same H H' → X.mg c = some cv → W cv none σ H'
  | .stuck => False)
theorem po_nil : PO X none (ORd X xn W cf []) := by
  refine ⟨fun pins s σ H Q I h => po_none.run pins s σ H Q I ?_⟩
  obtain ⟨He, Ox, ρ, xt, F, o⟩ := h
  exact o H (Same.refl H)
theorem po_one {e : IE} {x : Expr} (he : PE X x (ERd X xn W cf e)) : PO X (some x) (ORd X xn W cf [e]) := by
  refine ⟨fun pins s σ H Q I h => (po_some he).run pins s σ H Q I ?_⟩
  obtain ⟨He, Ox, ρ, xt, F, o⟩ := h
  refine ⟨He, Ox, ρ, xt, F, ?_⟩
  simp only [evs] at o
  cases h2 : ev cf e ρ with
  | stuck => rw [h2] at o; exact o
  | exc c fs => rw [h2] at o; exact o
  | ok t =>
    rw [h2] at o
    simp only [bd_ok] at o
    intro v H' s r _
    cases t with
    | int i =>
      have e1 := r.int; subst e1
      exact ⟨i, rfl, o H' s⟩
    | _ => exact o.elim
theorem out_o {P : Addr → Prop} {He H : Hp} {σ : L2.St} {n : Nat} {fr : Bool} {Q : VK} {r : Res (List T)} {g : Option Int → Res T} {Q' : Option Int → Hp → Prop} {Ox : Addr → Prop} {ρ : Env} {xt : List (Nat × T × V)} {es : List IE} (F : FI X.K xn He Ox xt ρ σ H)
    (o : OutE X.K X.mg W P He σ n fr H Q ((evs cf es ρ).bd fun l => (optInt l).bd g)) (kk : ∀ i H', Same H H' → OutE X.K X.mg W P He σ n fr H' Q (g i) → Q' i H') : ORd X xn W cf es σ H Q' := by
  refine ⟨He, Ox, ρ, xt, F, ?_⟩
  cases h2 : evs cf es ρ with
  | stuck => rw [h2] at o; exact o
  | exc c fs => rw [h2] at o; exact o
  | ok l =>
    rw [h2] at o
    simp only [bd_ok] at o ⊢
    cases h3 : optInt l with
    | stuck => rw [h3] at o; exact o
    | exc c fs => rw [h3] at o; exact o
    | ok i =>
      rw [h3] at o
      exact fun H' s => kk i H' s (OutE.mono s (r := g i) o)
theorem slice_ok {a : IE} {lo hi : List IE} {x : Expr} {l h : Option Expr} {p2 pos : Pos} (ha : PE X x (ERd X xn W cf a)) (hl : PO X l (ORd X xn W cf lo)) (hh : PO X h (ORd X xn W cf hi)) : PE X (.Subscript x (.Slice l h none p2) pos) (ERd X xn W cf (.slice a lo hi)) := by
  refine PE.weak (pe_slice (slr_ex fun P He => sl_T (P := P) (He := He) (n := lvl a)) ha hl hh) ?_
  intro σ H Q ⟨He, Ox, ρ, xt, F, o⟩
  simp only [ev, lvl, freshE] at o
  refine ⟨He, Ox, ρ, xt, F, out_bd o fun t v H1 s1 r1 _ o1 => ?_⟩
  have F1 := F.same s1
  refine out_o (r := .stuck) F1 o1 fun i H2 s2 o2 => out_o (r := .stuck) (F1.same s2) o2 fun j H3 s3 o3 => ?_
  exact ⟨Pr Ox ρ σ, He, ((F1.same s2).same s3).vw, t, (r1.same s2).same s3, out_of o3 (sliceT_noExc t i j) (fun _ => rfl)⟩
theorem turn_ok {cut : Bool} {a : IE} {x : Expr} {up : Option Expr} {k0 : Nat} {p1 p2 p3 pos : Pos} (hu : cutX cut up = true) (ha : PE X x (ERd X xn W cf a)) : PE X (.Subscript x (.Slice none up (some (.UnaryOp .USub (.Constant (.int 1) k0 p1) p2)) p3) pos) (ERd X xn W cf (.turn cut a)) := by
  refine PE.weak (pe_turn (n := lvl a) hu ha) ?_
  intro σ H Q ⟨He, Ox, ρ, xt, F, o⟩
  simp only [ev, lvl, freshE] at o
  refine ⟨He, Ox, ρ, xt, F, out_bd o fun t v H1 s1 r1 _ o1 => ?_⟩
  exact ⟨Pr Ox ρ σ, He, (F.same s1).vw, t, r1, out_of o1 (turnT_noExc cut t) (fun _ => rfl)⟩
theorem few1 {e : Expr} {env : PySem.Env} {cpos : Pos} (h : notStar e = true) : ((backTo cpos (starEach [e] env)).all (fun x => !x.1) && (backToKw cpos (keywordEach [] env)).all (fun x => x.1.isSome)
      && decide (([e] : List Expr).length + ([] : List Keyword).length + (if ([] : List Keyword).isEmpty then 0 else 1) < 30)) = true := by
  rw [star_cons h]; rfl
theorem base_sup {x : Expr} {f : Str} {env : PySem.Env} (h : noSup x = true) : attributeBase x f env (eval x env) = eval x env := by
  unfold noSup at h
  split at h
  · cases h
  · rename_i hx
    unfold attributeBase
    split
    · rename_i id p pos
      exact absurd rfl (hx id p pos)
    · rfl
theorem place_ok {d : PyData} : ∀ {xs : List T} {j : Nat}, placeT d xs = some j → ∃ z, (toDL xs)[j]? = some z ∧ PyData.eqv z d = true ∧ ∀ (m : Nat) (z' : PyData), m < j → (toDL xs)[m]? = some z' → PyData.eqv z' d = false
  | [], j, h => by simp [placeT] at h
  | x :: xs, j, h => by
    unfold placeT at h
    rw [List.findIdx?_cons] at h
    split at h
    · rename_i hx
      cases h
      exact ⟨x.toD, by simp [toDL], hx, fun m z' hm _ => by omega⟩
    · rename_i hx
      cases h2 : xs.findIdx? (fun x => PyData.eqv x.toD d) with
      | none => rw [h2] at h; cases h
      | some j' =>
        rw [h2] at h
        simp only [Option.map_some, Option.some.injEq] at h
        subst h
        obtain ⟨z, h3, h4, h5⟩ := place_ok (xs := xs) (j := j') h2
        refine ⟨z, by simpa [toDL] using h3, h4, fun m z' hm hz => ?_⟩
        cases m with
        | zero =>
          simp only [toDL, List.getElem?_cons_zero, Option.some.injEq] at hz
          subst hz
          simpa using hx
        | succ m => exact h5 m z' (by omega) (by simpa [toDL] using hz)
theorem index_ok (C : Ctx X M sc cf k xn) {a e : IE} {x y : Expr} {ap cp : Pos} (line : (ap.endLine == cp.line) = true) (hb : noSup x = true) (hs : notStar y = true) (ha : PE X x (ERd X xn W cf a))
    (hpa : PA X [y] (ARd X xn W cf [e])) : PE X (.Call (.Attribute x "index" ap) [y] [] cp) (ERd X xn W cf (.meth .index a [e])) := by
  refine PE.weak (pe_bm PySem.F.plainAttrs_list PySem.F.slot_list_index PySem.F.type_list_index (mt_indexD C.hu) ha hpa (base_sup hb) (few1 hs) line (star_cons hs) rfl) ?_
  intro σ H Q ⟨He, Ox, ρ, xt, F, o⟩
  simp only [ev, lvl, freshE] at o
  refine ⟨He, Ox, ρ, xt, F, out_bd o fun t v H1 s1 r1 _ o1 => ?_⟩
  cases t with
  | lst xs =>
    simp only [recvOk, if_true] at o1
    obtain ⟨a', vs', rfl, q, _⟩ := r1.lst
    refine ⟨.inl ⟨rfl, vs', SqL.of q⟩, He, Ox, ρ, xt, F.same s1, out_bdA o1 fun ts vs H2 s2 r2 o2 => ?_⟩
    obtain ⟨u, w, rfl, rfl, r3⟩ := ArgL.one r2
    simp only [meT] at o2
    split at o2
    · rename_i sh
      split at o2
      · rename_i j hj
        obtain ⟨z, h1, h2, h3⟩ := place_ok hj
        have d1 := (r1.same s2).dp
        refine ⟨a', w, u.toD, toDL xs, j, z, rfl, rfl, by simpa [T.toD] using d1, r3.dp, by simpa [T.toD] using sh.2, sh.1, h1, h2, h3, ?_⟩
        exact out_val o2 (by decide) (fun _ => scal_fresh (by intro _ z; cases z)) rfl
      · exact o2.elim
    · exact o2.elim
  | _ => simp only [recvOk, Bool.false_eq_true, if_false] at o1; exact o1.elim
theorem indexT_ok (C : Ctx X M sc cf k xn) {a e : IE} {x y : Expr} {ap cp : Pos} (line : (ap.endLine == cp.line) = true) (hb : noSup x = true) (hs : notStar y = true) (ha : PE X x (ERd X xn W cf a)) (hpa : PA X [y] (ARd X xn W cf [e])) :
    PE X (.Call (.Attribute x "index" ap) [y] [] cp) (ERd X xn W cf (.meth .indexT a [e])) := by
  refine PE.weak (pe_mt PySem.F.slot_tuple_index PySem.F.type_tuple_index (mt_ixTN C.hu) ha hpa (base_sup hb) (few1 hs) line (star_cons hs) rfl) ?_
  intro σ H Q ⟨He, Ox, ρ, xt, F, o⟩
  simp only [ev, lvl, freshE] at o
  refine ⟨He, Ox, ρ, xt, F, out_bd o fun t v H1 s1 r1 _ o1 => ?_⟩
  cases t with
  | tup xs =>
    simp only [recvOk, if_true] at o1
    obtain ⟨a', vs', rfl, q, kk⟩ := r1.tupN
    refine ⟨⟨a', vs', rfl, q⟩, He, Ox, ρ, xt, F.same s1, out_bdA o1 fun ts vs H2 s2 r2 o2 => ?_⟩
    obtain ⟨u, w, rfl, rfl, r3⟩ := ArgL.one r2
    simp only [meT] at o2
    split at o2
    · rename_i sh
      split at o2
      · rename_i j hj
        obtain ⟨z, h1, h2, h3⟩ := place_ok hj
        obtain ⟨a2, vs2, e2, q2, kk2⟩ := (r1.same s2).tup
        cases e2
        refine ⟨a', w, u.toD, toDL xs, vs2, j, z, rfl, rfl, q2, Reps.dp _ _ kk2, r3.dp, by simpa [T.toD] using sh.2, sh.1, h1, h2, h3, ?_⟩
        exact out_val o2 (by decide) (fun _ => scal_fresh (by intro _ z; cases z)) rfl
      · exact o2.elim
    · exact o2.elim
  | _ => simp only [recvOk, Bool.false_eq_true, if_false] at o1; exact o1.elim
theorem call_ok (C : Ctx X M sc cf k xn) (tk : Takes X W) {f : Nat} {es : List IE} {x : Str} {y : Expr} {ys : List Expr} {p pos : Pos} (hc : M.calm = true) (hf : M.fns[f]? = some x) (g : glB sc x = true) (d : dbgOk x = true) (hs : chkEs M sc es (y :: ys) = true)
    (ha : PA X (y :: ys) (ARd X xn W cf es)) : PE X (.Call (.Name x p) (y :: ys) [] pos) (ERd X xn W cf (.call f es)) := by
  obtain ⟨fa, fd, ps, hm, hk, hb, FO⟩ := C.g.fn f x hf
  have hst : notStar y = true := by
    cases es with
    | nil => simp [chkEs] at hs
    | cons e es => simp only [chkEs, Bool.and_eq_true] at hs; exact hs.1.1
  have hpl : (backTo pos (starEach ys X.env)).any (·.1) = false := by
    cases es with
    | nil => simp [chkEs] at hs
    | cons e es => simp only [chkEs, Bool.and_eq_true] at hs; exact star_none hs.2
  refine PE.weak (pe_callS (E := WE W) FO (C.room hc) (gl_of C g) hm hk hb (fun σ => passAt tk σ) ha (dbg1 d) (star_cons hst) hpl) ?_
  intro σ H Q ⟨He, Ox, ρ, xt, F, o⟩
  simp only [ev, lvl, freshE] at o
  refine ⟨He, Ox, ρ, xt, F, out_bdA o fun ts vs H1 s1 r1 o1 => ?_⟩
  have w := (F.same s1).vw
  refine ⟨ts, r1.all, ?_⟩
  cases e : cf f ts with
  | stuck => rw [e] at o1; exact o1
  | exc c fs => rw [e] at o1; exact o1
  | ok t =>
    rw [e] at o1
    intro v H2 s2 r2
    refine o1 v H2 s2 ?_ (fun _ xs a e1 e2 => ?_)
    · rw [repL_pos (by decide)]
      exact r2.weak fun a _ _ x => w.new x
    · subst e1 e2
      obtain ⟨b, us, e3, q, _⟩ := r2
      cases e3
      exact q.2
theorem callr_ex {f : Value} {r : (Addr → Prop) → Hp → List V → Hp → VK → Prop} (h : ∀ P He, CallR X f (r P He)) : CallR X f (fun xs H Q => ∃ P He, r P He xs H Q) := by
  intro pins s σ H xs us Q I rx ⟨P, He, q⟩
  exact h P He pins s σ H xs us Q I rx q
theorem bi_gen (C : Ctx X M sc cf k xn) {b : Bi} {es : List IE} {f : Str} {y : Expr} {ys : List Expr} {p pos : Pos} (hf : f = biNm b) (hb : bltB M sc f = true) (h1000 : biAr b ≠ 1000) (hl : es.length = biAr b) (hc : M.calm = true ∨ biCalm b = false) (hs : chkEs M sc es (y :: ys) = true)
    (ha : PA X (y :: ys) (ARd X xn W cf es)) : PE X (.Call (.Name f p) (y :: ys) [] pos) (ERd X xn W cf (.bi b es)) := by
  obtain ⟨g, hm, d⟩ := blt_of C hb
  obtain ⟨e1, e2⟩ := boot_bi b h1000
  have hst : notStar y = true := by
    cases es with
    | nil => simp [chkEs] at hs
    | cons e es => simp only [chkEs, Bool.and_eq_true] at hs; exact hs.1.1
  have hpl : (backTo pos (starEach ys X.env)).any (·.1) = false := by
    cases es with
    | nil => simp [chkEs] at hs
    | cons e es => simp only [chkEs, Bool.and_eq_true] at hs; exact star_none hs.2
  have hcc : biCalm b = true → X.calm = true := fun z => by
    rcases hc with h | h
    · rw [C.calm]; exact h
    · rw [h] at z; cases z
  have key : PE X (.Call (.Name f p) (y :: ys) [] pos) (tCB (fun xs H Q => ∃ P He, biR X.K P He (lvlsL es) (biLv b (lvls es)) b xs H Q) (ARd X xn W cf es)) := by
    subst hf
    have hcall := bi_ok (X := X) C.hu70 b h1000 hcc hl
    rcases e2 with ⟨id, e2⟩ | ⟨t, e2⟩
    · rw [e2] at hcall e1
      exact pe_callB hcall g hm e1 ha (dbg3 d) (dbg1 d) (star_cons hst) hpl
    · rw [e2] at hcall e1
      exact pe_callTy hcall g hm e1 ha (dbg3 d) (dbg1 d) (star_cons hst) hpl
  refine PE.weak key ?_
  intro σ H Q ⟨He, Ox, ρ, xt, F, o⟩
  simp only [ev, lvl, freshE] at o
  refine ⟨He, Ox, ρ, xt, F, out_bdA o fun ts vs H1 s1 r1 o1 => ?_⟩
  exact ⟨Pr Ox ρ σ, He, (F.same s1).vw, ts, r1, out_of o1 (biT_noExc b ts) (fun _ => rfl)⟩
theorem fact_ok (C : Ctx X M sc cf k xn) {es : List IE} {y : Expr} {p pos : Pos} (hb : glB sc ("factorial" : Str) = true) (d : dbgOk ("factorial" : Str) = true) (hf : M.fact = true) (hs : chkEs M sc es [y] = true)
    (ha : PA X [y] (ARd X xn W cf es)) : PE X (.Call (.Name "factorial" p) [y] [] pos) (ERd X xn W cf (.bi .fact es)) := by
  match es, hs, ha with
  | [e], hs, ha =>
    have hs' := hs
    simp only [chkEs, Bool.and_eq_true] at hs'
    refine PE.weak (pe_callBfun (callr_ex fun P He => bi_fact (P := P) (He := He) (n := lvl e)) (gl_of C hb) (C.g.fact hf) ha (dbg1 d) (star_cons hs'.1.1) rfl) ?_
    intro σ H Q ⟨He, Ox, ρ, xt, F, o⟩
    simp only [ev, lvl, freshE] at o
    refine ⟨He, Ox, ρ, xt, F, out_bdA o fun ts vs H1 s1 r1 o1 => ?_⟩
    exact ⟨Pr Ox ρ σ, He, (F.same s1).vw, ts, r1, out_of o1 (biT_noExc .fact ts) (fun _ => rfl)⟩
  | [], hs, _ => simp [chkEs] at hs
  | _ :: _ :: _, hs, _ => simp [chkEs] at hs
theorem isi_ok (C : Ctx X M sc cf k xn) {t : String} {e : IE} {x : Expr} {p p2 pos : Pos} (hb : bltB M sc ("isinstance" : Str) = true) (hb2 : bltB M sc (Str.ofString t) = true) (ht : t ∈ (["int", "bool", "str", "tuple", "list"] : List String)) (hs : notStar x = true)
    (ha : PE X x (ERd X xn W cf e)) : PE X (.Call (.Name "isinstance" p) [x, .Name (Str.ofString t) p2] [] pos) (ERd X xn W cf (.bi (.isi [t]) [e])) := by
  obtain ⟨g, hm, d⟩ := blt_of C hb
  obtain ⟨g2, hm2, d2⟩ := blt_of C hb2
  have boot : bootBuiltins (Str.ofString t) = some (.type t) := by
    simp only [List.mem_cons, List.not_mem_nil, or_false] at ht
    rcases ht with rfl | rfl | rfl | rfl | rfl <;> decide +kernel
  have hty : PE X (.Name (Str.ofString t) p2) (tC (.ty t)) := pe_bltn g2 hm2 boot rfl (dbg3 d2) (dbg1 d2)
  refine PE.weak (pe_callB call_isi g hm boot_isinstance (pa_cons ha (pa_cons hty pa_nil (star_cons rfl)) (star_cons hs)) (dbg3 d) (dbg1 d) (star_cons hs) rfl) ?_
  intro σ H Q ⟨He, Ox, ρ, xt, F, o⟩
  simp only [ev, lvl, freshE, evs, bd_bd, bd_ok] at o
  refine ⟨He, Ox, ρ, xt, F, out_bd o fun u v H1 s1 r1 _ o1 => ?_⟩
  have o1' : OutE X.K X.mg W (Pr Ox ρ σ) He σ 2 true H1 Q (.ok (.bl (isiT u t))) := by
    have z := o1
    simp only [biT, List.any_cons, List.any_nil, Bool.or_false, biLv] at z
    exact z
  exact ⟨v, .ty t, .type (tyName u), .type t, isiT u t, rfl, .ty t, tyX_of r1, kit_ty (kit_tab _ (tyName_mem u) _ ht), out_val o1' (by decide) (fun _ => scal_fresh (by intro _ z; cases z)) rfl⟩
theorem listRng_ok (C : Ctx X M sc cf k xn) {es : List IE} {x : Expr} {p p2 pos pos2 : Pos} (hc : M.calm = true) (hb : bltB M sc ("list" : Str) = true) (hb2 : bltB M sc ("range" : Str) = true) (hs : chkEs M sc es [x] = true)
    (ha : ∀ e, es = [e] → PE X x (ERd X xn W cf e)) : PE X (.Call (.Name "list" p) [.Call (.Name "range" p2) [x] [] pos2] [] pos) (ERd X xn W cf (.bi .listRng es)) := by
  obtain ⟨g, hm, d⟩ := blt_of C hb
  obtain ⟨g2, hm2, d2⟩ := blt_of C hb2
  match es, hs, ha with
  | [e], hs, ha =>
    simp only [chkEs, Bool.and_eq_true] at hs
    refine PE.weak (pe_listRg (by rw [C.calm]; exact hc) g hm (prg_1 g2 hm2 (ha e rfl) (star_cons hs.1.1)) (star_cons rfl)) ?_
    intro σ H Q ⟨He, Ox, ρ, xt, F, o⟩
    simp only [ev, lvl, freshE, evs, bd_bd, bd_ok] at o
    refine ⟨He, Ox, ρ, xt, F, out_bd o fun u v H1 s1 r1 _ o1 => ?_⟩
    cases u with
    | int i =>
      have e1 := r1.int; subst e1
      simp only [biT] at o1
      split at o1
      · rename_i cnd
        have hz := sizeLine_eq
        refine ⟨i, rfl, ⟨by omega, by omega, by omega, by omega, by omega⟩, fun q hq => ?_⟩
        refine o1 _ _ (same_upd hq) ((F.same s1).vw.lst hq (show (2 : Nat) ≠ 0 by decide) ?_) (fun _ => fresh_new hq)
        have : rgV 0 i = ((List.range i.toNat).map fun (j : Nat) => (0 + (j : Int))).map V.int := by
          unfold rgV
          rw [List.map_map, Int.sub_zero]
          rfl
        rw [this]
        have : rangeL 0 i.toNat = ((List.range i.toNat).map fun (j : Nat) => (0 + (j : Int))).map T.int := by
          unfold rangeL
          rw [List.map_map]
          rfl
        rw [this]
        exact Reps.of_ints _
      · exact o1.elim
    | _ => exact o1.elim
  | [], hs, _ => simp [chkEs] at hs
  | _ :: _ :: _, hs, _ => simp [chkEs] at hs
theorem mem_of_lookup {c : Str} {b : Bool} : ∀ {tab : List (Str × Bool)}, tab.lookup c = some b → (c, b) ∈ tab
  | [], h => by cases h
  | (x, y) :: r, h => by
    unfold List.lookup at h
    split at h
    · rename_i e
      cases h
      rw [beq_iff_eq.mp e]
      exact List.mem_cons_self
    · exact List.mem_cons_of_mem _ (mem_of_lookup h)
theorem isE_ok (C : Ctx X M sc cf k xn) {i : Nat} {e y : Str} {tab : List (Str × Bool)} {p p2 p3 pos : Pos} (hb : bltB M sc ("isinstance" : Str) = true) (h1 : M.N[i]? = some e) (h2 : visB sc e = true) (h3 : dbgOk e = true) (g : glB sc y = true) (d : dbgOk y = true)
    (ht : ∀ q ∈ tab, (q.1, y, q.2) ∈ M.subs) : PE X (.Call (.Name "isinstance" p) [.Name e p2, .Name y p3] [] pos) (ERd X xn W cf (.isE i y tab)) := by
  refine ⟨fun pins s σ H Q I h => ?_⟩
  obtain ⟨He, Ox, ρ, xt, F, o⟩ := h
  simp only [ev, lvl, freshE] at o
  split at o
  · rename_i c fs hs
    split at o
    · rename_i b hl
      obtain ⟨a, ea, hx⟩ := F.sl i _ hs
      obtain ⟨_, X0, D, oe, pn, rfl, hm, hz, hv⟩ := C.exn a c fs hx
      obtain ⟨C', yv, hm2, hec, hy, ⟨cv, rv, uv⟩, _, kit⟩ := C.g.subs c y b (ht (c, b) (mem_of_lookup hl))
      rw [hm] at hm2
      cases hm2
      obtain ⟨gi, hmi, di⟩ := blt_of C hb
      have hty : PE (X0.suite a ((a, oe) :: pn)) (.Name y p3) (tC cv) := by
        rcases hy with hy | ⟨hy, hy2, hy3⟩
        · exact pe_glob (gl_of C g) hy rv (dbg1 d)
        · exact pe_bltn (gl_of C g) hy hy2 rv hy3 (dbg1 d)
      have hva := pe_var (X := X0.suite a ((a, oe) :: pn)) (i := i) (pos := p2) (by rw [C.N]; exact h1) (vis_of C h2) (dbg1 h3) (dbg2 h3)
      refine (pe_callB (pos := pos) (p := p) (call_isE (X := X0) (pn := pn) hec hz hv) gi hmi boot_isinstance (pa_cons hva (pa_cons hty pa_nil (star_cons rfl)) (star_cons rfl)) (dbg3 di) (dbg1 di) (star_cons rfl) rfl).run pins s σ H Q I ?_
      exact ⟨.ref a, ea, cv, yv, b, rfl, uv, kit, out_val o (by decide) (fun _ => scal_fresh (by intro _ z; cases z)) rfl⟩
    · exact o.elim
  · exact o.elim
end
end BV

namespace BV
open PySem PySem.Spec PyProof.Rows L2

/-! ### comprehensions: the plain side -/
theorem compL_app (f : T → Res (Option T)) : ∀ (a b : List T), compL f (a ++ b) = (compL f a).bd fun x => (compL f b).bd fun y => .ok (x ++ y)
  | [], b => by
    simp only [List.nil_append, compL, bd_ok]
    cases compL f b <;> rfl
  | t :: a, b => by
    simp only [List.cons_append, compL, compL_app f a b, bd_bd]
    cases f t with
    | stuck => rfl
    | exc c fs => rfl
    | ok o =>
      simp only [bd_ok]
      cases compL f a with
      | stuck => rfl
      | exc c fs => rfl
      | ok x =>
        simp only [bd_ok]
        cases compL f b with
        | stuck => rfl
        | exc c fs => rfl
        | ok y => cases o <;> rfl
def optL (o : Option T) : List T := match o with | some y => [y] | none => []
/-- the i-th turn -/
theorem compL_turn {f : T → Res (Option T)} {xs ys : List T} (h : compL f xs = .ok ys) {i : Nat} (hi : i < xs.length) : ∃ zs o, compL f (xs.take i) = .ok zs ∧ f xs[i] = .ok o ∧ compL f (xs.take (i + 1)) = .ok (zs ++ optL o) := by
  have e : xs = xs.take i ++ xs[i] :: xs.drop (i + 1) := by
    rw [List.getElem_cons_drop, List.take_append_drop]
  rw [e, compL_app] at h
  cases h1 : compL f (xs.take i) with
  | stuck => rw [h1] at h; cases h
  | exc c fs => rw [h1] at h; cases h
  | ok zs =>
    rw [h1] at h
    simp only [bd_ok, compL] at h
    cases h2 : f xs[i] with
    | stuck => rw [h2] at h; cases h
    | exc c fs => rw [h2] at h; cases h
    | ok o =>
      refine ⟨zs, o, rfl, rfl, ?_⟩
      rw [List.take_succ_eq_append_getElem hi, compL_app, h1]
      simp only [bd_ok, compL, h2]
      cases o <;> rfl

section
variable {K : PySem.W.Frag} {xn : XN} {He H H' : Hp} {Ox : Addr → Prop} {xt : List (Nat × T × V)} {ρ : Env} {σ : L2.St} {P Z : Addr → Prop} {n : Nat}
theorem lv_grow {a : Addr} (h : lv P He n a) (hz : ¬ Z a) : lv (fun b => P b ∨ Z b) He n a := ⟨fun p => p.elim h.1 hz, h.2⟩
theorem RepL.grow {t : T} {v : V} (r : RepL K P He H n t v) (hz : ∀ a, Z a → H a = none) : RepL K (fun b => P b ∨ Z b) He H n t v := by
  have hA : ∀ m a vs, H a = some (.lst vs) → lv P He m a → lv (fun b => P b ∨ Z b) He m a := fun m a vs e x => lv_grow x fun z => by rw [hz a z] at e; cases e
  by_cases e : n = 0
  · subst e
    rw [repL_zero] at r ⊢
    obtain ⟨xs, a, vs, h1, h2, h3, h4⟩ := r
    exact ⟨xs, a, vs, h1, h2, ⟨h3.1, .inl h3.2⟩, h4.weak (hA 2)⟩
  · rw [repL_pos e] at r ⊢
    exact r.weak (hA n)
/-- more lists are protected, all newer than the heap -/
theorem FI.grow (F : FI K xn He Ox xt ρ σ H) (s : Same H H') (hz : ∀ a, Z a → H a = none) (hz' : ∀ a, Z a → H' a ≠ none) : FI K xn He (fun a => Ox a ∨ Z a) xt ρ σ H' := by
  have hA : ∀ m a vs, H a = some (.lst vs) → lv (Pr Ox ρ σ) He m a → lv (Pr (fun a => Ox a ∨ Z a) ρ σ) He m a := fun m a vs e x => ⟨fun p => by
    rcases p with (p | p) | p
    · exact x.1 (.inl p)
    · rw [hz a p] at e; cases e
    · exact x.1 (.inr p), x.2⟩
  refine ⟨F.len, fun i u e => ?_, F.inj, F.base.trans s, fun a p => ?_, fun e m => ⟨(F.xts e m).1, ((F.xts e m).2.weak (hA e.1)).same s⟩⟩
  · have x := F.sl i u e
    cases u with
    | val t => obtain ⟨v, e1, r⟩ := x; exact ⟨v, e1, (r.weak (hA 2)).same s⟩
    | par t => obtain ⟨v, e1, r⟩ := x; exact ⟨v, e1, (r.weak (hA 1)).same s⟩
    | exn c fs => exact x
    | own xs =>
      obtain ⟨a, vs, e1, q, f, ox, r⟩ := x
      refine ⟨a, vs, e1, s _ _ q, f, fun p => ?_, (r.weak (hA 2)).same s⟩
      rcases p with p | p
      · exact ox p
      · rw [hz a p] at q; cases q
  · rcases p with p | p
    · intro e; exact F.oxd a p (s.free e)
    · exact hz' a p
/-- slots are forgotten, their lists stay protected -/
theorem FI.forget (F : FI K xn He Ox xt ρ σ H) (vs : List Nat) : FI K xn He (fun a => Ox a ∨ (Own ρ σ a ∧ ¬ Own (wipeE ρ vs) (L2.wipe σ vs) a)) xt (wipeE ρ vs) (L2.wipe σ vs) H := by
  have G := F.wipe vs
  have hsub : ∀ a, Own (wipeE ρ vs) (L2.wipe σ vs) a → Own ρ σ a := by
    intro a
    induction vs with
    | nil => exact id
    | cons v vs ih => exact fun o => ih (F.wipe vs) (own_set (s := none) (v := none) (by intro _ z; cases z) o)
  have hp : ∀ a, Pr (fun a => Ox a ∨ (Own ρ σ a ∧ ¬ Own (wipeE ρ vs) (L2.wipe σ vs) a)) (wipeE ρ vs) (L2.wipe σ vs) a → Pr Ox ρ σ a := by
    rintro a ((p | p) | p)
    · exact .inl p
    · exact .inr p.1
    · exact .inr (hsub a p)
  have sub : ∀ (i : Nat) (u : Sl), (wipeE ρ vs)[i]? = some (some u) → ρ[i]? = some (some u) ∧ (L2.wipe σ vs)[i]? = σ[i]? := by
    intro i u
    clear hp hsub G
    induction vs with
    | nil => exact fun e => ⟨e, rfl⟩
    | cons v vs ih =>
      intro e
      unfold wipeE at e
      unfold L2.wipe
      by_cases hi : v = i
      · subst hi
        rw [List.getElem?_set] at e
        simp only [if_true] at e
        split at e <;> cases e
      · rw [List.getElem?_set_ne hi] at e ⊢
        exact ih e
  refine ⟨G.len, fun i u e => ?_, G.inj, F.base, fun a p => ?_, fun e m => ⟨(F.xts e m).1, (F.xts e m).2.weak fun a _ _ x => ⟨fun z => x.1 (hp a z), x.2⟩⟩⟩
  · obtain ⟨e1, e2⟩ := sub i u e
    rw [e2]
    have x := (F.sl i u e1).weak hp
    cases u with
    | val t => exact x
    | par t => exact x
    | exn c fs => exact x
    | own xs =>
      obtain ⟨a, ws, e3, q, f, ox, r⟩ := x
      refine ⟨a, ws, e3, q, f, fun p => ?_, r⟩
      rcases p with p | p
      · exact ox p
      · exact p.2 ⟨i, xs, e, by rw [e2]; exact e3⟩
  · rcases p with p | p
    · exact F.oxd a p
    · obtain ⟨vs', q⟩ := F.ownL p.1
      rw [q]; simp
theorem wipeE_none {i : Nat} : ∀ {vs : List Nat}, i ∈ vs → ∀ u, (wipeE ρ vs)[i]? ≠ some (some u)
  | [], h => by cases h
  | v :: vs, h => by
    intro u e
    unfold wipeE at e
    by_cases hi : v = i
    · subst hi
      rw [List.getElem?_set] at e
      simp only [if_true] at e
      split at e <;> cases e
    · rw [List.getElem?_set_ne hi] at e
      rcases List.mem_cons.mp h with e2 | h
      · exact hi e2.symm
      · exact wipeE_none h u e
theorem wipe_wipe (σ : L2.St) (vs : List Nat) : L2.wipe (L2.wipe σ vs) vs = L2.wipe σ vs := by
  apply List.ext_getElem?
  intro i
  have len : ∀ (l : List Nat) (s : L2.St), (L2.wipe s l).length = s.length := fun l s => L2.wipe_length s l
  have key : ∀ (l : List Nat) (s : L2.St), (L2.wipe s l)[i]? = if i ∈ l ∧ i < s.length then some none else s[i]? := by
    intro l s
    induction l with
    | nil => simp [L2.wipe]
    | cons v l ih =>
      unfold L2.wipe
      by_cases hi : v = i
      · subst hi
        rw [List.getElem?_set]
        simp only [if_true, len, List.mem_cons, true_or, true_and]
        split
        · rfl
        · rename_i h
          rw [List.getElem?_eq_none (by omega)]
      · rw [List.getElem?_set_ne hi, ih]
        have : i ≠ v := fun e => hi e.symm
        simp [this]
  rw [key vs (L2.wipe σ vs), len, key vs σ]
  by_cases h : i ∈ vs ∧ i < σ.length
  · simp only [if_pos h]
  · simp only [if_neg h]
end

section
variable {X : Cx} {M : Nm} {sc : Scope} {cf : Nat → List T → Res T} {k : Nat} {xn : XN} {W : WXb}
/-- no exception -/
def W0 : WXb := fun _ _ _ _ => False
theorem ctx_blk (hcalm : M.calm = true) (C : Ctx X M sc cf k xn) (s : Shared) (H : Hp) (scope : Scope) (Cc : Addr) (cl : List (Str × Addr)) (fp : List Addr) : Ctx (X.blk s H scope (compEnvC scope cl Cc X.env) fp) M.blk (relS scope sc) cf k xn :=
  ⟨C.N, C.nd, by rw [← C.sc]; rfl, C.calm, C.g.blk, C.room, C.hu70, (fun h => by cases h), fun a c fs h => absurd (C.exn a c fs h).1 (by rw [hcalm]; decide)⟩
theorem comp_ok (C : Ctx X M sc cf k xn) {tg : Tg} {elt : IE} {sk : Sk} {ses ifs : List IE} {elt' tg' iter : Expr} {ifs' : List Expr} {scope : Scope} {pos : Pos} (hc : M.calm = true) (hb : blkC M.N sc scope (ownOf M tg) = true)
    (hi : PI X tg' iter (rdI X.K X.mg xn W (srcLv sk ses) (lvlsL ses) fun ρ => (evs cf ses ρ).bd (itemsT sk))) (hset : notSet iter = true) (htk : tgOk tg (srcLv sk ses) = true)
    (htg : chkTg M.blk (relS scope sc) tg tg' = true) (hl : lvl elt ≠ 0)
    (ht : ∀ X', Ctx X' M.blk (relS scope sc) cf k xn → PTs X' ifs' (rdT X'.K X'.mg xn W0 (evAll cf ifs)))
    (he : ∀ X', Ctx X' M.blk (relS scope sc) cf k xn → PE X' elt' (ERd X' xn W0 cf elt)) :
    ∃ (wi : TI) (tt : TT) (te : TE), PI X tg' iter wi ∧ BlkOk X.N X.env.scope scope (ownOf M tg) ∧ (∀ (s : Shared) (H : Hp) (C : Addr) (cl : List (Str × Addr)) (fp : List Addr), PG (X.blk s H scope (compEnvC scope cl C X.env) fp) tg' (gT X.K tg)) ∧
      (∀ (s : Shared) (H : Hp) (C : Addr) (cl : List (Str × Addr)) (fp : List Addr), PTs (X.blk s H scope (compEnvC scope cl C X.env) fp) ifs' tt) ∧ (∀ (s : Shared) (H : Hp) (C : Addr) (cl : List (Str × Addr)) (fp : List Addr), PE (X.blk s H scope (compEnvC scope cl C X.env) fp) elt' te) ∧
      ∀ σ H Q, ERd X xn W cf (.comp tg elt sk ses ifs) σ H Q → tLc wi (gT X.K tg) tt te ((ownOf M tg).map (·.2)) σ H Q := by
  have hown : (ownOf M tg).map (·.2) = tg.slots := by
    unfold ownOf
    rw [List.map_map]
    exact List.map_id _
  refine ⟨_, rdT X.K X.mg xn W0 (evAll cf ifs), ERd X xn W0 cf elt, hi, by rw [C.N, C.sc]; exact blkOk_by hb, fun s H Cc cl fp => pg_T (ctx_blk hc C s H scope Cc cl fp) tg tg' htg, fun s H Cc cl fp => ht _ (ctx_blk hc C s H scope Cc cl fp), fun s H Cc cl fp => he _ (ctx_blk hc C s H scope Cc cl fp), ?_⟩
  intro σ H Q ⟨He, Ox, ρ, xt, F, o⟩
  rw [hown]
  refine ⟨He, Ox, ρ, xt, F, ?_⟩
  simp only [ev, lvl, freshE] at o
  generalize hf : (fun x => (toSet (tg.set x (wipeE ρ tg.slots))).bd fun ρ' => (evAll cf ifs ρ').bd fun k => if k = true then (ev cf elt ρ').bd fun y => Res.ok (some y) else Res.ok none) = f at o
  have o' : OutE X.K X.mg W (Pr Ox ρ σ) He σ (lvl elt) true H Q (((evs cf ses ρ).bd (itemsT sk)).bd fun xs => ((compL f xs).nox).bd fun ys => .ok (.lst ys)) := by
    rw [bd_bd]; exact o
  clear o
  show OutI X.K X.mg W (Pr Ox ρ σ) He σ (srcLv sk ses) H _ (lvlsL ses) ((evs cf ses ρ).bd (itemsT sk))
  cases hr : (evs cf ses ρ).bd (itemsT sk) with
  | stuck => rw [hr] at o'; exact o'
  | exc c fs => rw [hr] at o'; exact o'
  | ok xs =>
    rw [hr] at o'
    simp only [bd_ok] at o'
    intro J H1 srcs s1 src hsrc hz D hD
    cases hcomp : compL f xs with
    | stuck => rw [hcomp] at o'; exact o'.elim
    | exc c fs => rw [hcomp] at o'; exact o'.elim
    | ok ys =>
      rw [hcomp] at o'
      simp only [nox_ok, bd_ok] at o'
      obtain ⟨G, Y, walk, gy⟩ := src
      -- what is protected in the block
      have F1 := F.same s1
      have w1 := F1.vw
      let Z : Addr → Prop := fun a => a = D
      have hz0 : ∀ a, Z a → H1 a = none := fun a e => by rw [show a = D from e]; exact hD
      let PD : Addr → Prop := fun a => Pr Ox ρ σ a ∨ Z a
      -- the invariant
      refine lc_it walk (fun i Hc => Same H1 Hc ∧ ∃ acc zs, Hc D = some (.lst acc) ∧ compL f (xs.take i) = .ok zs ∧ Reps X.K (lv PD He (lvl elt)) Hc zs acc ∧ acc.length ≤ i)
        ⟨same_upd hD, [], [], upd_same, rfl, Reps.nil, Nat.le_refl _⟩ ?_ ?_ ?_
      · -- the sources stand
        rintro i Hc hi' ⟨sc1, acc, zs, hDc, _⟩
        have vw : Vw PD He Hc := ⟨fun a p => by
          rcases p with p | p
          · exact (w1.mono sc1).dom a p
          · rw [show a = D from p, hDc]; simp, (w1.mono sc1).base⟩
        exact (gy PD He Hc vw fun e he' => ((hsrc e he').1.grow hz0).same sc1).1
      · -- a turn
        rintro i v Hc Hi hlt ⟨sc1, acc, zs, hDc, hzs, racc, hacc⟩ hy
        have vw : Vw PD He Hc := ⟨fun a p => by
          rcases p with p | p
          · exact (w1.mono sc1).dom a p
          · rw [show a = D from p, hDc]; simp, (w1.mono sc1).base⟩
        obtain ⟨sI, t, ht', rt⟩ := (gy PD He Hc vw fun e he' => ((hsrc e he').1.grow hz0).same sc1).2 i v Hi hlt hy
        obtain ⟨zs', oo, hz1, hz2, hz3⟩ := compL_turn hcomp hlt
        rw [hzs] at hz1
        cases hz1
        have et : t = xs[i] := by
          rw [List.getElem?_eq_getElem hlt] at ht'
          exact (Option.some.inj ht').symm
        subst et
        rw [← hf] at hz2
        dsimp only at hz2
        -- the slots in the block
        have hDI : Hi D = some (.lst acc) := sI _ _ hDc
        have FB := (F1.forget tg.slots).grow (Z := Z) (sc1.trans sI) hz0 (fun a e => by rw [show a = D from e, hDI]; simp)
        have hPB : ∀ a, Pr (fun a => (Ox a ∨ (Own ρ σ a ∧ ¬ Own (wipeE ρ tg.slots) (L2.wipe σ tg.slots) a)) ∨ Z a) (wipeE ρ tg.slots) (L2.wipe σ tg.slots) a → PD a := by
          rintro a (((p | p) | p) | p)
          · exact .inl (.inl p)
          · exact .inl (.inr p.1)
          · exact .inr p
          · refine .inl (.inr ?_)
            clear hz2
            revert p
            generalize tg.slots = l
            induction l with
            | nil => exact id
            | cons v l ih => exact fun o => ih (own_set (s := none) (v := none) (by intro _ z; cases z) o)
        cases hset' : tg.set xs[i] (wipeE ρ tg.slots) with
        | none => rw [hset'] at hz2; cases hz2
        | some ρ' =>
          rw [hset'] at hz2
          simp only [toSet, bd_ok] at hz2
          have rt' := rt.weak (A' := lv (Pr (fun a => (Ox a ∨ (Own ρ σ a ∧ ¬ Own (wipeE ρ tg.slots) (L2.wipe σ tg.slots) a)) ∨ Z a) (wipeE ρ tg.slots) (L2.wipe σ tg.slots)) He (srcLv sk ses)) fun a _ _ x => ⟨fun z => x.1 (hPB a z), x.2⟩
          refine gT_mono tg (fi_T tg tg.slots htk (fun _ h => h) FB rt' hset') fun σ2 H2 ⟨e2, F2, p2, w2, o2⟩ => ?_
          subst e2
          refine ⟨w2.trans (wipe_wipe σ tg.slots), ?_⟩
          have hPo : ∀ a, PD a → Pr (fun a => (Ox a ∨ (Own ρ σ a ∧ ¬ Own (wipeE ρ tg.slots) (L2.wipe σ tg.slots) a)) ∨ Z a) ρ' σ2 a := by
            rintro a ((p | p) | p)
            · exact .inl (.inl (.inl p))
            · by_cases hw : Own (wipeE ρ tg.slots) (L2.wipe σ tg.slots) a
              · obtain ⟨j, zz, e3, e4⟩ := hw
                have hj : j ∉ tg.slots := fun hj => wipeE_none hj _ e3
                exact .inr ⟨j, zz, by rw [(o2 j hj).1]; exact e3, by rw [(o2 j hj).2]; exact e4⟩
              · exact .inl (.inl (.inr ⟨p, hw⟩))
            · exact .inl (.inr p)
          -- the tests
          refine ⟨_, _, ρ', xt, F2, ?_⟩
          cases hk : evAll cf ifs ρ' with
          | stuck => rw [hk] at hz2; cases hz2
          | exc c fs => rw [hk] at hz2; cases hz2
          | ok kk =>
            rw [hk] at hz2
            simp only [bd_ok] at hz2
            intro H3 s3
            cases kk with
            | false =>
              rw [if_neg Bool.false_ne_true] at hz2 ⊢
              cases hz2
              have sall := s1
              refine ⟨(sc1.trans sI).trans s3, acc, zs, s3 _ _ hDI, ?_, racc.same (sI.trans s3), Nat.le_succ_of_le hacc⟩
              rw [hz3]
              simp [optL]
            | true =>
              rw [if_pos rfl] at hz2 ⊢
              refine ⟨_, _, ρ', xt, F2.same s3, ?_⟩
              cases hy2 : ev cf elt ρ' with
              | stuck => rw [hy2] at hz2; cases hz2
              | exc c fs => rw [hy2] at hz2; cases hz2
              | ok y =>
                rw [hy2] at hz2
                simp only [bd_ok] at hz2
                cases hz2
                intro yv H4 s4 ry _
                have hD4 : H4 D = some (.lst acc) := s4 _ _ (s3 _ _ hDI)
                refine ⟨acc, hD4, by omega, ?_⟩
                have s14 : Same H1 H4 := ((sc1.trans sI).trans s3).trans s4
                rw [repL_pos hl] at ry
                have ry' : Rep X.K (lv PD He (lvl elt)) H4 y yv := ry.weak fun a _ _ x => ⟨fun z => x.1 (hPo a z), x.2⟩
                have acc4 := racc.same ((sI.trans s3).trans s4)
                -- behind the append
                have st : Stay (lv PD He (lvl elt)) H4 (upd H4 D (.lst (acc ++ [yv]))) := fun a u e x => by
                  rw [upd_ne]
                  · exact e
                  · rintro rfl
                    rw [hD4] at e
                    cases e
                    exact (x acc rfl).1 (.inr rfl)
                have rnew : Reps X.K (lv PD He (lvl elt)) (upd H4 D (.lst (acc ++ [yv]))) (zs ++ [y]) (acc ++ [yv]) :=
                  Reps.move _ _ st (fun _ _ _ x => x) (acc4.append (Reps.cons ry' Reps.nil))
                refine ⟨fun b u e => ?_, acc ++ [yv], zs ++ [y], upd_same, ?_, rnew, by rw [List.length_append]; simp; omega⟩
                · rw [upd_ne]
                  · exact s14 b u e
                  · rintro rfl
                    rw [hD] at e; cases e
                · rw [hz3]
                  simp [optL]
      · -- the end
        rintro Hc ⟨sc1, acc, zs, hDc, hzs, racc, hacc⟩
        rw [List.take_length, hcomp] at hzs
        cases hzs
        refine o' (.ref D) Hc (s1.trans sc1) ?_ (fun _ => fresh_new (s1.free hD))
        rw [repL_pos hl]
        refine ⟨D, acc, rfl, ⟨hDc, w1.new hD⟩, racc.weak fun b _ _ x => ⟨⟨fun p => x.1 (.inl p), x.2⟩, fun e => x.1 (.inr e)⟩⟩
end
end BV

namespace BV
open PySem PySem.Spec PyProof.Rows L2

/-! ### comprehensions of two clauses: the plain side -/
theorem compJ_app (f : T → Res (List T)) : ∀ (a b : List T), compJ f (a ++ b) = (compJ f a).bd fun x => (compJ f b).bd fun y => .ok (x ++ y)
  | [], b => by
    simp only [List.nil_append, compJ, bd_ok]
    cases compJ f b <;> rfl
  | t :: a, b => by
    simp only [List.cons_append, compJ, compJ_app f a b, bd_bd]
    cases f t with
    | stuck => rfl
    | exc c fs => rfl
    | ok o =>
      simp only [bd_ok]
      cases compJ f a with
      | stuck => rfl
      | exc c fs => rfl
      | ok x =>
        simp only [bd_ok]
        cases compJ f b with
        | stuck => rfl
        | exc c fs => rfl
        | ok y => simp
theorem compJ_turn {f : T → Res (List T)} {xs ys : List T} (h : compJ f xs = .ok ys) {i : Nat} (hi : i < xs.length) : ∃ zs us, compJ f (xs.take i) = .ok zs ∧ f xs[i] = .ok us ∧ compJ f (xs.take (i + 1)) = .ok (zs ++ us) ∧ zs.length + us.length ≤ ys.length := by
  have e : xs = xs.take i ++ xs[i] :: xs.drop (i + 1) := by
    rw [List.getElem_cons_drop, List.take_append_drop]
  rw [e, compJ_app] at h
  cases h1 : compJ f (xs.take i) with
  | stuck => rw [h1] at h; cases h
  | exc c fs => rw [h1] at h; cases h
  | ok zs =>
    rw [h1] at h
    simp only [bd_ok, compJ] at h
    cases h2 : f xs[i] with
    | stuck => rw [h2] at h; cases h
    | exc c fs => rw [h2] at h; cases h
    | ok us =>
      rw [h2] at h
      simp only [bd_ok] at h
      cases h3 : compJ f (xs.drop (i + 1)) with
      | stuck => rw [h3] at h; cases h
      | exc c fs => rw [h3] at h; cases h
      | ok ws =>
        rw [h3] at h
        simp only [bd_ok] at h
        cases h
        refine ⟨zs, us, rfl, rfl, ?_, by simp only [List.length_append]; omega⟩
        rw [List.take_succ_eq_append_getElem hi, compJ_app, h1]
        simp only [bd_ok, compJ, h2]
        simp
theorem compL_len {f : T → Res (Option T)} {xs ys zs : List T} {i : Nat} (h : compL f xs = .ok ys) (h2 : compL f (xs.take i) = .ok zs) : zs.length ≤ ys.length := by
  rw [← List.take_append_drop i xs, compL_app, h2] at h
  simp only [bd_ok] at h
  cases h3 : compL f (xs.drop i) with
  | stuck => rw [h3] at h; cases h
  | exc c fs => rw [h3] at h; cases h
  | ok ws => rw [h3] at h; simp only [bd_ok] at h; cases h; simp

section
variable {K : PySem.W.Frag} {xn : XN} {He H H' : Hp} {Ox : Addr → Prop} {xt : List (Nat × T × V)} {ρ : Env} {σ : L2.St} {P : Addr → Prop} {n : Nat} {D : Addr} {acc : List V}
theorem SlOk.move {P : Addr → Prop} (st : ∀ n, Stay (lv P He n) H H') {s : Sl} {o : Option (Option V)} (ho : ∀ xs, s ≠ .own xs) (x : SlOk K xn Ox P He H s o) : SlOk K xn Ox P He H' s o := by
  cases s with
  | val t => obtain ⟨v, e, r⟩ := x; exact ⟨v, e, Rep.move t v (st 2) (fun _ _ _ y => y) r⟩
  | par t => obtain ⟨v, e, r⟩ := x; exact ⟨v, e, Rep.move t v (st 1) (fun _ _ _ y => y) r⟩
  | exn c fs => exact x
  | own xs => exact absurd rfl (ho xs)
theorem own_wipe {vs : List Nat} {a : Addr} (h : Own (wipeE ρ vs) (L2.wipe σ vs) a) : Own ρ σ a := by
  induction vs with
  | nil => exact h
  | cons v l ih => exact ih (own_set (s := none) (v := none) (by intro _ z; cases z) h)
theorem stay_but (hP : P D) (hD : H D = some (.lst acc)) (hk : ∀ a o, H a = some o → a ≠ D → H' a = some o) (n : Nat) : Stay (lv P He n) H H' := fun a o e x => by
  by_cases h : a = D
  · subst h
    rw [hD] at e
    cases e
    exact absurd hP (x acc rfl).1
  · exact hk a o e h
theorem FI.but (F : FI K xn He Ox xt ρ σ H) (hO : Ox D) (hD : H D = some (.lst acc)) (hk : ∀ a o, H a = some o → a ≠ D → H' a = some o) (hD' : H' D ≠ none) (hn : He D = none) : FI K xn He Ox xt ρ σ H' := by
  have st : ∀ n, Stay (lv (Pr Ox ρ σ) He n) H H' := fun n => stay_but (.inl hO) hD hk n
  refine ⟨F.len, fun i s e => ?_, F.inj, fun a o e => hk a o (F.base a o e) (by rintro rfl; rw [hn] at e; cases e), fun a p => ?_, fun e m => ⟨(F.xts e m).1, Rep.move _ _ (st e.1) (fun _ _ _ y => y) (F.xts e m).2⟩⟩
  · have x := F.sl i s e
    by_cases ho : ∃ xs, s = .own xs
    · obtain ⟨xs, rfl⟩ := ho
      obtain ⟨a, vs, e1, q, f, ox, r⟩ := x
      refine ⟨a, vs, e1, hk a _ q (by rintro rfl; exact ox hO), f, ox, Reps.move _ _ (st 2) (fun _ _ _ y => y) r⟩
    · exact SlOk.move st (fun xs z => ho ⟨xs, z⟩) x
  · by_cases h : a = D
    · rw [h]; exact hD'
    · cases e : H a with
      | none => exact absurd e (F.oxd a p)
      | some o => rw [hk a o e h]; simp
end

/-! ### the walks -/
section
variable {J : It} {n : Nat} {G : Hp → Prop} {Y : Nat → Hp → V → Hp → Prop}
/-- any two nested loops of a comprehension: a turn of one of them -/
theorem turns_it (w : Walk J n G Y) {H0 : Hp} {Fin : Hp → Prop} {Step : Nat → V → Hp → (Hp → Prop) → Prop} (Pv : Nat → Hp → Prop) (h0 : Pv 0 H0) (hG : ∀ i H, i ≤ n → Pv i H → G H)
    (hs : ∀ i x H H', i < n → Pv i H → Y i H x H' → Step i x H' (Pv (i + 1))) (hd : ∀ H, Pv n H → Fin H) :
    ∃ W : Nat → Nat → Hp → Prop, (∃ m, W 0 m H0) ∧ ∀ i m H, W i m H → (J.stop i H ∧ Fin H) ∨ (J.go i H ∧ ∃ Nx : Hp → Prop, (∀ H', Nx H' → ∃ m', m' < m ∧ W (i + 1) m' H') ∧ ∀ x H', J.yld i H x H' → Step i x H' Nx) := by
  refine ⟨fun i m H => m = n - i ∧ i ≤ n ∧ Pv i H, ⟨n, by simp, Nat.zero_le _, h0⟩, ?_⟩
  rintro i m H ⟨rfl, hi, p⟩
  have q := hG i H hi p
  by_cases hlt : i < n
  · exact .inr ⟨w.goes i H hlt q, Pv (i + 1), fun H' p' => ⟨n - (i + 1), by omega, rfl, hlt, p'⟩, fun x H' y => hs i x H H' hlt p (w.yields i H x H' hlt q y)⟩
  · have e : i = n := by omega
    subst e
    exact .inl ⟨w.stops H q, hd H p⟩
end

section
variable {X : Cx} {M : Nm} {sc : Scope} {cf : Nat → List T → Res T} {k : Nat} {xn : XN} {W : WXb}
/-- a turn of the inner loop: an item is stored, tested, the value appended -/
theorem comp_turn {He : Hp} {Ox : Addr → Prop} {ρ : Env} {σ : L2.St} {xt : List (Nat × T × V)} {H Hi : Hp} {D : Addr} {acc : List V} {zs : List T} {tg : Tg} {elt : IE} {ifs : List IE} {n : Nat} {x : T} {v : V} {o : Option T} {PD : Addr → Prop} {Nx : Hp → Prop}
    (F : FI X.K xn He Ox xt ρ σ H) (s : Same H Hi) (hO : Ox D) (hD : H D = some (.lst acc)) (hp1 : ∀ a, Pr Ox ρ σ a → PD a) (hp2 : ∀ a, PD a → Pr Ox ρ σ a) (htk : tgOk tg n = true) (hl : lvl elt ≠ 0)
    (r : Rep X.K (lv PD He n) Hi x v) (ra : Reps X.K (lv PD He (lvl elt)) Hi zs acc) (hz : acc.length < sizeLine ∨ o = none)
    (hf : ((toSet (tg.set x (wipeE ρ tg.slots))).bd fun ρ' => (evAll cf ifs ρ').bd fun k => if k = true then (ev cf elt ρ').bd fun y => .ok (some y) else .ok none) = .ok o)
    (fin : ∀ H' acc', (∀ a u, Hi a = some u → a ≠ D → H' a = some u) → H' D = some (.lst acc') → Reps X.K (lv PD He (lvl elt)) H' (zs ++ optL o) acc' → Nx H') :
    gT X.K tg v (L2.wipe σ tg.slots) Hi fun σ2 H2 => L2.wipe σ2 tg.slots = L2.wipe σ tg.slots ∧ rdT X.K X.mg xn W0 (evAll cf ifs) σ2 H2 fun b H3 => if b = true then ERd X xn W0 cf elt σ2 H3 fun y H4 => ∃ acc, H4 D = some (.lst acc) ∧ acc.length < sizeLine ∧ Nx (upd H4 D (.lst (acc ++ [y]))) else Nx H3 := by
  have F1 := (F.forget tg.slots).same s
  have hPB : ∀ a, Pr (fun a => Ox a ∨ (Own ρ σ a ∧ ¬ Own (wipeE ρ tg.slots) (L2.wipe σ tg.slots) a)) (wipeE ρ tg.slots) (L2.wipe σ tg.slots) a → PD a := by
    rintro a ((p | p) | p)
    · exact hp1 a (.inl p)
    · exact hp1 a (.inr p.1)
    · exact hp1 a (.inr (own_wipe p))
  cases hset : tg.set x (wipeE ρ tg.slots) with
  | none => rw [hset] at hf; cases hf
  | some ρ' =>
    rw [hset] at hf
    simp only [toSet, bd_ok] at hf
    have rt' := r.weak (A' := lv (Pr (fun a => Ox a ∨ (Own ρ σ a ∧ ¬ Own (wipeE ρ tg.slots) (L2.wipe σ tg.slots) a)) (wipeE ρ tg.slots) (L2.wipe σ tg.slots)) He n) fun a _ _ x => ⟨fun z => x.1 (hPB a z), x.2⟩
    refine gT_mono tg (fi_T tg tg.slots htk (fun _ h => h) F1 rt' hset) fun σ2 H2 ⟨e2, F2, p2, w2, o2⟩ => ?_
    subst e2
    refine ⟨w2.trans (wipe_wipe σ tg.slots), ?_⟩
    have hPo : ∀ a, PD a → Pr (fun a => Ox a ∨ (Own ρ σ a ∧ ¬ Own (wipeE ρ tg.slots) (L2.wipe σ tg.slots) a)) ρ' σ2 a := by
      intro a p
      rcases hp2 a p with p | p
      · exact .inl (.inl p)
      · by_cases hw : Own (wipeE ρ tg.slots) (L2.wipe σ tg.slots) a
        · obtain ⟨j, zz, e3, e4⟩ := hw
          have hj : j ∉ tg.slots := fun hj => wipeE_none hj _ e3
          exact .inr ⟨j, zz, by rw [(o2 j hj).1]; exact e3, by rw [(o2 j hj).2]; exact e4⟩
        · exact .inl (.inr ⟨p, hw⟩)
    have hDi : H2 D = some (.lst acc) := s _ _ hD
    refine ⟨_, _, ρ', xt, F2, ?_⟩
    cases hk : evAll cf ifs ρ' with
    | stuck => rw [hk] at hf; cases hf
    | exc c fs => rw [hk] at hf; cases hf
    | ok kk =>
      rw [hk] at hf
      simp only [bd_ok] at hf
      intro H3 s3
      cases kk with
      | false =>
        rw [if_neg Bool.false_ne_true] at hf ⊢
        cases hf
        exact fin H3 acc (fun a u e _ => s3 a u e) (s3 _ _ hDi) (by simpa [optL] using ra.same s3)
      | true =>
        rw [if_pos rfl] at hf ⊢
        refine ⟨_, _, ρ', xt, F2.same s3, ?_⟩
        cases hy2 : ev cf elt ρ' with
        | stuck => rw [hy2] at hf; cases hf
        | exc c fs => rw [hy2] at hf; cases hf
        | ok y =>
          rw [hy2] at hf
          simp only [bd_ok] at hf
          cases hf
          intro yv H4 s4 ry _
          have hD4 : H4 D = some (.lst acc) := s4 _ _ (s3 _ _ hDi)
          have hz' : acc.length < sizeLine := by
            rcases hz with h | h
            · exact h
            · cases h
          refine ⟨acc, hD4, hz', ?_⟩
          rw [repL_pos hl] at ry
          have ry' : Rep X.K (lv PD He (lvl elt)) H4 y yv := ry.weak fun a _ _ x => ⟨fun z => x.1 (hPo a z), x.2⟩
          have st : Stay (lv PD He (lvl elt)) H4 (upd H4 D (.lst (acc ++ [yv]))) := stay_but (hp1 D (.inl hO)) hD4 (fun a u e h => by rw [upd_ne h]; exact e) _
          refine fin _ (acc ++ [yv]) (fun a u e h => by rw [upd_ne h]; exact s4 _ _ (s3 _ _ e)) upd_same ?_
          have := Reps.move _ _ st (fun _ _ _ x => x) ((ra.same (s3.trans s4)).append (Reps.cons ry' Reps.nil))
          simpa [optL] using this
theorem comp2_ok (C : Ctx X M sc cf k xn) {tg tg2 : Tg} {elt : IE} {sk sk2 : Sk} {ses ses2 ifs ifs2 : List IE} {elt' tg' iter tg2' iter2 : Expr} {ifs' ifs2' : List Expr} {scope : Scope} (hc : M.calm = true) (hb : blkC M.N sc scope (ownOf M tg ++ ownOf M tg2) = true)
    (hi : PI X tg' iter (rdI X.K X.mg xn W (srcLv sk ses) (lvlsL ses) fun ρ => (evs cf ses ρ).bd (itemsT sk))) (htk : tgOk tg (srcLv sk ses) = true) (htk2 : tgOk tg2 (srcLv sk2 ses2) = true) (htg : chkTg M.blk (relS scope sc) tg tg' = true) (htg2 : chkTg M.blk (relS scope sc) tg2 tg2' = true)
    (hl : lvl elt ≠ 0) (hn0 : ∀ n ∈ lvlsL ses2, n ≠ 0)
    (ht : ∀ X', Ctx X' M.blk (relS scope sc) cf k xn → PTs X' ifs' (rdT X'.K X'.mg xn W0 (evAll cf ifs))) (ht2 : ∀ X', Ctx X' M.blk (relS scope sc) cf k xn → PTs X' ifs2' (rdT X'.K X'.mg xn W0 (evAll cf ifs2)))
    (hi2 : ∀ X', Ctx X' M.blk (relS scope sc) cf k xn → PI X' tg2' iter2 (rdI X'.K X'.mg xn W0 (srcLv sk2 ses2) (lvlsL ses2) fun ρ => (evs cf ses2 ρ).bd (itemsT sk2)))
    (he : ∀ X', Ctx X' M.blk (relS scope sc) cf k xn → PE X' elt' (ERd X' xn W0 cf elt)) :
    ∃ (wi wi1 : TI) (tt tt1 : TT) (te : TE), PI X tg' iter wi ∧ BlkOk X.N X.env.scope scope (ownOf M tg ++ ownOf M tg2) ∧ (∀ i ∈ tg2.slots, i ∈ (ownOf M tg ++ ownOf M tg2).map (·.2)) ∧
      (∀ (s : Shared) (H : Hp) (C : Addr) (cl : List (Str × Addr)) (fp : List Addr), PG (X.blk s H scope (compEnvC scope cl C X.env) fp) tg' (gT X.K tg)) ∧
      (∀ (s : Shared) (H : Hp) (C : Addr) (cl : List (Str × Addr)) (fp : List Addr), PTs (X.blk s H scope (compEnvC scope cl C X.env) fp) ifs' tt) ∧
      (∀ (s : Shared) (H : Hp) (C : Addr) (cl : List (Str × Addr)) (fp : List Addr), PI (X.blk s H scope (compEnvC scope cl C X.env) fp) tg2' iter2 wi1) ∧
      (∀ (s : Shared) (H : Hp) (C : Addr) (cl : List (Str × Addr)) (fp : List Addr), PG (X.blk s H scope (compEnvC scope cl C X.env) fp) tg2' (gT X.K tg2)) ∧
      (∀ (s : Shared) (H : Hp) (C : Addr) (cl : List (Str × Addr)) (fp : List Addr), PTs (X.blk s H scope (compEnvC scope cl C X.env) fp) ifs2' tt1) ∧
      (∀ (s : Shared) (H : Hp) (C : Addr) (cl : List (Str × Addr)) (fp : List Addr), PE (X.blk s H scope (compEnvC scope cl C X.env) fp) elt' te) ∧
      ∀ σ H Q, ERd X xn W cf (.comp2 tg sk ses ifs tg2 sk2 ses2 ifs2 elt) σ H Q → tLc2 wi (gT X.K tg) tt wi1 (gT X.K tg2) tt1 te ((ownOf M tg ++ ownOf M tg2).map (·.2)) tg2.slots σ H Q := by
  have hown : (ownOf M tg ++ ownOf M tg2).map (·.2) = tg.slots ++ tg2.slots := by
    unfold ownOf
    rw [List.map_append, List.map_map, List.map_map]
    exact congr (congrArg _ (List.map_id _)) (List.map_id _)
  have cb := fun s H Cc cl fp => ctx_blk hc C s H scope Cc cl fp
  refine ⟨_, rdI X.K X.mg xn W0 (srcLv sk2 ses2) (lvlsL ses2) fun ρ => (evs cf ses2 ρ).bd (itemsT sk2), rdT X.K X.mg xn W0 (evAll cf ifs), rdT X.K X.mg xn W0 (evAll cf ifs2), ERd X xn W0 cf elt, hi, by rw [C.N, C.sc]; exact blkOk_by hb, fun i h => by rw [hown]; exact List.mem_append_right _ h,
    fun s H Cc cl fp => pg_T (cb s H Cc cl fp) tg tg' htg, fun s H Cc cl fp => ht _ (cb s H Cc cl fp), fun s H Cc cl fp => hi2 _ (cb s H Cc cl fp), fun s H Cc cl fp => pg_T (cb s H Cc cl fp) tg2 tg2' htg2, fun s H Cc cl fp => ht2 _ (cb s H Cc cl fp), fun s H Cc cl fp => he _ (cb s H Cc cl fp), ?_⟩
  intro σ H Q ⟨He, Ox, ρ, xt, F, o⟩
  rw [hown]
  refine ⟨He, Ox, ρ, xt, F, ?_⟩
  simp only [ev, lvl, freshE] at o
  generalize hf2 : (fun (ρ1 : Env) y => (toSet (tg2.set y (wipeE ρ1 tg2.slots))).bd fun ρ2 => (evAll cf ifs2 ρ2).bd fun k2 => if k2 = true then (ev cf elt ρ2).bd fun z => Res.ok (some z) else Res.ok none) = f2 at o
  have o1 : OutE X.K X.mg W (Pr Ox ρ σ) He σ (lvl elt) true H Q (((evs cf ses ρ).bd (itemsT sk)).bd fun xs => ((compJ (fun x => (toSet (tg.set x (wipeE ρ (tg.slots ++ tg2.slots)))).bd fun ρ1 => (evAll cf ifs ρ1).bd fun k => if k = true then ((evs cf ses2 ρ1).bd (itemsT sk2)).bd fun ys => compL (f2 ρ1) ys else .ok []) xs).nox).bd fun zs => if zs.length ≤ sizeLine then .ok (.lst zs) else .stuck) := by
    rw [bd_bd]
    have e : (fun x => (toSet (tg.set x (wipeE ρ (tg.slots ++ tg2.slots)))).bd fun ρ1 => (evAll cf ifs ρ1).bd fun k => if k = true then ((evs cf ses2 ρ1).bd (itemsT sk2)).bd fun ys => compL (f2 ρ1) ys else .ok []) =
        (fun x => (toSet (tg.set x (wipeE ρ (tg.slots ++ tg2.slots)))).bd fun ρ1 => (evAll cf ifs ρ1).bd fun k => if k = true then (evs cf ses2 ρ1).bd fun us => (itemsT sk2 us).bd fun ys => compL (f2 ρ1) ys else .ok []) := by
      funext x
      congr 1
      funext ρ1
      congr 1
      funext kk
      split
      · rw [bd_bd]
      · rfl
    rw [e, ← hf2]
    exact o
  clear o
  generalize hf : (fun x => (toSet (tg.set x (wipeE ρ (tg.slots ++ tg2.slots)))).bd fun ρ1 => (evAll cf ifs ρ1).bd fun k => if k = true then ((evs cf ses2 ρ1).bd (itemsT sk2)).bd fun ys => compL (f2 ρ1) ys else Res.ok []) = f at o1
  show OutI X.K X.mg W (Pr Ox ρ σ) He σ (srcLv sk ses) H _ (lvlsL ses) ((evs cf ses ρ).bd (itemsT sk))
  cases hr : (evs cf ses ρ).bd (itemsT sk) with
  | stuck => rw [hr] at o1; exact o1
  | exc c fs => rw [hr] at o1; exact o1
  | ok xs =>
    rw [hr] at o1
    simp only [bd_ok] at o1
    intro J H1 srcs s1 src hsrc hz D hD
    cases hcomp : compJ f xs with
    | stuck => rw [hcomp] at o1; exact o1.elim
    | exc c fs => rw [hcomp] at o1; exact o1.elim
    | ok ys =>
      rw [hcomp] at o1
      simp only [nox_ok, bd_ok] at o1
      by_cases hys : ys.length ≤ sizeLine
      case neg => rw [if_neg hys] at o1; exact o1.elim
      rw [if_pos hys] at o1
      obtain ⟨G, Y, walk, gy⟩ := src
      have F1 := F.same s1
      have w1 := F1.vw
      have hDe : He D = none := F1.base.free hD
      let Z : Addr → Prop := fun a => a = D
      have hz0 : ∀ a, Z a → H1 a = none := fun a e => by rw [show a = D from e]; exact hD
      let PD : Addr → Prop := fun a => Pr Ox ρ σ a ∨ Z a
      refine turns_it walk (fun i Hc => Same H1 Hc ∧ ∃ acc zs, Hc D = some (.lst acc) ∧ compJ f (xs.take i) = .ok zs ∧ Reps X.K (lv PD He (lvl elt)) Hc zs acc)
        ⟨same_upd hD, [], [], upd_same, rfl, Reps.nil⟩ ?_ ?_ ?_
      · rintro i Hc hi' ⟨sc1, acc, zs, hDc, _⟩
        have vw : Vw PD He Hc := ⟨fun a p => by
          rcases p with p | p
          · exact (w1.mono sc1).dom a p
          · rw [show a = D from p, hDc]; simp, (w1.mono sc1).base⟩
        exact (gy PD He Hc vw fun e he' => ((hsrc e he').1.grow hz0).same sc1).1
      · rintro i v Hc Hi hlt ⟨sc1, acc, zs, hDc, hzs, racc⟩ hy
        have vw : Vw PD He Hc := ⟨fun a p => by
          rcases p with p | p
          · exact (w1.mono sc1).dom a p
          · rw [show a = D from p, hDc]; simp, (w1.mono sc1).base⟩
        obtain ⟨sI, t, ht', rt⟩ := (gy PD He Hc vw fun e he' => ((hsrc e he').1.grow hz0).same sc1).2 i v Hi hlt hy
        obtain ⟨zs', us, hz1, hz2, hz3, hzl⟩ := compJ_turn hcomp hlt
        rw [hzs] at hz1
        cases hz1
        have et : t = xs[i] := by
          rw [List.getElem?_eq_getElem hlt] at ht'
          exact (Option.some.inj ht').symm
        subst et
        rw [← hf] at hz2
        dsimp only at hz2
        have hDI : Hi D = some (.lst acc) := sI _ _ hDc
        have FB := (F1.forget (tg.slots ++ tg2.slots)).grow (Z := Z) (sc1.trans sI) hz0 (fun a e => by rw [show a = D from e, hDI]; simp)
        generalize hOx' : (fun a => (Ox a ∨ (Own ρ σ a ∧ ¬ Own (wipeE ρ (tg.slots ++ tg2.slots)) (L2.wipe σ (tg.slots ++ tg2.slots)) a)) ∨ Z a) = Ox' at FB
        have hZx : Ox' D := by rw [← hOx']; exact .inr rfl
        have hPB : ∀ a, Pr Ox' (wipeE ρ (tg.slots ++ tg2.slots)) (L2.wipe σ (tg.slots ++ tg2.slots)) a → PD a := by
          rw [← hOx']
          rintro a (((p | p) | p) | p)
          · exact .inl (.inl p)
          · exact .inl (.inr p.1)
          · exact .inr p
          · exact .inl (.inr (own_wipe p))
        cases hset' : tg.set xs[i] (wipeE ρ (tg.slots ++ tg2.slots)) with
        | none => rw [hset'] at hz2; cases hz2
        | some ρ1 =>
          rw [hset'] at hz2
          simp only [toSet, bd_ok] at hz2
          have rt' := rt.weak (A' := lv (Pr Ox' (wipeE ρ (tg.slots ++ tg2.slots)) (L2.wipe σ (tg.slots ++ tg2.slots))) He (srcLv sk ses)) fun a _ _ x => ⟨fun z => x.1 (hPB a z), x.2⟩
          refine gT_mono tg (fi_T tg (tg.slots ++ tg2.slots) htk (fun _ h => List.mem_append_left _ h) FB rt' hset') fun σ2 H2 ⟨e2, F2, p2, w2, o2⟩ => ?_
          subst e2
          refine ⟨w2.trans (wipe_wipe σ _), ?_⟩
          have hp1 : ∀ a, Pr Ox' ρ1 σ2 a → PD a := fun a p => hPB a (p2 a p)
          have hp2 : ∀ a, PD a → Pr Ox' ρ1 σ2 a := by
            rintro a ((p | p) | p)
            · exact .inl (by rw [← hOx']; exact .inl (.inl p))
            · by_cases hw : Own (wipeE ρ (tg.slots ++ tg2.slots)) (L2.wipe σ (tg.slots ++ tg2.slots)) a
              · obtain ⟨j, zz, e3, e4⟩ := hw
                have hj : j ∉ tg.slots ++ tg2.slots := fun hj => wipeE_none hj _ e3
                exact .inr ⟨j, zz, by rw [(o2 j hj).1]; exact e3, by rw [(o2 j hj).2]; exact e4⟩
              · exact .inl (by rw [← hOx']; exact .inl (.inr ⟨p, hw⟩))
            · exact .inl (by rw [← hOx']; exact .inr p)
          refine ⟨_, _, ρ1, xt, F2, ?_⟩
          cases hk : evAll cf ifs ρ1 with
          | stuck => rw [hk] at hz2; cases hz2
          | exc c fs => rw [hk] at hz2; cases hz2
          | ok kk =>
            rw [hk] at hz2
            simp only [bd_ok] at hz2
            intro H3 s3
            cases kk with
            | false =>
              rw [if_neg Bool.false_ne_true] at hz2 ⊢
              cases hz2
              exact ⟨(sc1.trans sI).trans s3, acc, zs, s3 _ _ hDI, by simpa using hz3, racc.same (sI.trans s3)⟩
            | true =>
              rw [if_pos rfl] at hz2 ⊢
              refine ⟨_, _, ρ1, xt, F2.same s3, ?_⟩
              show OutI X.K X.mg W0 (Pr Ox' ρ1 σ2) He σ2 (srcLv sk2 ses2) H3 _ (lvlsL ses2) ((evs cf ses2 ρ1).bd (itemsT sk2))
              cases hr2 : (evs cf ses2 ρ1).bd (itemsT sk2) with
              | stuck => rw [hr2] at hz2; cases hz2
              | exc c fs => rw [hr2] at hz2; cases hz2
              | ok ws =>
                rw [hr2] at hz2
                simp only [bd_ok] at hz2
                intro J1 H4 srcs1 s4 src1 hsrc1 hzz
                obtain ⟨G1, Y1, walk1, gy1⟩ := src1
                have F4 := (F2.same s3).same s4
                have hD4 : H4 D = some (.lst acc) := s4 _ _ (s3 _ _ hDI)
                have s14 : Same H1 H4 := ((sc1.trans sI).trans s3).trans s4
                have look : ∀ {Hj : Hp} {acc1 : List V}, (∀ a u, H4 a = some u → a ≠ D → Hj a = some u) → Hj D = some (.lst acc1) → FI X.K xn He Ox' xt ρ1 σ2 Hj ∧ ∀ e ∈ srcs1, RepL X.K (Pr Ox' ρ1 σ2) He Hj e.1 e.2.1 e.2.2 := by
                  intro Hj acc1 kb hDj
                  refine ⟨F4.but hZx hD4 kb (by rw [hDj]; simp) hDe, fun e he' => ?_⟩
                  obtain ⟨r0, hm⟩ := hsrc1 e he'
                  have hn := hn0 _ hm
                  rw [repL_pos hn] at r0 ⊢
                  exact Rep.move _ _ (stay_but (.inl hZx) hD4 kb _) (fun _ _ _ y => y) r0
                refine turns_it walk1 (fun j Hj => (∀ a u, H4 a = some u → a ≠ D → Hj a = some u) ∧ ∃ acc1 zs1, Hj D = some (.lst acc1) ∧ compL (f2 ρ1) (ws.take j) = .ok zs1 ∧ Reps X.K (lv PD He (lvl elt)) Hj (zs ++ zs1) acc1)
                  ⟨fun a u e _ => e, acc, [], hD4, rfl, by simpa using racc.same ((sI.trans s3).trans s4)⟩ ?_ ?_ ?_
                · rintro j Hj hj' ⟨kb, acc1, zs1, hDj, _⟩
                  obtain ⟨Fj, rj⟩ := look kb hDj
                  exact (gy1 _ He Hj Fj.vw rj).1
                · rintro j v1 Hj Hji hltj ⟨kb, acc1, zs1, hDj, hzs1, racc1⟩ hyj
                  obtain ⟨Fj, rj⟩ := look kb hDj
                  obtain ⟨sJ, t1, ht1, rt1⟩ := (gy1 _ He Hj Fj.vw rj).2 j v1 Hji hltj hyj
                  obtain ⟨zs1', oo, k1, k2, k3⟩ := compL_turn hz2 hltj
                  rw [hzs1] at k1
                  cases k1
                  have et1 : t1 = ws[j] := by
                    rw [List.getElem?_eq_getElem hltj] at ht1
                    exact (Option.some.inj ht1).symm
                  subst et1
                  rw [← hf2] at k2
                  refine comp_turn Fj sJ hZx hDj hp1 hp2 htk2 hl (rt1.weak fun a _ _ x => ⟨fun z => x.1 (hp2 a z), x.2⟩) (racc1.same sJ) ?_ k2 fun H' acc' kb' hD' ra' => ?_
                  · have hl1 := racc1.length
                    have hl2 := compL_len hz2 k3
                    cases oo with
                    | none => exact .inr rfl
                    | some y =>
                      refine .inl ?_
                      simp only [optL, List.length_append, List.length_cons, List.length_nil] at hl1 hl2
                      omega
                  · exact ⟨fun a u e h => kb' a u (sJ _ _ (kb a u e h)) h, acc', zs1 ++ optL oo, hD', k3, by rw [← List.append_assoc]; exact ra'⟩
                · rintro Hj ⟨kb, acc1, zs1, hDj, hzs1, racc1⟩
                  rw [List.take_length, hz2] at hzs1
                  cases hzs1
                  refine ⟨fun a u e => ?_, acc1, zs ++ us, hDj, hz3, racc1⟩
                  exact kb a u (s14 a u e) (by rintro rfl; rw [hD] at e; cases e)
      · rintro Hc ⟨sc1, acc, zs, hDc, hzs, racc⟩
        rw [List.take_length, hcomp] at hzs
        cases hzs
        refine o1 (.ref D) Hc (s1.trans sc1) ?_ (fun _ => fresh_new (s1.free hD))
        rw [repL_pos hl]
        refine ⟨D, acc, rfl, ⟨hDc, w1.new hD⟩, racc.weak fun b _ _ x => ⟨⟨fun p => x.1 (.inl p), x.2⟩, fun e => x.1 (.inr e)⟩⟩
end
end BV

/-! Every expression that is checked keeps to its value. -/
namespace BV
open PySem PySem.Spec PyProof.Rows L2

def isBool : Expr → Bool
  | .BoolOp .. => true
  | _ => false
theorem bool_plain {x : Expr} (h : plainT x = true) (z : isBool x = true) : False := by
  cases x with
  | BoolOp op a p => cases h
  | _ => cases z
theorem rdA_nil {X : Cx} {xn : XN} {W : WXb} {cf : Nat → List T → Res T} : ∀ σ H Q, ARd X xn W cf [] σ H Q → tNil σ H Q := by
  intro σ H Q ⟨He, Ox, ρ, xt, F, o⟩
  exact o [] H (Same.refl H) rfl
theorem pa_consT {X : Cx} {xn : XN} {W : WXb} {cf : Nat → List T → Res T} {e : IE} {es : List IE} {x : Expr} {xs : List Expr} (he : PE X x (ERd X xn W cf e)) (ha : PA X xs (ARd X xn W cf es)) (hs : notStar x = true) : PA X (x :: xs) (ARd X xn W cf (e :: es)) := by
  refine PA.weak (pa_cons he ha (star_cons hs)) ?_
  intro σ H Q ⟨He, Ox, ρ, xt, F, o⟩
  simp only [evs] at o
  refine ⟨He, Ox, ρ, xt, F, ?_⟩
  cases h1 : ev cf e ρ with
  | stuck => rw [h1] at o; exact o
  | exc c fs => rw [h1] at o; exact o
  | ok t =>
    rw [h1] at o
    simp only [bd_ok] at o
    intro v H1 s1 r1 _
    refine ⟨He, Ox, ρ, xt, F.same s1, ?_⟩
    cases h2 : evs cf es ρ with
    | stuck => rw [h2] at o; exact o
    | exc c fs => rw [h2] at o; exact ⟨o.1, fun cv H' s q => o.2 cv H' (s1.trans s) q⟩
    | ok ts =>
      rw [h2] at o
      simp only [bd_ok] at o
      intro vs H2 s2 r2
      exact o (v :: vs) H2 (s1.trans s2) ⟨v, vs, rfl, r1.same s2, r2⟩
theorem chk_ok {X : Cx} {xn : XN} {W : WXb} {cf : Nat → List T → Res T} {a : IE} {x : Expr} (ha : PE X x (ERd X xn W cf a)) : PE X x (ERd X xn W cf (.chk a)) := by
  refine PE.weak ha ?_
  intro σ H Q ⟨He, Ox, ρ, xt, F, o⟩
  simp only [ev, lvl, freshE] at o
  refine ⟨He, Ox, ρ, xt, F, ?_⟩
  cases h1 : ev cf a ρ with
  | stuck => rw [h1] at o; exact o
  | exc c fs => rw [h1] at o; exact o
  | ok t =>
    rw [h1] at o
    simp only [bd_ok] at o
    by_cases hf : t.flat = true
    · rw [if_pos hf] at o
      intro v H1 s1 r1 _
      exact o v H1 s1 (r1.flat hf) (fun _ => scal_fresh (by intro xs z; rw [z] at hf; simp [T.flat] at hf))
    · rw [if_neg hf] at o
      by_cases hg : (freshE a && flatI t) = true
      · rw [if_pos hg] at o
        rw [Bool.and_eq_true] at hg
        intro v H1 s1 r1 fr
        have fv := fr hg.1
        refine o v H1 s1 ?_ fr
        cases t with
        | lst xs =>
          obtain ⟨b, vs, rfl, q, k⟩ := r1.lst
          rw [repL_pos (by decide)]
          exact ⟨b, vs, rfl, ⟨q, F.vw.new (fv xs b rfl rfl)⟩, Reps.flat (fun _ _ q _ => q) xs vs (by simpa [flatI] using hg.2) k⟩
        | _ => simp [flatI] at hg
      · rw [if_neg hg] at o
        exact o.elim
theorem pts_ok {X : Cx} {xn : XN} {W : WXb} {cf : Nat → List T → Res T} {c : IE} {x : Expr} (h : PT X x (TRd X xn W cf c)) : PTs X [x] (rdT X.K X.mg xn W (evAll cf [c])) := by
  refine pts_one (PT.weak h ?_)
  intro σ H Q ⟨He, Ox, ρ, xt, F, o⟩
  refine ⟨He, Ox, ρ, xt, F, ?_⟩
  have e : evAll cf [c] ρ = (ev cf c ρ).bd truthR := by
    simp only [evAll]
    cases ev cf c ρ with
    | stuck => rfl
    | exc c fs => rfl
    | ok t =>
      simp only [bd_ok]
      cases truthR t with
      | stuck => rfl
      | exc c fs => rfl
      | ok b => cases b <;> rfl
  show OutT X.mg W σ H Q ((ev cf c ρ).bd truthR)
  rw [← e]
  exact o
theorem pts_none {X : Cx} {xn : XN} {W : WXb} {cf : Nat → List T → Res T} : PTs X [] (rdT X.K X.mg xn W (evAll cf [])) := by
  refine ⟨fun pins s σ H Q I h => pts_nil.run pins s σ H Q I ?_⟩
  obtain ⟨He, Ox, ρ, xt, F, o⟩ := h
  exact o H (Same.refl H)


def SE (e : IE) : Prop := ∀ {X : Cx} {M : Nm} {sc : Scope} {cf : Nat → List T → Res T} {k : Nat} {xn : XN} {W : WXb} (C : Ctx X M sc cf k xn) (tk : Takes X W) {x : Expr}, chkE M sc e x = true → PE X x (ERd X xn W cf e)
def STt (e : IE) : Prop := ∀ {X : Cx} {M : Nm} {sc : Scope} {cf : Nat → List T → Res T} {k : Nat} {xn : XN} {W : WXb} (C : Ctx X M sc cf k xn) (tk : Takes X W) {x : Expr}, chkE M sc e x = true → tstOk e x = true → PT X x (TRd X xn W cf e) ∧ (isBool x = true → PW X x (TRd X xn W cf e))
theorem sa_of : ∀ (es : List IE) (ih : ∀ e ∈ es, SE e) {X : Cx} {M : Nm} {sc : Scope} {cf : Nat → List T → Res T} {k : Nat} {xn : XN} {W : WXb} (C : Ctx X M sc cf k xn) (tk : Takes X W) {xs : List Expr}, chkEs M sc es xs = true → PA X xs (ARd X xn W cf es)
  | [], ih, X, M, sc, cf, k, xn, W, C, tk, [], h => PA.weak pa_nil rdA_nil
  | [], ih, X, M, sc, cf, k, xn, W, C, tk, _ :: _, h => by simp [chkEs] at h
  | _ :: _, ih, X, M, sc, cf, k, xn, W, C, tk, [], h => by simp [chkEs] at h
  | e :: es, ih, X, M, sc, cf, k, xn, W, C, tk, x :: xs, h => by
    simp only [chkEs, Bool.and_eq_true] at h
    exact pa_consT (ih e (by simp) C tk h.1.2) (sa_of es (fun e he => ih e (by simp [he])) C tk h.2) h.1.1
theorem star_no {M : Nm} {sc : Scope} {v : Expr} {p : Pos} : ∀ (e : IE), chkE M sc e (.Starred v p) = true → False
  | .chk a => by simp only [chkE]; exact star_no a
  | .bi b es => by cases b <;> simp [chkE]
  | .int _ => by simp [chkE]
  | .bl _ => by simp [chkE]
  | .non => by simp [chkE]
  | .str _ => by simp [chkE]
  | .var _ _ => by simp [chkE]
  | .gl _ _ => by simp [chkE]
  | .bin _ _ _ => by simp [chkE]
  | .neg _ => by simp [chkE]
  | .cmp _ _ _ => by simp [chkE]
  | .cmp2 _ _ _ _ _ => by simp [chkE]
  | .and _ _ => by simp [chkE]
  | .or _ _ => by simp [chkE]
  | .not _ => by simp [chkE]
  | .ite _ _ _ => by simp [chkE]
  | .tup _ => by simp [chkE]
  | .lst _ => by simp [chkE]
  | .idx _ _ => by simp [chkE]
  | .slice _ _ _ => by simp [chkE]
  | .turn _ _ => by simp [chkE]
  | .comp2 _ _ _ _ _ _ _ _ _ => by simp [chkE]
  | .call _ _ => by simp [chkE]
  | .meth m _ es => by cases m <;> (match es with | [] => simp [chkE] | [_] => simp [chkE] | _ :: _ :: _ => simp [chkE])
  | .comp _ _ _ _ _ => by simp [chkE]
  | .isE _ _ _ => by simp [chkE]
theorem star_yes {M : Nm} {sc : Scope} {e : IE} {x : Expr} (h : chkE M sc e x = true) : notStar x = true := by
  cases x with
  | Starred v p => exact (star_no e h).elim
  | _ => rfl
theorem so_of (es : List IE) {X : Cx} {M : Nm} {sc : Scope} {cf : Nat → List T → Res T} {k : Nat} {xn : XN} {W : WXb} (C : Ctx X M sc cf k xn) (tk : Takes X W) {l : Option Expr} (h : (match es, l with | [], none => true | [e], some y => chkE M sc e y | _, _ => false) = true) (ih : ∀ e ∈ es, SE e) : PO X l (ORd X xn W cf es) := by
  match es, l, ih, h with
  | [], none, ih, h => exact po_nil
  | [e], some y, ih, h => exact po_one (ih e (by simp) C tk h)
  | [], some _, ih, h => simp at h
  | [_], none, ih, h => simp at h
  | _ :: _ :: _, none, ih, h => simp at h
  | _ :: _ :: _, some _, ih, h => simp at h
theorem se_step (e : IE) (ih : ∀ e', sizeOf e' < sizeOf e → SE e' ∧ STt e') : SE e := by
  intro X M sc cf k xn W C tk x h
  unfold chkE at h
  split at h
  · have e := beq_iff_eq.mp h; subst e
    exact PE.weak pe_int (const_imp (t := .int _) (fun _ => by simp [ev]) (by simp [lvl]) (by intro _ z; cases z) fun _ _ => rfl)
  · have e := beq_iff_eq.mp h; subst e
    exact PE.weak pe_bl (const_imp (t := .bl _) (fun _ => by simp [ev]) (by simp [lvl]) (by intro _ z; cases z) fun _ _ => rfl)
  · exact PE.weak pe_non (const_imp (t := .non) (fun _ => by simp [ev]) (by simp [lvl]) (by intro _ z; cases z) fun _ _ => rfl)
  · have e := beq_iff_eq.mp h; subst e
    exact PE.weak pe_str (const_imp (t := .str _) (fun _ => by simp [ev]) (by simp [lvl]) (by intro _ z; cases z) fun _ _ => rfl)
  · simp only [Bool.and_eq_true, beq_iff_eq] at h
    exact var_ok C _ _ h.1.1 h.1.2 h.2
  · simp only [Bool.and_eq_true, beq_iff_eq] at h
    obtain ⟨⟨⟨rfl, h1⟩, h2⟩, h3⟩ := h
    exact gl_ok C _ _ h1 h2 h3
  · simp only [Bool.and_eq_true, decide_eq_true_eq] at h
    obtain ⟨⟨rfl, h1⟩, h2⟩ := h
    exact bin_ok ((ih _ (by simp; try omega)).1 C tk h1) ((ih _ (by simp; try omega)).1 C tk h2)
  · exact neg_ok ((ih _ (by simp; try omega)).1 C tk h)
  · simp only [Bool.and_eq_true, decide_eq_true_eq, Bool.not_eq_true'] at h
    obtain ⟨⟨⟨rfl, h1⟩, h2⟩, h3⟩ := h
    exact cmp_ok C ((ih _ (by simp; try omega)).1 C tk h1) ((ih _ (by simp; try omega)).1 C tk h2) h3
  · simp only [Bool.and_eq_true, decide_eq_true_eq, Bool.not_eq_true'] at h
    obtain ⟨⟨⟨⟨⟨rfl, rfl⟩, h1⟩, h2⟩, h3⟩, h4⟩ := h
    exact cmp2_ok C ((ih _ (by simp; try omega)).1 C tk h1) ((ih _ (by simp; try omega)).1 C tk h2) ((ih _ (by simp; try omega)).1 C tk h3) h4
  · rename_i a b x y r p
    simp only [Bool.and_eq_true, bne_iff_ne, ne_eq] at h
    obtain ⟨⟨⟨l1, l2⟩, h1⟩, h2⟩ := h
    refine and_ok l1 l2 ((ih a (by simp; try omega)).1 C tk h1) ?_
    match r, h2 with
    | [], h2 => exact pe_one ((ih b (by simp; try omega)).1 C tk h2)
    | z :: r, h2 => exact (ih b (by first | omega | (simp; try omega))).1 C tk h2
  · rename_i a b x y r p
    simp only [Bool.and_eq_true, bne_iff_ne, ne_eq] at h
    obtain ⟨⟨⟨l1, l2⟩, h1⟩, h2⟩ := h
    refine or_ok l1 l2 ((ih a (by simp; try omega)).1 C tk h1) ?_
    match r, h2 with
    | [], h2 => exact pe_one ((ih b (by simp; try omega)).1 C tk h2)
    | z :: r, h2 => exact (ih b (by first | omega | (simp; try omega))).1 C tk h2
  · exact not_ok ((ih _ (by simp; try omega)).1 C tk h)
  · simp only [Bool.and_eq_true, bne_iff_ne, ne_eq] at h
    obtain ⟨⟨⟨⟨⟨l1, l2⟩, ht⟩, h1⟩, h2⟩, h3⟩ := h
    exact ite_ok l1 l2 ((ih _ (by simp; try omega)).2 C tk h1 ht).1 ((ih _ (by simp; try omega)).1 C tk h2) ((ih _ (by simp; try omega)).1 C tk h3)
  · simp only [Bool.and_eq_true, bne_iff_ne, ne_eq, decide_eq_true_eq] at h
    exact tup_ok h.1.1 h.1.2 (sa_of _ (fun e he => (ih e (by have := List.sizeOf_lt_of_mem he; simp; omega)).1) C tk h.2)
  · simp only [Bool.and_eq_true, bne_iff_ne, ne_eq, decide_eq_true_eq] at h
    exact lst_ok h.1.1 h.1.2 (sa_of _ (fun e he => (ih e (by have := List.sizeOf_lt_of_mem he; simp; omega)).1) C tk h.2)
  · simp only [Bool.and_eq_true] at h
    exact idx_ok ((ih _ (by simp; try omega)).1 C tk h.1.2) ((ih _ (by simp; try omega)).1 C tk h.2) h.1.1
  · simp only [Bool.and_eq_true] at h
    exact slice_ok ((ih _ (by simp; try omega)).1 C tk h.1.1) (so_of _ C tk h.1.2 (fun e he => (ih e (by have := List.sizeOf_lt_of_mem he; simp; omega)).1)) (so_of _ C tk h.2 (fun e he => (ih e (by have := List.sizeOf_lt_of_mem he; simp; omega)).1))
  · simp only [Bool.and_eq_true] at h
    exact turn_ok h.1 ((ih _ (by simp; try omega)).1 C tk h.2)
  · rename_i a e x f ap y cp
    simp only [Bool.and_eq_true, beq_iff_eq] at h
    obtain ⟨⟨⟨⟨⟨rfl, h1⟩, h2⟩, h3⟩, h4⟩, h5⟩ := h
    exact index_ok C (beq_iff_eq.mpr h1) h2 h3 ((ih a (by simp; try omega)).1 C tk h4) (sa_of [e] (fun e' he => (ih e' (by cases List.mem_singleton.mp he; simp; try omega)).1) C tk (by simp only [chkEs, Bool.and_eq_true]; exact ⟨⟨h3, h5⟩, trivial⟩))
  · rename_i a e x f ap y cp
    simp only [Bool.and_eq_true, beq_iff_eq] at h
    obtain ⟨⟨⟨⟨⟨rfl, h1⟩, h2⟩, h3⟩, h4⟩, h5⟩ := h
    exact indexT_ok C (beq_iff_eq.mpr h1) h2 h3 ((ih a (by simp; try omega)).1 C tk h4) (sa_of [e] (fun e' he => (ih e' (by cases List.mem_singleton.mp he; simp; try omega)).1) C tk (by simp only [chkEs, Bool.and_eq_true]; exact ⟨⟨h3, h5⟩, trivial⟩))
  · simp only [Bool.and_eq_true, beq_iff_eq] at h
    obtain ⟨⟨⟨⟨h1, h2⟩, h3⟩, h4⟩, h5⟩ := h
    exact call_ok C tk h1 h2 h3 h4 h5 (sa_of _ (fun e he => (ih e (by have := List.sizeOf_lt_of_mem he; simp; omega)).1) C tk h5)
  · rename_i ts es f p x ty p2 pos
    simp only [Bool.and_eq_true, beq_iff_eq] at h
    obtain ⟨⟨⟨rfl, h1⟩, h2⟩, h3⟩ := h
    split at h3
    · rename_i t e
      simp only [Bool.and_eq_true, beq_iff_eq] at h3
      obtain ⟨⟨h3, rfl⟩, h4⟩ := h3
      exact isi_ok C h1 h2 (by simpa using h4) (star_yes h3) ((ih e (by simp; try omega)).1 C tk h3)
    · cases h3
  · simp only [Bool.and_eq_true, beq_iff_eq, List.all_eq_true, List.contains_iff_mem] at h
    obtain ⟨⟨⟨⟨⟨⟨⟨⟨rfl, h1⟩, h2⟩, h3⟩, h4⟩, rfl⟩, h5⟩, h6⟩, h7⟩ := h
    exact isE_ok C h1 h2 h3 h4 h5 h6 h7
  · simp only [Bool.and_eq_true, beq_iff_eq] at h
    obtain ⟨⟨⟨⟨⟨h0, rfl⟩, h1⟩, rfl⟩, h2⟩, h3⟩ := h
    rename_i es p p2 x pos pos2
    refine listRng_ok C h0 h1 h2 h3 fun e he => ?_
    have hlt : sizeOf e < sizeOf es := by rw [he]; simp; omega
    rw [he] at h3
    simp only [chkEs, Bool.and_eq_true] at h3
    exact (ih e (by first | omega | (simp; try omega))).1 C tk h3.1.2
  · simp only [Bool.and_eq_true, beq_iff_eq] at h
    obtain ⟨⟨⟨⟨rfl, h1⟩, h2⟩, h3⟩, h4⟩ := h
    exact fact_ok C h2 h3 h1 h4 (sa_of _ (fun e he => (ih e (by have := List.sizeOf_lt_of_mem he; simp; omega)).1) C tk h4)
  · simp only [Bool.and_eq_true, bne_iff_ne, ne_eq, decide_eq_true_eq, Bool.or_eq_true, Bool.not_eq_true', beq_iff_eq] at h
    obtain ⟨⟨⟨⟨⟨h1, h2⟩, h3⟩, h4⟩, h5⟩, h6⟩ := h
    exact bi_gen C h1 h2 h3 h4 h5 h6 (sa_of _ (fun e he => (ih e (by have := List.sizeOf_lt_of_mem he; simp; omega)).1) C tk h6)
  · rename_i tg elt sk ses ifs elt' tg' iter ifs' as scope pos
    simp only [Bool.and_eq_true, bne_iff_ne, ne_eq, decide_eq_true_eq] at h
    obtain ⟨⟨⟨⟨⟨⟨⟨⟨⟨⟨⟨rfl, hc⟩, hb⟩, hi⟩, hset⟩, htk⟩, htg⟩, hifs⟩, hc2⟩, hc3⟩, hl⟩, he⟩ := h
    split at hi
    · rename_i xs hxs
      have hI := si (W := W) C hxs hi (sa_of ses (fun e he => (ih e (by have := List.sizeOf_lt_of_mem he; simp; omega)).1) C tk hi) fun e h1 h2 => by
        have hlt : sizeOf e < sizeOf ses := by rw [h1]; simp; omega
        rw [h1, h2] at hi
        simp only [chkEs, Bool.and_eq_true] at hi
        exact (ih e (by first | omega | (simp; try omega))).1 C tk hi.1.2
      have hT : ∀ X', Ctx X' M.blk (relS scope sc) cf k xn → PTs X' ifs' (rdT X'.K X'.mg xn W0 (evAll cf ifs)) := fun X' C' => by
        match hif : ifs, ifs', hifs, hc2, hc3 with
        | [], [], _, _, _ => exact pts_none
        | [c], [c'], _, hc2, hc3 =>
          simp only [chkEs, Bool.and_eq_true] at hc2
          simp only [tstOks, Bool.and_eq_true] at hc3
          exact pts_ok ((ih c (by simp; try omega)).2 C' takes0 hc2.1.2 hc3.1).1
        | [], _ :: _, _, z, _ => simp [chkEs] at z
        | _ :: _, [], _, z, _ => simp [chkEs] at z
        | [_], _ :: _ :: _, _, z, _ => simp [chkEs] at z
        | _ :: _ :: _, _, z, _, _ => simp at z
      have hE : ∀ X', Ctx X' M.blk (relS scope sc) cf k xn → PE X' elt' (ERd X' xn W0 cf elt) := fun X' C' => (ih elt (by simp; try omega)).1 C' takes0 he
      obtain ⟨wi, tt, te, g1, g2, g3, g4, g5, g6⟩ := comp_ok (pos := pos) C hc hb hI hset htk htg hl hT hE
      exact PE.weak (pe_lc (by rw [C.calm]; exact hc) (by rw [C.N]; exact C.nd) g1 g2 g3 g4 g5 (not_set hset)) g6
    · cases hi
  · rename_i tg sk ses ifs tg2 sk2 ses2 ifs2 elt elt' tg' iter ifs' as tg2' iter2 ifs2' as2 scope pos
    simp only [Bool.and_eq_true, bne_iff_ne, ne_eq, decide_eq_true_eq, List.all_eq_true] at h
    obtain ⟨⟨⟨⟨⟨⟨⟨⟨⟨⟨⟨⟨⟨⟨⟨⟨⟨⟨⟨⟨rfl, rfl⟩, hc⟩, hb⟩, hi⟩, hset⟩, htk⟩, htg⟩, hifs⟩, hc2⟩, hc3⟩, hi2⟩, hset2⟩, htk2⟩, htg2⟩, hifs2⟩, hc22⟩, hc32⟩, hn0⟩, hl⟩, he⟩ := h
    split at hi
    · rename_i xs hxs
      split at hi2
      · rename_i xs2 hxs2
        have hI := si (W := W) C hxs hi (sa_of ses (fun e he => (ih e (by have := List.sizeOf_lt_of_mem he; simp; omega)).1) C tk hi) fun e h1 h2 => by
          have hlt : sizeOf e < sizeOf ses := by rw [h1]; simp; omega
          rw [h1, h2] at hi
          simp only [chkEs, Bool.and_eq_true] at hi
          exact (ih e (by first | omega | (simp; try omega))).1 C tk hi.1.2
        have hI2 : ∀ X', Ctx X' M.blk (relS scope sc) cf k xn → PI X' tg2' iter2 (rdI X'.K X'.mg xn W0 (srcLv sk2 ses2) (lvlsL ses2) fun ρ => (evs cf ses2 ρ).bd (itemsT sk2)) := fun X' C' => si (W := W0) C' hxs2 hi2 (sa_of ses2 (fun e he => (ih e (by have := List.sizeOf_lt_of_mem he; simp; omega)).1) C' takes0 hi2) fun e h1 h2 => by
          have hlt : sizeOf e < sizeOf ses2 := by rw [h1]; simp; omega
          rw [h1, h2] at hi2
          simp only [chkEs, Bool.and_eq_true] at hi2
          exact (ih e (by first | omega | (simp; try omega))).1 C' takes0 hi2.1.2
        have hT : ∀ (fs : List IE) (fs' : List Expr), (∀ e ∈ fs, SE e ∧ STt e) → fs.length ≤ 1 → chkEs M.blk (relS scope sc) fs fs' = true → tstOks fs fs' = true → ∀ X', Ctx X' M.blk (relS scope sc) cf k xn → PTs X' fs' (rdT X'.K X'.mg xn W0 (evAll cf fs)) := fun fs fs' hm h1 h2 h3 X' C' => by
          match fs, fs', hm, h1, h2, h3 with
          | [], [], _, _, _, _ => exact pts_none
          | [c], [c'], hm, _, h2, h3 =>
            simp only [chkEs, Bool.and_eq_true] at h2
            simp only [tstOks, Bool.and_eq_true] at h3
            exact pts_ok ((hm c (by simp)).2 C' takes0 h2.1.2 h3.1).1
          | [], _ :: _, _, _, z, _ => simp [chkEs] at z
          | _ :: _, [], _, _, z, _ => simp [chkEs] at z
          | [_], _ :: _ :: _, _, _, z, _ => simp [chkEs] at z
          | _ :: _ :: _, _, _, z, _, _ => simp at z
        have hE : ∀ X', Ctx X' M.blk (relS scope sc) cf k xn → PE X' elt' (ERd X' xn W0 cf elt) := fun X' C' => (ih elt (by simp; try omega)).1 C' takes0 he
        obtain ⟨wi, wi1, tt, tt1, te, g1, g2, g3, g4, g5, g6, g7, g8, g9, g10⟩ := comp2_ok C hc hb hI htk htk2 htg htg2 hl (fun n hn => hn0 n hn) (hT ifs ifs' (fun e he => ih e (by have := List.sizeOf_lt_of_mem he; simp; omega)) hifs hc2 hc3) (hT ifs2 ifs2' (fun e he => ih e (by have := List.sizeOf_lt_of_mem he; simp; omega)) hifs2 hc22 hc32) hI2 hE
        exact PE.weak (pe_lc2 (by rw [C.calm]; exact hc) (by rw [C.N]; exact C.nd) g1 g2 g3 g4 g5 g6 g7 g8 g9 (not_set hset) (fun env => not_set hset2)) g10
      · cases hi2
    · cases hi
  · exact chk_ok ((ih _ (by simp; try omega)).1 C tk h)
  · cases h
theorem st_step (e : IE) (ih : ∀ e', sizeOf e' < sizeOf e → SE e' ∧ STt e') (hse : SE e) : STt e := by
  intro X M sc cf k xn W C tk x h ht
  unfold tstOk at ht
  split at ht
  · rename_i a b x y r p
    simp only [chkE, Bool.and_eq_true, bne_iff_ne, ne_eq] at h
    simp only [Bool.and_eq_true] at ht
    obtain ⟨⟨⟨l1, l2⟩, h1⟩, h2⟩ := h
    have key : PW X (.BoolOp .And (x :: y :: r) p) (TRd X xn W cf (.and a b)) := by
      refine and_tst ((ih a (by simp; try omega)).2 C tk h1 ht.1).1 ?_
      match r, h2, ht.2 with
      | [], h2, t2 => exact pw_and1 ((ih b (by simp; try omega)).2 C tk h2 t2).1
      | z :: r, h2, t2 => exact ((ih b (by simp; try omega)).2 C tk h2 t2).2 rfl
    exact ⟨key.pt, fun _ => key⟩
  · rename_i a b x y r p
    simp only [chkE, Bool.and_eq_true, bne_iff_ne, ne_eq] at h
    simp only [Bool.and_eq_true] at ht
    obtain ⟨⟨⟨l1, l2⟩, h1⟩, h2⟩ := h
    have key : PW X (.BoolOp .Or (x :: y :: r) p) (TRd X xn W cf (.or a b)) := by
      refine or_tst ((ih a (by simp; try omega)).2 C tk h1 ht.1).1 ?_
      match r, h2, ht.2 with
      | [], h2, t2 => exact pw_or1 ((ih b (by simp; try omega)).2 C tk h2 t2).1
      | z :: r, h2, t2 => exact ((ih b (by simp; try omega)).2 C tk h2 t2).2 rfl
    exact ⟨key.pt, fun _ => key⟩
  · simp only [chkE] at h
    exact ⟨not_tst ((ih _ (by simp; try omega)).2 C tk h ht).1, fun z => by cases z⟩
  · rename_i op a b x
    unfold chkE at h
    split at h <;> rename_i heq <;> first | cases heq | skip
    · simp only [Bool.and_eq_true, decide_eq_true_eq, Bool.not_eq_true'] at h
      obtain ⟨⟨⟨rfl, h1⟩, h2⟩, h3⟩ := h
      exact ⟨cmp_tst C ((ih _ (by simp; try omega)).1 C tk h1) ((ih _ (by simp; try omega)).1 C tk h2) h3, fun z => by cases z⟩
    · cases h
  · rename_i op op' a b c x
    unfold chkE at h
    split at h <;> rename_i heq <;> first | cases heq | skip
    · simp only [Bool.and_eq_true, decide_eq_true_eq, Bool.not_eq_true'] at h
      obtain ⟨⟨⟨⟨⟨rfl, rfl⟩, h1⟩, h2⟩, h3⟩, h4⟩ := h
      exact ⟨cmp2_tst C ((ih _ (by simp; try omega)).1 C tk h1) ((ih _ (by simp; try omega)).1 C tk h2) ((ih _ (by simp; try omega)).1 C tk h3) h4, fun z => by cases z⟩
    · cases h
  · refine ⟨any_tst (hse C tk h) ht, fun z => ?_⟩
    exact (bool_plain ht z).elim
theorem se_all : ∀ (n : Nat) (e : IE), sizeOf e < n → SE e ∧ STt e
  | 0, e, h => by omega
  | n + 1, e, h =>
    have ih : ∀ e', sizeOf e' < sizeOf e → SE e' ∧ STt e' := fun e' h' => se_all n e' (by omega)
    ⟨se_step e ih, st_step e ih (se_step e ih)⟩
theorem se (e : IE) : SE e := (se_all _ e (Nat.lt_succ_self _)).1
theorem st (e : IE) : STt e := (se_all _ e (Nat.lt_succ_self _)).2
theorem sa (es : List IE) {X : Cx} {M : Nm} {sc : Scope} {cf : Nat → List T → Res T} {k : Nat} {xn : XN} {W : WXb} (C : Ctx X M sc cf k xn) (tk : Takes X W) {xs : List Expr} (h : chkEs M sc es xs = true) : PA X xs (ARd X xn W cf es) := sa_of es (fun e _ => se e) C tk h
end BV

/-! A call's own lists: made, changed, given away. -/
namespace BV
open PySem PySem.Spec PyProof.Rows L2

section
variable {K : PySem.W.Frag} {xn : XN} {He H H' : Hp} {Ox : Addr → Prop} {xt : List (Nat × T × V)} {ρ : Env} {σ : L2.St}
theorem stay_lst {P : Addr → Prop} {n : Nat} {a : Addr} {vs : List V} {o : HO} (hv : H a = some (.lst vs)) (hp : P a) : Stay (lv P He n) H (upd H a o) := fun b u e x => by
  rw [upd_ne]
  · exact e
  · rintro rfl
    rw [hv] at e
    cases e
    exact (x vs rfl).1 hp
theorem base_upd (hb : Same He H) {a : Addr} (ha : He a = none) {o : HO} : Same He (upd H a o) := fun b u e => by
  rw [upd_ne (fun z => by rw [z, ha] at e; cases e)]
  exact hb b u e
/-- an own list is written -/
theorem FI.write (F : FI K xn He Ox xt ρ σ H) {i : Nat} {xs ys : List T} {a : Addr} {vs ws : List V} (hi : ρ[i]? = some (some (.own xs))) (hs : σ[i]? = some (some (.ref a))) (hv : H a = some (.lst vs)) (r : Reps K (lv (Pr Ox ρ σ) He 2) H ys ws) :
    FI K xn He Ox xt (ρ.set i (some (.own ys))) σ (upd H a (.lst ws)) := by
  have hown : Own ρ σ a := ⟨i, xs, hi, hs⟩
  have hp : Pr Ox ρ σ a := .inr hown
  have st : ∀ n, Stay (lv (Pr Ox ρ σ) He n) H (upd H a (.lst ws)) := fun n => stay_lst hv hp
  obtain ⟨a', us, e1, e2, hn, hox, _⟩ := F.sl i _ hi
  rw [hs] at e1
  cases e1
  have hl : i < ρ.length := (List.getElem?_eq_some_iff.mp hi).1
  have ow : ∀ b, Own (ρ.set i (some (.own ys))) σ b → Own ρ σ b := by
    rintro b ⟨j, zs, q1, q2⟩
    by_cases hj : j = i
    · subst hj; exact ⟨j, xs, hi, q2⟩
    · rw [List.getElem?_set_ne (Ne.symm hj)] at q1
      exact ⟨j, zs, q1, q2⟩
  have pw : ∀ b, Pr Ox (ρ.set i (some (.own ys))) σ b → Pr Ox ρ σ b := fun b p => p.imp id (ow b)
  refine ⟨by rw [List.length_set]; exact F.len, fun j s e => ?_, fun j j' us us' b q1 q2 q3 q4 => ?_, base_upd F.base hn, fun b o e => ?_, fun e m => ⟨(F.xts e m).1, ?_⟩⟩
  · refine SlOk.weak pw ?_
    by_cases hj : j = i
    · subst hj
      rw [List.getElem?_set_self hl] at e
      cases e
      exact ⟨a, ws, hs, upd_same, hn, hox, Reps.move _ _ (st 2) (fun _ _ _ y => y) r⟩
    · rw [List.getElem?_set_ne (Ne.symm hj)] at e
      have x := F.sl j s e
      by_cases ho : ∃ zs, s = .own zs
      · obtain ⟨zs, rfl⟩ := ho
        obtain ⟨b, us, x1, x2, x3, x4, x5⟩ := x
        refine ⟨b, us, x1, ?_, x3, x4, Reps.move _ _ (st 2) (fun _ _ _ y => y) x5⟩
        rw [upd_ne]
        · exact x2
        · rintro rfl
          exact hj (F.inj j i zs xs b e hi x1 hs)
      · exact x.move st fun zs z => ho ⟨zs, z⟩
  · have g : ∀ (j : Nat) (us : List T) , (ρ.set i (some (.own ys)))[j]? = some (some (.own us)) → ∃ us', ρ[j]? = some (some (.own us')) := fun j us q => by
      by_cases hj : j = i
      · subst hj; exact ⟨xs, hi⟩
      · rw [List.getElem?_set_ne (Ne.symm hj)] at q; exact ⟨us, q⟩
    obtain ⟨_, g1⟩ := g j us q1
    obtain ⟨_, g2⟩ := g j' us' q2
    exact F.inj j j' _ _ b g1 g2 q3 q4
  · by_cases hb : b = a
    · subst hb; rw [upd_same] at e; cases e
    · rw [upd_ne hb] at e
      exact F.oxd b o e
  · exact (Rep.move _ _ (st e.1) (fun _ _ _ y => y) (F.xts e m).2).weak fun b _ _ x => ⟨fun z => x.1 (pw b z), x.2⟩
/-- an own list is changed no more -/
theorem FI.freeze (F : FI K xn He Ox xt ρ σ H) {i : Nat} {xs : List T} (hi : ρ[i]? = some (some (.own xs))) : FI K xn He Ox xt (ρ.set i (some (.val (.lst xs)))) σ H := by
  obtain ⟨a, vs, hs, hv, hn, hox, r⟩ := F.sl i _ hi
  have hl : i < ρ.length := (List.getElem?_eq_some_iff.mp hi).1
  have ow : ∀ b, Own (ρ.set i (some (.val (.lst xs)))) σ b → Own ρ σ b ∧ b ≠ a := by
    rintro b ⟨j, zs, q1, q2⟩
    by_cases hj : j = i
    · subst hj
      rw [List.getElem?_set_self hl] at q1
      cases q1
    · rw [List.getElem?_set_ne (Ne.symm hj)] at q1
      refine ⟨⟨j, zs, q1, q2⟩, ?_⟩
      rintro rfl
      exact hj (F.inj j i zs xs b q1 hi q2 hs)
  have pw : ∀ b, Pr Ox (ρ.set i (some (.val (.lst xs)))) σ b → Pr Ox ρ σ b := fun b p => p.imp id fun z => (ow b z).1
  refine ⟨by rw [List.length_set]; exact F.len, fun j s e => ?_, fun j j' us us' b q1 q2 q3 q4 => ?_, F.base, F.oxd, fun e m => ⟨(F.xts e m).1, (F.xts e m).2.weak fun b _ _ x => ⟨fun z => x.1 (pw b z), x.2⟩⟩⟩
  · by_cases hj : j = i
    · subst hj
      rw [List.getElem?_set_self hl] at e
      cases e
      refine ⟨.ref a, hs, a, vs, rfl, ⟨hv, ?_⟩, ?_⟩
      · refine ⟨fun p => ?_, fun _ => hn⟩
        rcases p with p | p
        · exact hox p
        · exact (ow a p).2 rfl
      · exact r.weak fun b _ _ x => ⟨⟨fun z => x.1 (pw b z), x.2⟩, fun z => x.1 (by rw [z]; exact .inr ⟨_, xs, hi, hs⟩)⟩
    · rw [List.getElem?_set_ne (Ne.symm hj)] at e
      exact (F.sl j s e).weak pw
  · have g : ∀ (j : Nat) (us : List T) , (ρ.set i (some (.val (.lst xs))))[j]? = some (some (.own us)) → ρ[j]? = some (some (.own us)) := fun j us q => by
      by_cases hj : j = i
      · subst hj; rw [List.getElem?_set_self hl] at q; cases q
      · rw [List.getElem?_set_ne (Ne.symm hj)] at q; exact q
    exact F.inj j j' _ _ b (g j us q1) (g j' us' q2) q3 q4
/-- a slot takes a list that nobody else holds -/
theorem FI.own (F : FI K xn He Ox xt ρ σ H) (s : Same H H') {i : Nat} {xs : List T} {a : Addr} {vs : List V} (ha : H a = none) (hv : H' a = some (.lst vs)) (r : Reps K (fun b => lv (Pr Ox ρ σ) He 2 b ∧ b ≠ a) H' xs vs) (hi : i < ρ.length) :
    FI K xn He Ox xt (ρ.set i (some (.own xs))) (σ.set i (some (.ref a))) H' := by
  have hls : i < σ.length := by rw [F.len]; exact hi
  have ow : ∀ b, Own (ρ.set i (some (.own xs))) (σ.set i (some (.ref a))) b → Own ρ σ b ∨ b = a := by
    rintro b ⟨j, zs, q1, q2⟩
    by_cases hj : j = i
    · subst hj
      rw [List.getElem?_set_self hls] at q2
      cases q2
      exact .inr rfl
    · rw [List.getElem?_set_ne (Ne.symm hj)] at q1 q2
      exact .inl ⟨j, zs, q1, q2⟩
  have pw : ∀ b, Pr Ox (ρ.set i (some (.own xs))) (σ.set i (some (.ref a))) b → Pr Ox ρ σ b ∨ b = a := fun b p => by
    rcases p with p | p
    · exact .inl (.inl p)
    · rcases ow b p with q | q
      · exact .inl (.inr q)
      · exact .inr q
  have lw : ∀ n b us, H b = some (.lst us) → lv (Pr Ox ρ σ) He n b → lv (Pr Ox (ρ.set i (some (.own xs))) (σ.set i (some (.ref a)))) He n b := fun n b us e x => by
    refine ⟨fun z => ?_, x.2⟩
    rcases pw b z with q | q
    · exact x.1 q
    · rw [q, ha] at e; cases e
  refine ⟨by rw [List.length_set, List.length_set]; exact F.len, fun j u e => ?_, fun j j' us us' b q1 q2 q3 q4 => ?_, F.base.trans s, fun b o e => F.oxd b o (s.free e), fun e m => ⟨(F.xts e m).1, ((F.xts e m).2.weak (lw e.1)).same s⟩⟩
  · by_cases hj : j = i
    · subst hj
      rw [List.getElem?_set_self hi] at e
      cases e
      refine ⟨a, vs, List.getElem?_set_self hls, hv, F.base.free ha, fun o => F.oxd a o ha, r.weak fun b us _ x => ⟨fun z => ?_, x.1.2⟩⟩
      rcases pw b z with q | q
      · exact x.1.1 q
      · exact x.2 q
    · rw [List.getElem?_set_ne (Ne.symm hj)] at e ⊢
      have x := F.sl j u e
      cases u with
      | val t => obtain ⟨v, e1, r⟩ := x; exact ⟨v, e1, (r.weak (lw 2)).same s⟩
      | par t => obtain ⟨v, e1, r⟩ := x; exact ⟨v, e1, (r.weak (lw 1)).same s⟩
      | exn c fs => exact x
      | own zs => obtain ⟨b, us, x1, x2, x3, x4, x5⟩ := x; exact ⟨b, us, x1, s _ _ x2, x3, x4, (x5.weak (lw 2)).same s⟩
  · have g : ∀ (j : Nat) (us : List T) (b : Addr), (ρ.set i (some (.own xs)))[j]? = some (some (.own us)) → (σ.set i (some (.ref a)))[j]? = some (some (.ref b)) → (j = i ∧ b = a) ∨ (j ≠ i ∧ ρ[j]? = some (some (.own us)) ∧ σ[j]? = some (some (.ref b)) ∧ b ≠ a) := fun j us b e1 e2 => by
      by_cases hj : j = i
      · subst hj
        rw [List.getElem?_set_self hls] at e2
        cases e2
        exact .inl ⟨rfl, rfl⟩
      · rw [List.getElem?_set_ne (Ne.symm hj)] at e1 e2
        refine .inr ⟨hj, e1, e2, fun z => ?_⟩
        obtain ⟨b', us', x1, x2, _⟩ := F.sl j _ e1
        rw [e2] at x1
        cases x1
        rw [z, ha] at x2; cases x2
    rcases g j us b q1 q3 with ⟨h1, h2⟩ | ⟨h1, h2, h3, h4⟩
    · rcases g j' us' b q2 q4 with ⟨k1, k2⟩ | ⟨k1, k2, k3, k4⟩
      · rw [h1, k1]
      · exact absurd h2 k4
    · rcases g j' us' b q2 q4 with ⟨k1, k2⟩ | ⟨k1, k2, k3, k4⟩
      · exact absurd k2 h4
      · exact F.inj j j' _ _ b h2 k2 h3 k3
theorem ownAt_ok {i : Nat} {xs : List T} (h : ownAt ρ i = .ok xs) : ρ[i]? = some (some (.own xs)) := by
  unfold ownAt at h
  split at h
  · cases h; assumption
  · cases h
theorem ownAt_noExc {i : Nat} {c fs} : ownAt ρ i ≠ .exc c fs := by
  intro h
  unfold ownAt at h
  split at h <;> cases h
end
end BV

/-! Statements: their readings, and the check. -/
namespace BV
open PySem PySem.Spec PyProof.Rows L2

/-- what is wanted behind a statement that ends so -/
def OutS (K : PySem.W.Frag) (mg : Str → Option Value) (xn : XN) (W : WXb) (He : Hp) (Ox : Addr → Prop) (xt : List (Nat × T × V)) (D : Ends) : Fl → Prop
  | .nx ρ => ∀ σ H, FI K xn He Ox xt ρ σ H → D.nx σ H
  | .bk ρ => ∀ σ H, FI K xn He Ox xt ρ σ H → D.bk σ H
  | .ct ρ => ∀ σ H, FI K xn He Ox xt ρ σ H → D.ct σ H
  | .rt t => ∀ v H, Same He H → Rep K (fun a => He a = none) H t v → D.rt v H
  | .ex c fs ρ => fs = [] ∧ ∀ cv σ H, FI K xn He Ox xt ρ σ H → mg c = some cv → W cv none σ H
  | .stuck => False
def rdS (X : Cx) (xn : XN) (W : WXb) (f : Env → Fl) : TS := fun D σ H => ∃ He Ox ρ xt, FI X.K xn He Ox xt ρ σ H ∧ OutS X.K X.mg xn W He Ox xt D (f ρ)
section
variable {X : Cx} {xn : XN} {W : WXb} {cf : Nat → List T → Res T} {He H : Hp} {Ox : Addr → Prop} {xt : List (Nat × T × V)} {ρ : Env} {σ : L2.St} {D : Ends}
/-- behind a value -/
theorem out_fl {n : Nat} {fr : Bool} {r : Res T} {g : T → Fl} {Q : VK} (F : FI X.K xn He Ox xt ρ σ H) (o : OutS X.K X.mg xn W He Ox xt D (r.fl ρ g))
    (k : ∀ t v H', Same H H' → RepL X.K (Pr Ox ρ σ) He H' n t v → (fr = true → FreshV H t v) → OutS X.K X.mg xn W He Ox xt D (g t) → Q v H') : OutE X.K X.mg W (Pr Ox ρ σ) He σ n fr H Q r := by
  cases r with
  | ok t => exact fun v H' s rr f => k t v H' s rr f o
  | exc c fs => exact ⟨o.1, fun cv H' s q => o.2 cv σ H' (F.same s) q⟩
  | stuck => exact o
theorem out_flA {ns : List Nat} {r : Res (List T)} {g : List T → Fl} {Q : List V → Hp → Prop} (F : FI X.K xn He Ox xt ρ σ H) (o : OutS X.K X.mg xn W He Ox xt D (r.fl ρ g))
    (k : ∀ ts vs H', Same H H' → ArgL X.K (Pr Ox ρ σ) He H' ns ts vs → OutS X.K X.mg xn W He Ox xt D (g ts) → Q vs H') : OutA X.K X.mg W (Pr Ox ρ σ) He σ ns H Q r := by
  cases r with
  | ok t => exact fun v H' s rr => k t v H' s rr o
  | exc c fs => exact ⟨o.1, fun cv H' s q => o.2 cv σ H' (F.same s) q⟩
  | stuck => exact o
theorem out_flT {r : Res T} {g : Bool → Fl} {Q : Bool → Hp → Prop} (F : FI X.K xn He Ox xt ρ σ H) (o : OutS X.K X.mg xn W He Ox xt D (r.fl ρ fun x => (truthR x).fl ρ g))
    (k : ∀ b H', Same H H' → OutS X.K X.mg xn W He Ox xt D (g b) → Q b H') : OutT X.mg W σ H Q (r.bd truthR) := by
  cases r with
  | ok t =>
    simp only [fl_ok, bd_ok] at o ⊢
    cases e : truthR t with
    | ok b => rw [e] at o; exact fun H' s => k b H' s o
    | exc c fs => rw [e] at o; exact ⟨o.1, fun cv H' s q => o.2 cv σ H' (F.same s) q⟩
    | stuck => rw [e] at o; exact o
  | exc c fs => exact ⟨o.1, fun cv H' s q => o.2 cv σ H' (F.same s) q⟩
  | stuck => exact o
theorem own_fl {i : Nat} {ρ' : Env} {g : List T → Fl} (o : OutS X.K X.mg xn W He Ox xt D ((ownAt ρ i).fl ρ' g)) : ∃ xs, ρ[i]? = some (some (.own xs)) ∧ OutS X.K X.mg xn W He Ox xt D (g xs) := by
  cases e : ownAt ρ i with
  | ok xs => rw [e] at o; exact ⟨xs, ownAt_ok e, o⟩
  | exc c fs => exact absurd e ownAt_noExc
  | stuck => rw [e] at o; exact o.elim
end

/-! ### stores -/
def swB (sc : Scope) (x : Str) (pos : Pos) : Expr → Bool
  | .ListComp _ _ s p => sc.names.lookup x == some .local && pos.line == p.line && !(s.names.any fun (n, k) => n == x && (k == .local || k == .cell))
  | .SetComp .. => true
  | .DictComp .. => true
  | _ => false
theorem sw_not {sc : Scope} {x : Str} {pos : Pos} {v : Expr} {l : Nat} {env : PySem.Env} (hsc : env.scope = sc) (hk : sc.kind = .function) (h : swB sc x pos v = false) : swapsWith v (some (.Name x pos)) l env = pure false := by
  have hb : env.blockKind = .function := by unfold PySem.Env.blockKind; rw [hsc, hk]; rfl
  have hko : ∀ y, env.kindOf y = sc.names.lookup y := fun y => by rw [← hsc]; rfl
  cases v <;> first | rfl | (simp only [swB, Bool.true_eq_false] at h) | skip
  rename_i elt gs s p
  unfold swapsWith
  simp only [hb, hko, Expr.pos]
  rw [show (pos.line == p.line) = (pos.line == p.line) from rfl]
  have : (sc.names.lookup x == some .local && pos.line == p.line && !(s.names.any fun x_1 => match x_1 with | (n, k) => n == x && (k == .local || k == .cell))) = false := h
  show pure _ = pure _
  congr 1
theorem sw_not2 {v : Expr} {tg : Expr} {l : Nat} {env : PySem.Env} (h : ∀ x p, tg ≠ .Name x p) : swapsWith v (some tg) l env = pure false := by
  cases v <;> first | rfl | (cases tg <;> first | rfl | exact absurd rfl (h _ _))
theorem sw_not3 {v : Expr} {tg : Expr} {l : Nat} {env : PySem.Env} (h : ∀ x p, tg ≠ .Name x p) : swapsWithSole [tg] v l env = pure false := by
  have e : swapsWithSole [tg] v l env = swapsWith v (some tg) l env := by unfold swapsWithSole; rfl
  rw [e]; exact sw_not2 h
def isCmp : IE → Bool
  | .comp .. => true
  | _ => false
def isComp : Expr → Bool
  | .ListComp .. => true
  | .SetComp .. => true
  | .DictComp .. => true
  | _ => false
def dispB : Expr → Bool
  | .Tuple .. => true
  | _ => false
mutual
def chkS (M : Nm) (sc : Scope) : IS → Stmt → Bool
  | .asg i e, .Assign [.Name x p] v _ => M.N[i]? == some x && stB M sc x && lvl e == 2 && chkE M sc e v && (!swB sc x p v || isCmp e)
  | .asgP i e, .Assign [.Name x p] v _ => M.N[i]? == some x && stB M sc x && lvl e != 0 && chkE M sc e v && (!swB sc x p v || isCmp e)
  | .asgO i e, .Assign [.Name x p] v _ => M.N[i]? == some x && stB M sc x && decide (i < M.N.length) && lvl e == 2 && freshE e && chkE M sc e v && (!swB sc x p v || isCmp e)
  | .asgT tg e, .Assign [.Tuple es n p] v _ => chkTg M sc tg (.Tuple es n p) && tgOk tg (lvl e) && chkE M sc e v && !dispB v && lvl e != 0
  | .asgPop j i es, .Assign [.Name x p] (.Call (.Attribute (.Name y yp) f ap) as [] cp) _ => M.N[j]? == some x && stB M sc x && M.N[i]? == some y && visB sc y && dbgOk y && f == ("pop" : Str) && ap.endLine == cp.line && decide (i ≠ j) && chkEs M sc es as && decide (es.length ≤ 1)
  | .aug i op e, .AugAssign (.Name x _) op' v _ => M.N[i]? == some x && stB M sc x && decide (op = op') && (op == .Add || op == .Sub || op == .Mult) && chkE M sc e v
  | .app i e, .Expr (.Call (.Attribute (.Name y yp) f ap) [v] [] cp) _ => M.N[i]? == some y && visB sc y && dbgOk y && f == ("append" : Str) && ap.endLine == cp.line && notStar v && lvl e == 2 && chkE M sc e v
  | .appPop i j es, .Expr (.Call (.Attribute (.Name y yp) f ap) [.Call (.Attribute (.Name z zp) g ap2) as [] cp2] [] cp) _ => M.N[i]? == some y && visB sc y && dbgOk y && f == ("append" : Str) && ap.endLine == cp.line &&
      M.N[j]? == some z && visB sc z && dbgOk z && g == ("pop" : Str) && ap2.endLine == cp2.line && chkEs M sc es as && decide (es.length ≤ 1)
  | .setI i k e, .Assign [.Subscript (.Name y yp) kx _] v _ => M.N[i]? == some y && visB sc y && dbgOk y && notSlice kx && chkE M sc k kx && lvl e == 2 && chkE M sc e v
  | .rev i, .Expr (.Call (.Attribute (.Name y yp) f ap) [] [] cp) _ => M.N[i]? == some y && visB sc y && dbgOk y && f == ("reverse" : Str) && ap.endLine == cp.line
  | .ite c a b, .If x y z _ => tstOk c x && chkE M sc c x && chkSs M sc a y && chkSs M sc b z
  | .for tg sk ses body, .For tg' iter b [] _ => M.calm && (match iterArgs M sc tg' sk iter with | some xs => chkEs M sc ses xs | none => false) && notSet iter && tgOk tg (srcLv sk ses) && (lvlsL ses).all (fun n => n != 0) && chkTg M sc tg tg' && chkSs M sc body b
  | .while c body, .While x b [] _ => tstOk c x && chkE M sc c x && chkSs M sc body b
  | .ret e, .Return (some x) _ => lvl e == 2 && chkE M sc e x
  | .retO i, .Return (some (.Name x _)) _ => M.N[i]? == some x && visB sc x && dbgOk x
  | .retN, .Return none _ => true
  | .raise c, .Raise (some (.Call (.Name x _) [.Constant (.str _) _ _] [] _)) none _ => M.calm && x == c && M.excs.contains c && glB sc c && dbgOk c
  | .try body c none suite, .Try b [.ExceptHandler (some (.Name x _)) none (s0 :: s) _] [] [] _ => M.calm && x == c && (M.subs.any fun p => p.2.1 == c) && glB sc c && dbgOk c && chkSs M sc body b && chkSs M.hot sc suite (s0 :: s)
  | .try body c (some i) suite, .Try b [.ExceptHandler (some (.Name x _)) (some n) (s0 :: s) _] [] [] _ => M.calm && x == c && (M.subs.any fun p => p.2.1 == c) && glB sc c && dbgOk c && chkSs M sc body b && chkSs M.hot sc suite (s0 :: s)
      && M.N[i]? == some n && sc.names.lookup n == some .local
  | .expr e, .Expr x _ => !isComp x && chkE M sc e x
  | .pass, .Pass _ => true
  | .pass, .Expr (.Constant (.str _) _ _) _ => true
  | .brk, .Break _ => true
  | .cnt, .Continue _ => true
  | _, _ => false
def chkSs (M : Nm) (sc : Scope) : List IS → List Stmt → Bool
  | [], [] => true
  | .freeze _ :: ss, xs => chkSs M sc ss xs
  | s :: ss, x :: xs => chkS M sc s x && chkSs M sc ss xs
  | _, _ => false
end

/-- a call's own circumstances -/
structure Stk (X : Cx) (sc : Scope) : Prop where
  stk : X.stack = X.env :: X.outer
  fr : X.env.frame = some X.env.locals
  po : PassesOwn (model X.prog X.w) X.A X.env X.xe
  kind : sc.kind = .function
section
variable {X : Cx} {M : Nm} {sc : Scope} {cf : Nat → List T → Res T} {k : Nat} {xn : XN} {W : WXb}
theorem comp_parts (C : Ctx X M sc cf k xn) (tk : Takes X W) {tg : Tg} {elt : IE} {sk : Sk} {ses ifs : List IE} {elt' : Expr} {gs : List Comprehension} {scope : Scope} {pos : Pos} (h : chkE M sc (.comp tg elt sk ses ifs) (.ListComp elt' gs scope pos) = true) :
    ∃ (tg' iter : Expr) (ifs' : List Expr) (wi : TI) (tt : TT) (te : TE), gs = [⟨tg', iter, ifs', 0⟩] ∧ M.calm = true ∧ PI X tg' iter wi ∧ BlkOk X.N X.env.scope scope (ownOf M tg) ∧ (∀ (s : Shared) (H : Hp) (C : Addr) (cl : List (Str × Addr)) (fp : List Addr), PG (X.blk s H scope (compEnvC scope cl C X.env) fp) tg' (gT X.K tg)) ∧
      (∀ (s : Shared) (H : Hp) (C : Addr) (cl : List (Str × Addr)) (fp : List Addr), PTs (X.blk s H scope (compEnvC scope cl C X.env) fp) ifs' tt) ∧ (∀ (s : Shared) (H : Hp) (C : Addr) (cl : List (Str × Addr)) (fp : List Addr), PE (X.blk s H scope (compEnvC scope cl C X.env) fp) elt' te) ∧
      (∀ σ H Q, ERd X xn W cf (.comp tg elt sk ses ifs) σ H Q → tLc wi (gT X.K tg) tt te ((ownOf M tg).map (·.2)) σ H Q) ∧ (∀ v, foldedSetIterable iter X.env v = pure v) := by
  match gs, h with
  | [], h => simp [chkE] at h
  | _ :: _ :: _, h => simp [chkE] at h
  | [⟨tg', iter, ifs', as⟩], h =>
    simp only [chkE] at h
    simp only [Bool.and_eq_true, bne_iff_ne, ne_eq, decide_eq_true_eq] at h
    obtain ⟨⟨⟨⟨⟨⟨⟨⟨⟨⟨⟨rfl, hc⟩, hb⟩, hi⟩, hset⟩, htk⟩, htg⟩, hifs⟩, hc2⟩, hc3⟩, hl⟩, he⟩ := h
    split at hi
    · rename_i xs hxs
      have hI := si (xn := xn) (W := W) C hxs hi (sa ses C tk hi) fun e h1 h2 => by
        rw [h1, h2] at hi
        simp only [chkEs, Bool.and_eq_true] at hi
        exact se e C tk hi.1.2
      have hT : ∀ X', Ctx X' M.blk (relS scope sc) cf k xn → PTs X' ifs' (rdT X'.K X'.mg xn W0 (evAll cf ifs)) := fun X' C' => by
        match hif : ifs, ifs', hifs, hc2, hc3 with
        | [], [], _, _, _ => exact pts_none
        | [c], [c'], _, hc2, hc3 =>
          simp only [chkEs, Bool.and_eq_true] at hc2
          simp only [tstOks, Bool.and_eq_true] at hc3
          exact pts_ok (st c C' takes0 hc2.1.2 hc3.1).1
        | [], _ :: _, _, z, _ => simp [chkEs] at z
        | _ :: _, [], _, z, _ => simp [chkEs] at z
        | [_], _ :: _ :: _, _, z, _ => simp [chkEs] at z
        | _ :: _ :: _, _, z, _, _ => simp at z
      have hE : ∀ X', Ctx X' M.blk (relS scope sc) cf k xn → PE X' elt' (ERd X' xn W0 cf elt) := fun X' C' => se elt C' takes0 he
      obtain ⟨wi, tt, te, g1, g2, g3, g4, g5, g6⟩ := comp_ok (pos := pos) C hc hb hI hset htk htg hl hT hE
      exact ⟨tg', iter, ifs', wi, tt, te, rfl, hc, g1, g2, g3, g4, g5, g6, not_set hset⟩
    · cases hi
/-- name = expression -/
theorem asg_any (C : Ctx X M sc cf k xn) (tk : Takes X W) (hk : sc.kind = .function) {i : Nat} {e : IE} {x : Str} {p pos : Pos} {v : Expr} (h1 : M.N[i]? = some x) (h2 : stB M sc x = true) (h3 : chkE M sc e v = true) (h4 : (!swB sc x p v || isCmp e) = true) :
    PS X (.Assign [.Name x p] v pos) (tAsg (ERd X xn W cf e) (gName i)) := by
  obtain ⟨l1, l2⟩ := loc_of C h2
  by_cases hs : swB sc x p v = false
  · exact ps_set (by rw [C.N]; exact C.nd) (by rw [C.N]; exact h1) l1 (se e C tk h3) (sw_not C.sc hk hs) l2
  · rw [Bool.not_eq_false] at hs
    rw [hs] at h4
    simp only [Bool.not_true, Bool.false_or] at h4
    unfold isCmp at h4
    split at h4
    · rename_i tg elt sk ses ifs
      cases v <;> first | (simp [swB] at hs; done) | (simp [chkE] at h3; done) | skip
      rename_i elt' gs scope cpos
      obtain ⟨tg', iter, ifs', wi, tt, te, rfl, hc, g1, g2, g3, g4, g5, g6, g7⟩ := comp_parts C tk h3
      simp only [swB, Bool.and_eq_true, beq_iff_eq, Bool.not_eq_true'] at hs
      have hy : X.env.scope.names.lookup x = some .local := by rw [C.sc]; exact hs.1.1
      have key := ps_setLc (spos := pos) (py := p) (pos := cpos) (by rw [C.calm]; exact hc) (by rw [C.N]; exact C.nd) (by rw [C.N]; exact h1) hy (sw_true (by rw [C.sc]; exact hk) hy (by rw [beq_iff_eq]; exact hs.1.2) hs.2) g1 g2 g3 g4 g5 g7
      refine PS.weak key fun D σ H q => ?_
      exact g6 σ H _ q
    · cases h4
end
end BV

/-! Every statement that is checked keeps to its value: the cases. -/
namespace BV
open PySem PySem.Spec PyProof.Rows L2

section
variable {X : Cx} {M : Nm} {sc : Scope} {cf : Nat → List T → Res T} {k : Nat} {xn : XN} {W : WXb} {sb : Str → Str → Option Bool}
theorem FI.setV {K : PySem.W.Frag} {He H : Hp} {Ox : Addr → Prop} {xt : List (Nat × T × V)} {ρ : Env} {σ : L2.St} (F : FI K xn He Ox xt ρ σ H) {i : Nat} {t : T} {v : V} (r : RepL K (Pr Ox ρ σ) He H 2 t v) : FI K xn He Ox xt (ρ.set i (some (.val t))) (σ.set i (some v)) H :=
  F.set i _ _ (by intro _ z; cases z) (fun u z => by cases z; rw [repL_pos (by decide)] at r; exact ⟨v, rfl, r⟩)
theorem s_asg (C : Ctx X M sc cf k xn) (tk : Takes X W) (S : Stk X sc) {i : Nat} {e : IE} {x : Str} {p pos : Pos} {v : Expr} (h1 : M.N[i]? = some x) (h2 : stB M sc x = true) (h3 : chkE M sc e v = true) (h4 : (!swB sc x p v || isCmp e) = true) (hl : lvl e = 2) :
    PS X (.Assign [.Name x p] v pos) (rdS X xn W (ex cf sb (.asg i e))) := by
  refine PS.weak (asg_any C tk S.kind h1 h2 h3 h4) fun D σ H q => ?_
  obtain ⟨He, Ox, ρ, xt, F, o⟩ := q
  simp only [ex] at o
  exact ⟨He, Ox, ρ, xt, F, out_fl F o fun t v H' s r f o' => o' _ _ ((F.same s).setV (by rw [hl] at r; exact r))⟩
theorem s_asgP (C : Ctx X M sc cf k xn) (tk : Takes X W) (S : Stk X sc) {i : Nat} {e : IE} {x : Str} {p pos : Pos} {v : Expr} (h1 : M.N[i]? = some x) (h2 : stB M sc x = true) (h3 : chkE M sc e v = true) (h4 : (!swB sc x p v || isCmp e) = true) (hl : lvl e ≠ 0) :
    PS X (.Assign [.Name x p] v pos) (rdS X xn W (ex cf sb (.asgP i e))) := by
  refine PS.weak (asg_any C tk S.kind h1 h2 h3 h4) fun D σ H q => ?_
  obtain ⟨He, Ox, ρ, xt, F, o⟩ := q
  simp only [ex] at o
  refine ⟨He, Ox, ρ, xt, F, out_fl F o fun t v H' s r f o' => o' _ _ ((F.same s).set i _ _ (by intro _ z; cases z) (fun u z => by
    cases z
    have r2 := r.down (m := 1) (by omega) (by decide) (lvl_le e)
    rw [repL_pos (by decide)] at r2
    exact ⟨v, rfl, r2⟩))⟩
theorem s_asgO (C : Ctx X M sc cf k xn) (tk : Takes X W) (S : Stk X sc) {i : Nat} {e : IE} {x : Str} {p pos : Pos} {v : Expr} (h1 : M.N[i]? = some x) (h2 : stB M sc x = true) (h3 : chkE M sc e v = true) (h4 : (!swB sc x p v || isCmp e) = true) (hl : lvl e = 2) (hf : freshE e = true) (hlen : ∀ ρ : Env, True) :
    PS X (.Assign [.Name x p] v pos) (rdS X xn W (ex cf sb (.asgO i e))) := by
  refine PS.weak (asg_any C tk S.kind h1 h2 h3 h4) fun D σ H q => ?_
  obtain ⟨He, Ox, ρ, xt, F, o⟩ := q
  simp only [ex] at o
  refine ⟨He, Ox, ρ, xt, F, out_fl F o fun t v H' s r f o' => ?_⟩
  rw [hl, repL_pos (by decide)] at r
  cases t with
  | lst xs =>
    obtain ⟨a, vs, rfl, ⟨hv, ha⟩, rs⟩ := r
    have hn : H a = none := f hf xs a rfl rfl
    by_cases hi : i < ρ.length
    · exact o' _ _ (F.own s hn hv rs hi)
    · have e1 : ρ.set i (some (.own xs)) = ρ := List.set_eq_of_length_le (by omega)
      have e2 : σ.set i (some (.ref a)) = σ := List.set_eq_of_length_le (by rw [F.len]; omega)
      have o2 : OutS X.K X.mg xn W He Ox xt D (.nx (ρ.set i (some (.own xs)))) := o'
      rw [e1] at o2
      show D.nx (σ.set i (some (.ref a))) H'
      rw [e2]
      exact o2 _ _ (F.same s)
  | _ => exact o'.elim
theorem s_asgT (C : Ctx X M sc cf k xn) (tk : Takes X W) {tg : Tg} {e : IE} {es : List Expr} {n : Nat} {p pos : Pos} {v : Expr} (h1 : chkTg M sc tg (.Tuple es n p) = true) (h2 : tgOk tg (lvl e) = true) (h3 : chkE M sc e v = true) (h4 : dispB v = false) (hl : lvl e ≠ 0) :
    PS X (.Assign [.Tuple es n p] v pos) (rdS X xn W (ex cf sb (.asgT tg e))) := by
  refine PS.weak (ps_asg (se e C tk h3) (pg_T C tg _ h1) (sw_not3 (tg := .Tuple es n p) (by intro _ _ z; cases z)) (by cases v <;> first | rfl | (simp [dispB] at h4))) fun D σ H q => ?_
  obtain ⟨He, Ox, ρ, xt, F, o⟩ := q
  simp only [ex] at o
  refine ⟨He, Ox, ρ, xt, F, out_fl F o fun t v H' s r f o' => ?_⟩
  rw [repL_pos hl] at r
  cases e1 : tg.set t ρ with
  | none => rw [e1] at o'; exact o'.elim
  | some ρ1 =>
    rw [e1] at o'
    refine gT_mono tg (fi_T tg tg.slots h2 (fun _ h => h) (F.same s) r e1) fun σ2 H2 ⟨e2, F2, _⟩ => ?_
    subst e2
    exact o' _ _ F2

/-! ### own lists -/
theorem own_var (C : Ctx X M sc cf k xn) {i : Nat} {y : Str} {yp : Pos} (h1 : M.N[i]? = some y) (h2 : visB sc y = true) (h3 : dbgOk y = true) : PE X (.Name y yp) (tVar i) := pe_var (by rw [C.N]; exact h1) (vis_of C h2) (dbg1 h3) (dbg2 h3)
theorem tyV_lst {K : PySem.W.Frag} {H : Hp} {a : Addr} {vs : List V} (h : H a = some (.lst vs)) : tyV K "list" (.ref a) H := .inl ⟨rfl, vs, SqL.of h⟩
theorem s_app (C : Ctx X M sc cf k xn) (tk : Takes X W) {i : Nat} {e : IE} {y : Str} {yp ap cp pos : Pos} {v : Expr} (h1 : M.N[i]? = some y) (h2 : visB sc y = true) (h3 : dbgOk y = true) (hline : (ap.endLine == cp.line) = true) (hst : notStar v = true) (hl : lvl e = 2) (h4 : chkE M sc e v = true) :
    PS X (.Expr (.Call (.Attribute (.Name y yp) "append" ap) [v] [] cp) pos) (rdS X xn W (ex cf sb (.app i e))) := by
  refine PS.weak (ps_expr (pe_bm PySem.F.plainAttrs_list PySem.F.slot_list_append PySem.F.type_list_append mt_append (own_var C h1 h2 h3) (pa_cons (se e C tk h4) pa_nil (star_cons hst)) rfl (few1 hst) hline (star_cons hst) rfl)) fun D σ H q => ?_
  obtain ⟨He, Ox, ρ, xt, F, o⟩ := q
  simp only [ex] at o
  obtain ⟨xs, hi, o⟩ := own_fl o
  obtain ⟨a, vs, hs, hv, hn, hox, rs⟩ := F.sl i _ hi
  refine ⟨.ref a, hs, tyV_lst hv, ?_⟩
  refine ⟨He, Ox, ρ, xt, F, out_fl F o fun t v H' s r f o' => ?_⟩
  rw [hl, repL_pos (by decide)] at r
  have rs' := rs.same s
  have hlen := rs'.length
  by_cases hz : xs.length < sizeLine
  · rw [if_pos hz] at o'
    refine ⟨a, vs, v, rfl, rfl, s _ _ hv, by rw [hlen]; exact hz, ?_⟩
    exact o' _ _ ((F.same s).write hi hs (s _ _ hv) (rs'.append (Reps.cons r Reps.nil)))
  · rw [if_neg hz] at o'
    exact o'.elim
theorem s_rev (C : Ctx X M sc cf k xn) {i : Nat} {y : Str} {yp ap cp pos : Pos} (h1 : M.N[i]? = some y) (h2 : visB sc y = true) (h3 : dbgOk y = true) (hline : (ap.endLine == cp.line) = true) :
    PS X (.Expr (.Call (.Attribute (.Name y yp) "reverse" ap) [] [] cp) pos) (rdS X xn W (ex cf sb (.rev i))) := by
  refine PS.weak (ps_expr (pe_bm0 PySem.F.plainAttrs_list PySem.F.slot_list_reverse PySem.F.type_list_reverse mt_reverse (own_var C h1 h2 h3) rfl hline)) fun D σ H q => ?_
  obtain ⟨He, Ox, ρ, xt, F, o⟩ := q
  simp only [ex] at o
  obtain ⟨xs, hi, o⟩ := own_fl o
  obtain ⟨a, vs, hs, hv, hn, hox, rs⟩ := F.sl i _ hi
  exact ⟨.ref a, hs, tyV_lst hv, a, vs, rfl, rfl, hv, o _ _ (F.write hi hs hv rs.reverse)⟩
/-- the i-th slot's list gives one item -/
def rdP (X : Cx) (xn : XN) (W : WXb) (cf : Nat → List T → Res T) (i : Nat) (es : List IE) : TE := fun σ H Q => ∃ He Ox ρ xt xs, FI X.K xn He Ox xt ρ σ H ∧ ρ[i]? = some (some (.own xs)) ∧ (match (evs cf es ρ).bd (popT xs) with
  | .ok p => ∀ v H', FI X.K xn He Ox xt (ρ.set i (some (.own p.2))) σ H' → RepL X.K (Pr Ox (ρ.set i (some (.own p.2))) σ) He H' 2 p.1 v → Q v H'
  | .exc c fs => fs = [] ∧ ∀ cv H', Same H H' → X.mg c = some cv → W cv none σ H'
  | .stuck => False)
theorem pr_own {Ox : Addr → Prop} {ρ : Env} {σ : L2.St} {i : Nat} {xs ys : List T} (hi : ρ[i]? = some (some (.own xs))) {b : Addr} (p : Pr Ox (ρ.set i (some (.own ys))) σ b) : Pr Ox ρ σ b := by
  refine p.imp id ?_
  rintro ⟨j, zs, q1, q2⟩
  by_cases hj : j = i
  · subst hj; exact ⟨j, xs, hi, q2⟩
  · rw [List.getElem?_set_ne (Ne.symm hj)] at q1
    exact ⟨j, zs, q1, q2⟩
theorem popT_split {xs ts : List T} {p : T × List T} (h : popT xs ts = .ok p) : ∃ kk, popAt xs.length ts = some kk ∧ xs[kk]? = some p.1 ∧ p.2 = xs.eraseIdx kk := by
  unfold popT at h
  split at h
  · rename_i kk e
    split at h
    · rename_i x e2
      cases h
      exact ⟨kk, e, e2, rfl⟩
    · cases h
  · cases h
theorem popT_noExc {xs ts : List T} {c fs} : popT xs ts ≠ .exc c fs := by
  intro h
  unfold popT at h
  split at h
  · split at h <;> cases h
  · cases h
theorem pop_after {K : PySem.W.Frag} {He H : Hp} {Ox : Addr → Prop} {xt : List (Nat × T × V)} {ρ : Env} {σ : L2.St} (F : FI K xn He Ox xt ρ σ H) {i kk : Nat} {xs : List T} {a : Addr} {vs : List V} {t : T} (hi : ρ[i]? = some (some (.own xs))) (hs : σ[i]? = some (some (.ref a))) (hv : H a = some (.lst vs))
    (rs : Reps K (lv (Pr Ox ρ σ) He 2) H xs vs) (ht : xs[kk]? = some t) : ∃ v, vs[kk]? = some v ∧ FI K xn He Ox xt (ρ.set i (some (.own (xs.eraseIdx kk)))) σ (upd H a (.lst (vs.eraseIdx kk))) ∧ RepL K (Pr Ox (ρ.set i (some (.own (xs.eraseIdx kk)))) σ) He (upd H a (.lst (vs.eraseIdx kk))) 2 t v := by
  obtain ⟨v, e1, r⟩ := rs.get ht
  refine ⟨v, e1, F.write hi hs hv (rs.eraseIdx kk), ?_⟩
  rw [repL_pos (by decide)]
  have m := Rep.move t v (stay_lst (n := 2) (o := .lst (vs.eraseIdx kk)) hv (show Pr Ox ρ σ a from .inr ⟨i, xs, hi, hs⟩)) (fun _ _ _ y => y) r
  exact m.weak fun b _ _ x => ⟨fun z => x.1 (pr_own hi z), x.2⟩
theorem pe_pop (C : Ctx X M sc cf k xn) (tk : Takes X W) {i : Nat} {es : List IE} {y : Str} {yp ap cp : Pos} {as : List Expr} (h1 : M.N[i]? = some y) (h2 : visB sc y = true) (h3 : dbgOk y = true) (hline : (ap.endLine == cp.line) = true) (h4 : chkEs M sc es as = true) (h5 : es.length ≤ 1) :
    PE X (.Call (.Attribute (.Name y yp) "pop" ap) as [] cp) (rdP X xn W cf i es) := by
  match es, as, h4, h5 with
  | [], [], _, _ =>
    refine PE.weak (pe_bm0 PySem.F.plainAttrs_list PySem.F.slot_list_pop PySem.F.type_list_pop mt_pop (own_var C h1 h2 h3) rfl hline) ?_
    intro σ H Q ⟨He, Ox, ρ, xt, xs, F, hi, o⟩
    obtain ⟨a, vs, hs, hv, hn, hox, rs⟩ := F.sl i _ hi
    simp only [evs, bd_ok] at o
    cases e : popT xs [] with
    | stuck => rw [e] at o; exact o.elim
    | exc c fs => exact absurd e popT_noExc
    | ok p =>
      rw [e] at o
      obtain ⟨kk, e1, e2, e3⟩ := popT_split e
      obtain ⟨t, zs⟩ := p
      dsimp only at e2 e3
      subst e3
      simp only [popAt] at e1
      split at e1
      · cases e1
      · cases e1
        obtain ⟨v, g1, g2, g3⟩ := pop_after F hi hs hv rs e2
        have hlen := rs.length
        have ed : vs.eraseIdx (xs.length - 1) = vs.dropLast := by rw [← hlen, PyProof.Rows.Copied.eraseIdx_last]
        refine ⟨.ref a, hs, tyV_lst hv, a, vs, v, rfl, rfl, hv, by rw [hlen]; exact g1, ?_⟩
        rw [← ed]
        exact o v _ g2 g3
  | [e0], [x0], h4, _ =>
    simp only [chkEs, Bool.and_eq_true] at h4
    refine PE.weak (pe_bm PySem.F.plainAttrs_list PySem.F.slot_list_pop PySem.F.type_list_pop mt_popAt (own_var C h1 h2 h3) (pa_cons (se e0 C tk h4.1.2) pa_nil (star_cons h4.1.1)) rfl (few1 h4.1.1) hline (star_cons h4.1.1) rfl) ?_
    intro σ H Q ⟨He, Ox, ρ, xt, xs, F, hi, o⟩
    obtain ⟨a, vs, hs, hv, hn, hox, rs⟩ := F.sl i _ hi
    refine ⟨.ref a, hs, tyV_lst hv, He, Ox, ρ, xt, F, ?_⟩
    simp only [evs] at o
    cases h6 : ev cf e0 ρ with
    | stuck => rw [h6] at o; exact o.elim
    | exc c fs => rw [h6] at o; exact o
    | ok t0 =>
      rw [h6] at o
      simp only [bd_ok] at o
      intro v0 H1 s1 r1 _
      cases e : popT xs [t0] with
      | stuck => rw [e] at o; exact o.elim
      | exc c fs => exact absurd e popT_noExc
      | ok p =>
        rw [e] at o
        obtain ⟨kk, e1, e2, e3⟩ := popT_split e
        obtain ⟨t, zs⟩ := p
        dsimp only at e2 e3
        subst e3
        cases t0 with
        | int j =>
          have ev0 := r1.int
          subst ev0
          simp only [popAt] at e1
          split at e1
          · rename_i hz
            have F1 := F.same s1
            obtain ⟨v, g1, g2, g3⟩ := pop_after F1 hi hs (s1 _ _ hv) (rs.same s1) e2
            obtain ⟨q1, q2, q3, q4⟩ := ixN_seq e1
            have hlen := rs.length
            have hzz := sizeLine_eq
            refine ⟨a, vs, j, kk, v, rfl, rfl, s1 _ _ hv, by omega, by omega, by rw [hlen]; exact q1, g1, ?_⟩
            exact o v _ g2 g3
          · cases e1
        | _ => cases e1
  | [], _ :: _, h4, _ => simp [chkEs] at h4
  | _ :: _, [], h4, _ => simp [chkEs] at h4
  | [_], _ :: _ :: _, h4, _ => simp [chkEs] at h4
  | _ :: _ :: _, _, _, h5 => simp at h5
theorem rdP_of {He H : Hp} {Ox : Addr → Prop} {ρ : Env} {xt : List (Nat × T × V)} {σ : L2.St} {D : Ends} {i : Nat} {es : List IE} {xs : List T} {g : T × List T → Fl} {Q : VK} (F : FI X.K xn He Ox xt ρ σ H) (hi : ρ[i]? = some (some (.own xs))) (o : OutS X.K X.mg xn W He Ox xt D (((evs cf es ρ).bd (popT xs)).fl ρ g))
    (kk : ∀ p v H', FI X.K xn He Ox xt (ρ.set i (some (.own p.2))) σ H' → RepL X.K (Pr Ox (ρ.set i (some (.own p.2))) σ) He H' 2 p.1 v → OutS X.K X.mg xn W He Ox xt D (g p) → Q v H') : rdP X xn W cf i es σ H Q := by
  refine ⟨He, Ox, ρ, xt, xs, F, hi, ?_⟩
  cases e : (evs cf es ρ).bd (popT xs) with
  | stuck => rw [e] at o; exact o
  | exc c fs => rw [e] at o; exact ⟨o.1, fun cv H' s q => o.2 cv σ H' (F.same s) q⟩
  | ok p => rw [e] at o; exact fun v H' F' r => kk p v H' F' r o
theorem s_asgPop (C : Ctx X M sc cf k xn) (tk : Takes X W) (S : Stk X sc) {i j : Nat} {es : List IE} {x y : Str} {p yp ap cp pos : Pos} {as : List Expr} (g1 : M.N[j]? = some x) (g2 : stB M sc x = true) (h1 : M.N[i]? = some y) (h2 : visB sc y = true) (h3 : dbgOk y = true) (hline : (ap.endLine == cp.line) = true) (h4 : chkEs M sc es as = true) (h5 : es.length ≤ 1) :
    PS X (.Assign [.Name x p] (.Call (.Attribute (.Name y yp) "pop" ap) as [] cp) pos) (rdS X xn W (ex cf sb (.asgPop j i es))) := by
  obtain ⟨l1, l2⟩ := loc_of C g2
  refine PS.weak (ps_set (by rw [C.N]; exact C.nd) (by rw [C.N]; exact g1) l1 (pe_pop C tk h1 h2 h3 hline h4 h5) rfl l2) fun D σ H q => ?_
  obtain ⟨He, Ox, ρ, xt, F, o⟩ := q
  simp only [ex] at o
  obtain ⟨xs, hi, o⟩ := own_fl o
  exact rdP_of F hi o fun p v H' F' r o' => o' _ _ (F'.setV r)
theorem s_appPop (C : Ctx X M sc cf k xn) (tk : Takes X W) {i j : Nat} {es : List IE} {y z : Str} {yp ap cp zp ap2 cp2 pos : Pos} {as : List Expr} (h1 : M.N[i]? = some y) (h2 : visB sc y = true) (h3 : dbgOk y = true) (hline : (ap.endLine == cp.line) = true)
    (g1 : M.N[j]? = some z) (g2 : visB sc z = true) (g3 : dbgOk z = true) (hline2 : (ap2.endLine == cp2.line) = true) (h4 : chkEs M sc es as = true) (h5 : es.length ≤ 1) :
    PS X (.Expr (.Call (.Attribute (.Name y yp) "append" ap) [.Call (.Attribute (.Name z zp) "pop" ap2) as [] cp2] [] cp) pos) (rdS X xn W (ex cf sb (.appPop i j es))) := by
  refine PS.weak (ps_expr (pe_bm PySem.F.plainAttrs_list PySem.F.slot_list_append PySem.F.type_list_append mt_append (own_var C h1 h2 h3) (pa_cons (pe_pop C tk g1 g2 g3 hline2 h4 h5) pa_nil (star_cons rfl)) rfl (few1 rfl) hline (star_cons rfl) rfl)) fun D σ H q => ?_
  obtain ⟨He, Ox, ρ, xt, F, o⟩ := q
  simp only [ex] at o
  obtain ⟨xs0, hi, o⟩ := own_fl o
  obtain ⟨ys, hj, o⟩ := own_fl o
  obtain ⟨a, vs, hs, hv, hn, hox, rs⟩ := F.sl i _ hi
  refine ⟨.ref a, hs, tyV_lst hv, ?_⟩
  refine rdP_of F hj o fun p v H' F' r o' => ?_
  obtain ⟨xs, hi', o'⟩ := own_fl o'
  obtain ⟨a', vs', hs', hv', _, _, rs'⟩ := F'.sl i _ hi'
  rw [hs] at hs'
  cases hs'
  rw [repL_pos (by decide)] at r
  have hlen := rs'.length
  by_cases hz : xs.length < sizeLine
  · rw [if_pos hz] at o'
    exact ⟨a, vs', v, rfl, rfl, hv', by rw [hlen]; exact hz, o' _ _ (F'.write hi' hs hv' (rs'.append (Reps.cons r Reps.nil)))⟩
  · rw [if_neg hz] at o'
    exact o'.elim
/-- op= of two integers -/
theorem ip_any {op : Operator} (h : op = .Add ∨ op = .Sub ∨ op = .Mult) : PIp X op (fun x y H Q => ∃ i j z, x = .int i ∧ y = .int j ∧ binT op (.int i) (.int j) = .ok (.int z) ∧ Q (.int z) H) := by
  intro pins s σ H x y v u Q I r1 r2 ⟨i, j, z, e1, e2, e3, q⟩
  rcases h with rfl | rfl | rfl
  · simp only [binT, Res.ok.injEq, T.int.injEq] at e3
    subst e3
    exact ip_add pins s σ H x y v u Q I r1 r2 ⟨i, j, e1, e2, q⟩
  · simp only [binT, Res.ok.injEq, T.int.injEq] at e3
    subst e3
    exact ip_sub pins s σ H x y v u Q I r1 r2 ⟨i, j, e1, e2, q⟩
  · simp only [binT] at e3
    split at e3
    · rename_i hm
      simp only [Res.ok.injEq, T.int.injEq] at e3
      subst e3
      exact iop_mul pins s σ H x y v u Q I r1 r2 ⟨i, j, e1, e2, hm.c, q⟩
    · cases e3
theorem bin_int {op : Operator} (h : op = .Add ∨ op = .Sub ∨ op = .Mult) {x y z : T} (e : binT op x y = .ok z) (hz : isScal z = true) : ∃ i j w, x = .int i ∧ y = .int j ∧ z = .int w := by
  rcases h with rfl | rfl | rfl <;> unfold binT at e <;> split at e <;> first | (cases e; done) | (rename_i heq; cases heq; done) | skip
  all_goals first | (split at e <;> first | (cases e; done) | skip) | skip
  all_goals first | (cases e; exact ⟨_, _, _, rfl, rfl, rfl⟩) | (cases e; simp [isScal] at hz; done) | skip
theorem s_aug (C : Ctx X M sc cf k xn) (tk : Takes X W) {i : Nat} {op : Operator} {e : IE} {x : Str} {p pos : Pos} {v : Expr} (h1 : M.N[i]? = some x) (h2 : stB M sc x = true) (ho : op = .Add ∨ op = .Sub ∨ op = .Mult) (h3 : chkE M sc e v = true) :
    PS X (.AugAssign (.Name x p) op v pos) (rdS X xn W (ex cf sb (.aug i op e))) := by
  obtain ⟨l1, l2⟩ := loc_of C h2
  refine PS.weak (ps_aug (by rw [C.N]; exact C.nd) (by rw [C.N]; exact h1) l1 (se e C tk h3) (ip_any ho) l2) fun D σ H q => ?_
  obtain ⟨He, Ox, ρ, xt, F, o⟩ := q
  simp only [ex, ev] at o
  split at o
  · rename_i s hs
    cases s <;> simp only [Sl.get] at o <;> first | exact o.elim | skip
    rename_i t
    obtain ⟨w, hw, r⟩ := F.sl i _ hs
    refine ⟨w, hw, He, Ox, ρ, xt, F, out_fl F o fun u v2 H1 s1 r1 _ o1 => ?_⟩
    cases e1 : binT op t u with
    | stuck => rw [e1] at o1; exact o1.elim
    | exc c fs => exact absurd e1 (binT_noExc op t u c fs)
    | ok z =>
      rw [e1] at o1
      simp only [fl_ok] at o1
      by_cases hz : isScal z = true
      · rw [if_pos hz] at o1
        obtain ⟨a, b, c, rfl, rfl, rfl⟩ := bin_int ho e1 hz
        have ew : w = .int a := r
        have ev2 := r1.int
        subst ew ev2
        refine ⟨a, b, c, rfl, rfl, e1, o1 _ _ ((F.same s1).setV ?_)⟩
        rw [repL_pos (by decide)]
        rfl
      · rw [if_neg hz] at o1
        exact o1.elim
  · exact o.elim
theorem s_setI (C : Ctx X M sc cf k xn) (tk : Takes X W) {i : Nat} {kx e : IE} {y : Str} {yp sp pos : Pos} {kk v : Expr} (h1 : M.N[i]? = some y) (h2 : visB sc y = true) (h3 : dbgOk y = true) (hns : notSlice kk = true) (h4 : chkE M sc kx kk = true) (hl : lvl e = 2) (h5 : chkE M sc e v = true) :
    PS X (.Assign [.Subscript (.Name y yp) kk sp] v pos) (rdS X xn W (ex cf sb (.setI i kx e))) := by
  refine PS.weak (ps_asg (se e C tk h5) (pg_sub (own_var C h1 h2 h3) (se kx C tk h4) set_list (by cases kk <;> first | (intro _; rfl) | (simp [notSlice] at hns))) (sw_not3 (tg := .Subscript (.Name y yp) kk sp) (by intro _ _ z; cases z)) rfl) fun D σ H q => ?_
  obtain ⟨He, Ox, ρ, xt, F, o⟩ := q
  simp only [ex] at o
  refine ⟨He, Ox, ρ, xt, F, out_fl F o fun t v H1 s1 r1 f o1 => ?_⟩
  obtain ⟨xs, hi, o1⟩ := own_fl o1
  have F1 := F.same s1
  obtain ⟨a, vs, hs, hv, hn, hox, rs⟩ := F1.sl i _ hi
  refine ⟨.ref a, hs, He, Ox, ρ, xt, F1, out_fl F1 o1 fun j w H2 s2 r2 _ o2 => ?_⟩
  rw [hl, repL_pos (by decide)] at r1
  cases e1 : setT xs j t with
  | stuck => rw [e1] at o2; exact o2.elim
  | exc c fs =>
    exfalso
    unfold setT at e1
    split at e1
    · split at e1 <;> cases e1
    · cases e1
  | ok zs =>
    rw [e1] at o2
    unfold setT at e1
    split at e1
    · rename_i jj _
      have ew := r2.int
      subst ew
      split at e1
      · rename_i n en
        cases e1
        have hlen := rs.length
        exact ⟨a, vs, jj, n, rfl, rfl, s2 _ _ hv, by rw [hlen]; exact en, o2 _ _ ((F1.same s2).write hi hs (s2 _ _ hv) ((rs.same s2).set n (r1.same s2)))⟩
      · cases e1
    · cases e1
end
end BV

/-! Statements that hold other statements. -/
namespace BV
open PySem PySem.Spec PyProof.Rows L2

theorem fl_bd {α β : Type} (r : Res α) (f : α → Res β) (ρ : Env) (g : β → Fl) : (r.bd f).fl ρ g = r.fl ρ fun a => (f a).fl ρ g := by cases r <;> rfl
section
variable {K : PySem.W.Frag} {mg : Str → Option Value} {xn xn' : XN} {W : WXb} {He H : Hp} {Ox : Addr → Prop} {xt xs : List (Nat × T × V)} {ρ : Env} {σ : L2.St} {D : Ends}
theorem FI.drop (F : FI K xn He Ox (xs ++ xt) ρ σ H) : FI K xn He Ox xt ρ σ H := ⟨F.len, F.sl, F.inj, F.base, F.oxd, fun e m => F.xts e (List.mem_append_right _ m)⟩
theorem SlOk.rex {P : Addr → Prop} (h : ∀ a c fs, xn a c fs → xn' a c fs) {s : Sl} {o : Option (Option V)} (x : SlOk K xn Ox P He H s o) : SlOk K xn' Ox P He H s o := by
  cases s with
  | exn c fs => obtain ⟨a, e, q⟩ := x; exact ⟨a, e, h a c fs q⟩
  | val t => exact x
  | par t => exact x
  | own xs => exact x
theorem FI.rex (h : ∀ a c fs, xn a c fs → xn' a c fs) (F : FI K xn He Ox xt ρ σ H) : FI K xn' He Ox xt ρ σ H := ⟨F.len, fun i s e => (F.sl i s e).rex h, F.inj, F.base, F.oxd, F.xts⟩
theorem noExn_get : ∀ {ρ : Env} {i : Nat} {c fs}, noExn ρ = true → ρ[i]? = some (some (.exn c fs)) → False
  | [], i, c, fs, _, e => by simp at e
  | s :: ρ, 0, c, fs, h, e => by
    simp only [List.getElem?_cons_zero, Option.some.injEq] at e
    subst e
    cases h
  | s :: ρ, i + 1, c, fs, h, e => by
    simp only [List.getElem?_cons_succ] at e
    have h' : noExn ρ = true := by
      cases s with
      | none => exact h
      | some s => cases s <;> first | exact h | cases h
    exact noExn_get h' e
theorem FI.unxn (F : FI K xn He Ox xt ρ σ H) (h : noExn ρ = true) : FI K xn' He Ox xt ρ σ H := by
  refine ⟨F.len, fun i s e => ?_, F.inj, F.base, F.oxd, F.xts⟩
  have x := F.sl i s e
  cases s with
  | exn c fs => exact (noExn_get h e).elim
  | val t => exact x
  | par t => exact x
  | own xs => exact x
theorem OutS.drop {xs : List (Nat × T × V)} {D' : Ends} : ∀ {r : Fl}, OutS K mg xn W He Ox xt D r → (∀ σ H, D.nx σ H → D'.nx σ H) → (∀ v H, D.rt v H → D'.rt v H) → (∀ σ H, D.bk σ H → D'.bk σ H) → (∀ σ H, D.ct σ H → D'.ct σ H) → OutS K mg xn W He Ox (xs ++ xt) D' r
  | .nx ρ, o, h1, h2, h3, h4 => fun σ H F => h1 _ _ (o σ H F.drop)
  | .bk ρ, o, h1, h2, h3, h4 => fun σ H F => h3 _ _ (o σ H F.drop)
  | .ct ρ, o, h1, h2, h3, h4 => fun σ H F => h4 _ _ (o σ H F.drop)
  | .rt t, o, h1, h2, h3, h4 => fun v H s r => h2 _ _ (o v H s r)
  | .ex c fs ρ, o, h1, h2, h3, h4 => ⟨o.1, fun cv σ H F q => o.2 cv σ H F.drop q⟩
  | .stuck, o, _, _, _, _ => o
end
section
variable {X : Cx} {M : Nm} {sc : Scope} {cf : Nat → List T → Res T} {k : Nat} {xn : XN} {W : WXb} {sb : Str → Str → Option Bool} {pos : Pos}
theorem s_ite {c : IE} {a b : List IS} {x : Expr} {y z : List Stmt} (hc : PT X x (TRd X xn W cf c)) (ha : PSs X y (rdS X xn W (exs cf sb a))) (hb : PSs X z (rdS X xn W (exs cf sb b))) : PS X (.If x y z pos) (rdS X xn W (ex cf sb (.ite c a b))) := by
  refine PS.weak (ps_if hc ha hb) fun D σ H q => ?_
  obtain ⟨He, Ox, ρ, xt, F, o⟩ := q
  simp only [ex] at o
  refine ⟨He, Ox, ρ, xt, F, out_flT F o fun kk H' s o' => ?_⟩
  cases kk with
  | true => rw [if_pos rfl] at o' ⊢; exact ⟨He, Ox, ρ, xt, F.same s, o'⟩
  | false => rw [if_neg Bool.false_ne_true] at o' ⊢; exact ⟨He, Ox, ρ, xt, F.same s, o'⟩
theorem s_ret {e : IE} {x : Expr} (he : PE X x (ERd X xn W cf e)) (hl : lvl e = 2) : PS X (.Return (some x) pos) (rdS X xn W (ex cf sb (.ret e))) := by
  refine PS.weak (ps_ret he) fun D σ H q => ?_
  obtain ⟨He, Ox, ρ, xt, F, o⟩ := q
  simp only [ex] at o
  refine ⟨He, Ox, ρ, xt, F, out_fl F o fun t v H' s r f o' => ?_⟩
  rw [hl, repL_pos (by decide)] at r
  exact o' v H' (F.base.trans s) (r.weak fun a _ _ y => y.2 rfl)
theorem s_retO (C : Ctx X M sc cf k xn) {i : Nat} {x : Str} {p : Pos} (h1 : M.N[i]? = some x) (h2 : visB sc x = true) (h3 : dbgOk x = true) : PS X (.Return (some (.Name x p)) pos) (rdS X xn W (ex cf sb (.retO i))) := by
  refine PS.weak (ps_ret (own_var C h1 h2 h3)) fun D σ H q => ?_
  obtain ⟨He, Ox, ρ, xt, F, o⟩ := q
  simp only [ex] at o
  obtain ⟨xs, hi, o⟩ := own_fl o
  obtain ⟨a, vs, hs, hv, hn, hox, rs⟩ := F.sl i _ hi
  exact ⟨.ref a, hs, o (.ref a) H F.base ⟨a, vs, rfl, ⟨hv, hn⟩, rs.weak fun b _ _ y => ⟨y.2 rfl, fun z => y.1 (by rw [z]; exact .inr ⟨i, xs, hi, hs⟩)⟩⟩⟩
theorem s_retN : PS X (.Return none pos) (rdS X xn W (ex cf sb .retN)) := by
  refine PS.weak ps_retN fun D σ H q => ?_
  obtain ⟨He, Ox, ρ, xt, F, o⟩ := q
  simp only [ex] at o
  exact o .non H F.base rfl
theorem s_expr {e : IE} {x : Expr} (he : PE X x (ERd X xn W cf e)) (h : isComp x = false) : PS X (.Expr x pos) (rdS X xn W (ex cf sb (.expr e))) := by
  refine PS.weak (ps_expr he (by cases x <;> first | rfl | cases h)) fun D σ H q => ?_
  obtain ⟨He, Ox, ρ, xt, F, o⟩ := q
  simp only [ex] at o
  exact ⟨He, Ox, ρ, xt, F, out_fl F o fun t v H' s r f o' => o' _ _ (F.same s)⟩
theorem s_raise (C : Ctx X M sc cf k xn) (tk : Takes X W) {c m : Str} {j : Nat} {p p2 p3 : Pos} (hc : M.calm = true) (hx : c ∈ M.excs) (g : glB sc c = true) (d : dbgOk c = true) : PS X (.Raise (some (.Call (.Name c p) [.Constant (.str m) j p2] [] p3)) none pos) (rdS X xn W (ex cf sb (.raise c))) := by
  obtain ⟨Ca, bmB, B, newId, initId, F0, q, gC, kC, r1, r2⟩ := C.g.exc c hx
  refine PS.weak (ps_raise (by rw [C.calm]; exact hc) tk (pmk_own F0 q gC kC (raises_own r1 r2) (gl_of C g) (dbg1 d))) fun D σ H q => ?_
  obtain ⟨He, Ox, ρ, xt, F, o⟩ := q
  simp only [ex] at o
  exact o.2 _ σ H F gC
theorem s_for (C : Ctx X M sc cf k xn) (tk : Takes X W) (S : Stk X sc) {tg : Tg} {sk : Sk} {ses : List IE} {body : List IS} {tg' iter : Expr} {b : List Stmt} {xs : List Expr} (hc : M.calm = true) (hi : iterArgs M sc tg' sk iter = some xs) (hs : chkEs M sc ses xs = true) (hset : notSet iter = true)
    (htk : tgOk tg (srcLv sk ses) = true) (hlv : (lvlsL ses).all (fun n => n != 0) = true) (htg : chkTg M sc tg tg' = true) (hb : PSs X b (rdS X xn W (exs cf sb body))) : PS X (.For tg' iter b [] pos) (rdS X xn W (ex cf sb (.for tg sk ses body))) := by
  have hI := si (xn := xn) (W := W) C hi hs (sa ses C tk hs) fun e h1 h2 => by
    rw [h1, h2] at hs
    simp only [chkEs, Bool.and_eq_true] at hs
    exact se e C tk hs.1.2
  refine PS.weak (ps_for S.po (by rw [C.calm]; exact hc) hI (pg_T C tg _ htg) hb (not_set hset)) fun D σ H q => ?_
  obtain ⟨He, Ox, ρ, xt, F, o⟩ := q
  simp only [ex] at o
  rw [← fl_bd] at o
  refine ⟨He, Ox, ρ, xt, F, ?_⟩
  show OutI X.K X.mg W (Pr Ox ρ σ) He σ (srcLv sk ses) H _ (lvlsL ses) ((evs cf ses ρ).bd (itemsT sk))
  cases hr : (evs cf ses ρ).bd (itemsT sk) with
  | stuck => rw [hr] at o; exact o
  | exc c fs => rw [hr] at o; exact ⟨o.1, fun cv H' s q => o.2 cv σ H' (F.same s) q⟩
  | ok xs =>
    rw [hr] at o
    simp only [fl_ok] at o
    intro J H1 srcs s1 src hsrc hz
    obtain ⟨G, Y, walk, gy⟩ := src
    have F1 := F.same s1
    refine for_it walk (fun i σ' H' => ∃ ρ', FI X.K xn He Ox (srcs ++ xt) ρ' σ' H' ∧ OutS X.K X.mg xn W He Ox xt D (forL (exs cf sb body) tg.set (xs.drop i) ρ')) ?_ ?_ ?_ ?_
    · refine ⟨ρ, ⟨F1.len, F1.sl, F1.inj, F1.base, F1.oxd, fun e m => ?_⟩, o⟩
      rcases List.mem_append.mp m with m | m
      · obtain ⟨r, hm⟩ := hsrc e m
        have h0 : e.1 ≠ 0 := by
          have := List.all_eq_true.mp hlv e.1 hm
          simpa using this
        rw [repL_pos h0] at r
        exact ⟨h0, r⟩
      · exact F1.xts e m
    · rintro i σ' H' hi' ⟨ρ', F', o'⟩
      exact (gy _ He H' F'.vw fun e m => by
        obtain ⟨h0, r⟩ := F'.xts e (List.mem_append_left _ m)
        rw [repL_pos h0]; exact r).1
    · rintro i x σ' H' H2 hlt ⟨ρ', F', o'⟩ y
      obtain ⟨s2, t, ht, rt⟩ := (gy _ He H' F'.vw fun e m => by
        obtain ⟨h0, r⟩ := F'.xts e (List.mem_append_left _ m)
        rw [repL_pos h0]; exact r).2 i x H2 hlt y
      have et : t = xs[i] := by
        rw [List.getElem?_eq_getElem hlt] at ht
        exact (Option.some.inj ht).symm
      subst et
      rw [List.drop_eq_getElem_cons hlt] at o'
      unfold forL at o'
      cases e1 : tg.set xs[i] ρ' with
      | none => rw [e1] at o'; exact o'.elim
      | some ρ1 =>
        rw [e1] at o'
        dsimp only at o'
        refine gT_mono tg (fi_T tg tg.slots htk (fun _ h => h) (F'.same s2) rt e1) fun σ2 H3 ⟨e2, F2, _⟩ => ?_
        subst e2
        refine ⟨He, Ox, ρ1, srcs ++ xt, F2, ?_⟩
        cases e3 : exs cf sb body ρ1 with
        | nx ρ2 => rw [e3] at o'; exact fun σ3 H3 F3 => ⟨ρ2, F3, o'⟩
        | ct ρ2 => rw [e3] at o'; exact fun σ3 H3 F3 => ⟨ρ2, F3, o'⟩
        | bk ρ2 => rw [e3] at o'; exact fun σ3 H3 F3 => o' _ _ F3.drop
        | rt t => rw [e3] at o'; exact o'
        | ex c fs ρ2 => rw [e3] at o'; exact ⟨o'.1, fun cv σ3 H3 F3 q => o'.2 cv σ3 H3 F3.drop q⟩
        | stuck => rw [e3] at o'; exact o'
    · rintro σ' H' ⟨ρ', F', o'⟩
      rw [List.drop_length] at o'
      exact o' _ _ F'.drop
theorem out_flB {r : Res Bool} {He H : Hp} {Ox : Addr → Prop} {ρ : Env} {xt : List (Nat × T × V)} {σ : L2.St} {D : Ends} {g : Bool → Fl} {Q : Bool → Hp → Prop} (F : FI X.K xn He Ox xt ρ σ H) (o : OutS X.K X.mg xn W He Ox xt D (r.fl ρ g))
    (kk : ∀ b H', Same H H' → OutS X.K X.mg xn W He Ox xt D (g b) → Q b H') : OutT X.mg W σ H Q r := by
  cases r with
  | ok b => exact fun H' s => kk b H' s o
  | exc c fs => exact ⟨o.1, fun cv H' s q => o.2 cv σ H' (F.same s) q⟩
  | stuck => exact o
theorem s_while (S : Stk X sc) {c : IE} {body : List IS} {x : Expr} {b : List Stmt} (hc : PT X x (TRd X xn W cf c)) (hb : PSs X b (rdS X xn W (exs cf sb body))) : PS X (.While x b [] pos) (rdS X xn W (ex cf sb (.while c body))) := by
  refine PS.weak (ps_while S.po hc hb) fun D σ H q => ?_
  obtain ⟨He, Ox, ρ, xt, F, o⟩ := q
  simp only [ex] at o
  refine ⟨fun m σ' H' => ∃ ρ', FI X.K xn He Ox xt ρ' σ' H' ∧ OutS X.K X.mg xn W He Ox xt D (whl (fun ρ => (ev cf c ρ).bd truthR) (exs cf sb body) m ρ'), ⟨wfuel, ρ, F, o⟩, ?_⟩
  rintro m σ' H' ⟨ρ', F', o'⟩
  cases m with
  | zero => exact o'.elim
  | succ m =>
    unfold whl at o'
    refine ⟨He, Ox, ρ', xt, F', out_flB F' o' fun kk H1 s1 o1 => ?_⟩
    cases kk with
    | true =>
      rw [if_pos rfl] at o1 ⊢
      refine ⟨fun σ2 H2 => ∃ ρ2, FI X.K xn He Ox xt ρ2 σ2 H2 ∧ OutS X.K X.mg xn W He Ox xt D (whl (fun ρ => (ev cf c ρ).bd truthR) (exs cf sb body) m ρ2), fun σ2 H2 n2 => ⟨m, Nat.lt_succ_self m, n2⟩, ?_⟩
      refine ⟨He, Ox, ρ', xt, F'.same s1, ?_⟩
      cases e3 : exs cf sb body ρ' with
      | nx ρ2 => rw [e3] at o1; exact fun σ3 H3 F3 => ⟨ρ2, F3, o1⟩
      | ct ρ2 => rw [e3] at o1; exact fun σ3 H3 F3 => ⟨ρ2, F3, o1⟩
      | bk ρ2 => rw [e3] at o1; exact o1
      | rt t => rw [e3] at o1; exact o1
      | ex c fs ρ2 => rw [e3] at o1; exact o1
      | stuck => rw [e3] at o1; exact o1
    | false =>
      rw [if_neg Bool.false_ne_true] at o1 ⊢
      exact o1 _ _ (F'.same s1)

/-! ### try -/
/-- the handled exception at a -/
def xnS (mg : Str → Option Value) (a : Addr) (cls : Value) (d : Option Addr) : XN := fun a' c fs => a' = a ∧ fs = [] ∧ d = none ∧ ∃ D, cls = .ref D ∧ mg c = some (.ref D)
theorem Glob.hot {prog : Program} {w : World} {K : PySem.W.Frag} {mg : Str → Option Value} {base : Heap} (g : Glob prog w K mg base M cf k) : Glob prog w K mg base M.hot cf k := ⟨g.fn, g.const, g.blt, g.fact, g.exc, g.subs⟩
theorem ctx_tr (C : Ctx X M sc cf k xn) (hc : M.calm = true) (pn : List (Addr × Obj)) (xe : Value → Shared → Prop) : Ctx (X.tr pn xe) M sc cf k xn :=
  ⟨C.N, C.nd, C.sc, C.calm, C.g, C.room, C.hu70, C.fn, fun a c fs h => absurd (C.exn a c fs h).1 (by rw [hc]; decide)⟩
theorem ctx_suite (C : Ctx X M sc cf k xn) {a : Addr} {oe : Obj} {cls : Value} {d : Option Addr} {pn : List (Addr × Obj)} (hz : Zc cls d oe) (hv : ∃ vs, oe.data = .fields vs) : Ctx (X.suite a ((a, oe) :: pn)) M.hot sc cf k (xnS X.mg a cls d) :=
  ⟨C.N, C.nd, C.sc, rfl, C.g.hot, fun z => (by cases z), C.hu70, C.fn, fun a' c fs ⟨h1, h2, h3, D, h4, h5⟩ => ⟨rfl, X, D, oe, pn, by rw [h1], h5, by rw [← h4, ← h3]; exact hz, hv⟩⟩
theorem sub_mem {subs : List (Str × Str × Bool)} {a c : Str} {b : Bool} (h : sub? subs a c = some b) : (a, c, b) ∈ subs := by
  unfold sub? at h
  cases e : subs.find? fun p => p.1 == a && p.2.1 == c with
  | none => rw [e] at h; cases h
  | some p =>
    rw [e] at h
    obtain ⟨p1, p2, p3⟩ := p
    cases h
    have q := List.find?_some e
    simp only [Bool.and_eq_true, beq_iff_eq] at q
    have m := List.mem_of_find?_eq_some e
    rw [q.1, q.2] at m
    exact m
/-- the class of a clause -/
theorem names_of (C : Ctx X M sc cf k xn) {c : Str} (h : (M.subs.any fun p => p.2.1 == c) = true) (g : glB sc c = true) (d : dbgOk c = true) : ∃ yv, Names X c yv ∧ ∀ (x : Str) (b : Bool) (cv : Value), (x, c, b) ∈ M.subs → X.mg x = some cv → PySem.W.exmOne X.K cv yv = some b := by
  obtain ⟨⟨x, y, b⟩, hm, he⟩ := List.any_eq_true.mp h
  have e := beq_iff_eq.mp he
  dsimp only at e
  subst e
  obtain ⟨Ca, yv, m1, _, hy, _, _, _⟩ := C.g.subs x y b hm
  refine ⟨yv, ⟨gl_of C g, dbg1 d, ?_⟩, fun x2 b2 cv hm2 hcv => ?_⟩
  · rcases hy with hy | hy
    · exact .inl hy
    · exact .inr hy
  · obtain ⟨Ca2, yv2, m2, _, hy2, _, ex2, _⟩ := C.g.subs x2 y b2 hm2
    rw [hcv] at m2
    cases m2
    have : yv = yv2 := by
      rcases hy with hy | hy <;> rcases hy2 with hy2 | hy2
      · rw [hy] at hy2; exact Option.some.inj hy2
      · rw [hy] at hy2; cases hy2.1
      · rw [hy2] at hy; cases hy.1
      · rw [hy.2.1] at hy2; exact Option.some.inj hy2.2.1
    rw [this]
    exact ex2
theorem out_clean {mg : Str → Option Value} {K : PySem.W.Frag} {xn xn' : XN} {W W' : WXb} {He : Hp} {Ox : Addr → Prop} {xt : List (Nat × T × V)} {D : Ends} {r : Fl} (o : OutS K mg xn W He Ox xt D (cleanF (unexc r))) : OutS K mg xn' W' He Ox xt D r := by
  cases r with
  | nx ρ =>
    simp only [unexc, cleanF] at o
    split at o
    · rename_i h; exact fun σ H F => o σ H (F.unxn h)
    · exact o.elim
  | bk ρ =>
    simp only [unexc, cleanF] at o
    split at o
    · rename_i h; exact fun σ H F => o σ H (F.unxn h)
    · exact o.elim
  | ct ρ =>
    simp only [unexc, cleanF] at o
    split at o
    · rename_i h; exact fun σ H F => o σ H (F.unxn h)
    · exact o.elim
  | rt t => exact o
  | ex c fs ρ => exact o.elim
  | stuck => exact o
theorem out_forget {mg : Str → Option Value} {K : PySem.W.Frag} {xn xn' : XN} {W W' : WXb} {He : Hp} {Ox : Addr → Prop} {xt : List (Nat × T × V)} {D : Ends} {i : Nat} {r : Fl} (o : OutS K mg xn W He Ox xt D (cleanF (forgetF i (unexc r)))) :
    OutS K mg xn' W' He Ox xt { nx := fun σ' H' => D.nx (σ'.set i none) H', rt := D.rt, bk := fun σ' H' => D.bk (σ'.set i none) H', ct := fun σ' H' => D.ct (σ'.set i none) H' } r := by
  cases r with
  | nx ρ =>
    simp only [unexc, forgetF, cleanF] at o
    split at o
    · rename_i h; exact fun σ H F => o _ H ((F.set i none none (fun _ e => nomatch e) (fun _ e => nomatch e)).unxn h)
    · exact o.elim
  | bk ρ =>
    simp only [unexc, forgetF, cleanF] at o
    split at o
    · rename_i h; exact fun σ H F => o _ H ((F.set i none none (fun _ e => nomatch e) (fun _ e => nomatch e)).unxn h)
    · exact o.elim
  | ct ρ =>
    simp only [unexc, forgetF, cleanF] at o
    split at o
    · rename_i h; exact fun σ H F => o _ H ((F.set i none none (fun _ e => nomatch e) (fun _ e => nomatch e)).unxn h)
    · exact o.elim
  | rt t => exact o
  | ex c fs ρ => exact o.elim
  | stuck => exact o
theorem s_try (C : Ctx X M sc cf k xn) (tk : Takes X W) (S : Stk X sc) {body suite : List IS} {c : Str} {b s : List Stmt} {s0 : Stmt} {np p' : Pos} (hc : M.calm = true) (hs : (M.subs.any fun p => p.2.1 == c) = true) (g : glB sc c = true) (d : dbgOk c = true)
    (hb : ∀ (W' : WXb) (pn : List (Addr × Obj)) (xe : Value → Shared → Prop), Ctx (X.tr pn xe) M sc cf k xn → Takes (X.tr pn xe) W' → Stk (X.tr pn xe) sc → PSs (X.tr pn xe) b (rdS (X.tr pn xe) xn W' (exs cf (sub? M.subs) body)))
    (hu : ∀ (a : Addr) (oe : Obj) (pn : List (Addr × Obj)) (xn' : XN), Ctx (X.suite a ((a, oe) :: pn)) M.hot sc cf k xn' → Stk (X.suite a ((a, oe) :: pn)) sc → PSs (X.suite a ((a, oe) :: pn)) (s0 :: s) (rdS (X.suite a ((a, oe) :: pn)) xn' W0 (exs cf (sub? M.subs) suite))) :
    PS X (.Try b [.ExceptHandler (some (.Name c np)) none (s0 :: s) p'] [] [] pos) (rdS X xn W (ex cf (sub? M.subs) (.try body c none suite))) := by
  obtain ⟨yv, hn, hex⟩ := names_of C hs g d
  refine PS.weak (ps_try_only (tb := fun W' => rdS X xn W' (exs cf (sub? M.subs) body)) (ts := fun a cls d => rdS X (xnS X.mg a cls d) W0 (exs cf (sub? M.subs) suite)) S.stk S.fr hn tk
    (fun W' pn xe tk' po => hb W' pn xe (ctx_tr C hc pn xe) tk' ⟨S.stk, S.fr, po, S.kind⟩) (fun a oe cls d pn hz hv => hu a oe pn _ (ctx_suite C hz hv) ⟨S.stk, S.fr, PassesOwn.never, S.kind⟩)) fun D σ H q => ?_
  obtain ⟨He, Ox, ρ, xt, F, o⟩ := q
  refine ⟨He, Ox, ρ, xt, F, ?_⟩
  simp only [ex] at o
  cases e : exs cf (sub? M.subs) body ρ with
  | nx ρ2 => rw [e] at o; exact o
  | bk ρ2 => rw [e] at o; exact o
  | ct ρ2 => rw [e] at o; exact o
  | rt t => rw [e] at o; exact o
  | stuck => rw [e] at o; exact o
  | ex c' fs ρ2 =>
    rw [e] at o
    cases fs with
    | cons _ _ => exact o.elim
    | nil =>
      simp only [caught] at o
      refine ⟨rfl, fun cv σ2 H2 F2 hcv => ?_⟩
      cases hsb : sub? M.subs c' c with
      | none => rw [hsb] at o; exact o.elim
      | some bb =>
        rw [hsb] at o
        refine ⟨bb, hex c' bb cv (sub_mem hsb) hcv, fun hb1 a ha => ?_, fun hb1 => ?_⟩
        · subst hb1
          refine ⟨He, Ox, ρ2, xt, F2.rex fun a c fs h => absurd (C.exn a c fs h).1 (by rw [hc]; decide), ?_⟩
          exact out_clean o
        · subst hb1
          exact o.2 cv σ2 H2 F2 hcv
theorem s_tryAs (C : Ctx X M sc cf k xn) (tk : Takes X W) (S : Stk X sc) {body suite : List IS} {c n : Str} {i : Nat} {b s : List Stmt} {s0 : Stmt} {np p' : Pos} (hc : M.calm = true) (hs : (M.subs.any fun p => p.2.1 == c) = true) (g : glB sc c = true) (d : dbgOk c = true) (hi : M.N[i]? = some n) (hl : sc.names.lookup n = some .local)
    (hb : ∀ (W' : WXb) (pn : List (Addr × Obj)) (xe : Value → Shared → Prop), Ctx (X.tr pn xe) M sc cf k xn → Takes (X.tr pn xe) W' → Stk (X.tr pn xe) sc → PSs (X.tr pn xe) b (rdS (X.tr pn xe) xn W' (exs cf (sub? M.subs) body)))
    (hu : ∀ (a : Addr) (oe : Obj) (pn : List (Addr × Obj)) (xn' : XN), Ctx (X.suite a ((a, oe) :: pn)) M.hot sc cf k xn' → Stk (X.suite a ((a, oe) :: pn)) sc → PSs (X.suite a ((a, oe) :: pn)) (s0 :: s) (rdS (X.suite a ((a, oe) :: pn)) xn' W0 (exs cf (sub? M.subs) suite))) :
    PS X (.Try b [.ExceptHandler (some (.Name c np)) (some n) (s0 :: s) p'] [] [] pos) (rdS X xn W (ex cf (sub? M.subs) (.try body c (some i) suite))) := by
  obtain ⟨yv, hn, hex⟩ := names_of C hs g d
  refine PS.weak (ps_try_as (i := i) (tb := fun W' => rdS X xn W' (exs cf (sub? M.subs) body)) (ts := fun a cls d => rdS X (xnS X.mg a cls d) W0 (exs cf (sub? M.subs) suite)) S.stk S.fr (by rw [C.N]; exact C.nd) (by rw [C.N]; exact hi) (by show X.env.scope.names.lookup n = _; rw [C.sc]; exact hl) hn tk
    (fun W' pn xe tk' po => hb W' pn xe (ctx_tr C hc pn xe) tk' ⟨S.stk, S.fr, po, S.kind⟩) (fun a oe cls d pn hz hv => hu a oe pn _ (ctx_suite C hz hv) ⟨S.stk, S.fr, PassesOwn.never, S.kind⟩)) fun D σ H q => ?_
  obtain ⟨He, Ox, ρ, xt, F, o⟩ := q
  refine ⟨He, Ox, ρ, xt, F, ?_⟩
  simp only [ex] at o
  cases e : exs cf (sub? M.subs) body ρ with
  | nx ρ2 => rw [e] at o; exact o
  | bk ρ2 => rw [e] at o; exact o
  | ct ρ2 => rw [e] at o; exact o
  | rt t => rw [e] at o; exact o
  | stuck => rw [e] at o; exact o
  | ex c' fs ρ2 =>
    rw [e] at o
    cases fs with
    | cons _ _ => exact o.elim
    | nil =>
      simp only [caught] at o
      refine ⟨rfl, fun cv σ2 H2 F2 hcv => ?_⟩
      cases hsb : sub? M.subs c' c with
      | none => rw [hsb] at o; exact o.elim
      | some bb =>
        rw [hsb] at o
        obtain ⟨Ca, _, hm, _⟩ := C.g.subs c' c bb (sub_mem hsb)
        refine ⟨bb, hex c' bb cv (sub_mem hsb) hcv, fun hb1 a ha => ?_, fun hb1 => ?_⟩
        · subst hb1
          have F3 : FI X.K (xnS X.mg a cv none) He Ox xt ρ2 σ2 H2 := F2.rex fun a c fs h => absurd (C.exn a c fs h).1 (by rw [hc]; decide)
          refine ⟨He, Ox, _, xt, F3.set i (some (.exn c' [])) (some (.ref a)) (by intro _ z; cases z) (fun u z => by
            cases z
            rw [hcv] at hm
            exact ⟨a, rfl, rfl, rfl, rfl, Ca, Option.some.inj hm, by rw [hcv, hm]⟩), ?_⟩
          exact out_forget o
        · subst hb1
          exact o.2 cv σ2 H2 F2 hcv
end
end BV

/-! Every statement that is checked keeps to its value. -/
namespace BV
open PySem PySem.Spec PyProof.Rows L2

def SS (s : IS) : Prop := ∀ {X : Cx} {M : Nm} {sc : Scope} {cf : Nat → List T → Res T} {k : Nat} {xn : XN} {W : WXb} (C : Ctx X M sc cf k xn) (tk : Takes X W) (S : Stk X sc) {x : Stmt}, chkS M sc s x = true → PS X x (rdS X xn W (ex cf (sub? M.subs) s))
def SSs (ss : List IS) : Prop := ∀ {X : Cx} {M : Nm} {sc : Scope} {cf : Nat → List T → Res T} {k : Nat} {xn : XN} {W : WXb} (C : Ctx X M sc cf k xn) (tk : Takes X W) (S : Stk X sc) {xs : List Stmt}, chkSs M sc ss xs = true → PSs X xs (rdS X xn W (exs cf (sub? M.subs) ss))
theorem hot_subs (M : Nm) : M.hot.subs = M.subs := rfl
theorem ss_step (s : IS) (ih : ∀ s', sizeOf s' < sizeOf s → SS s') (ihl : ∀ ss, sizeOf ss < sizeOf s → SSs ss) : SS s := by
  intro X M sc cf k xn W C tk S x h
  unfold chkS at h
  split at h
  · simp only [Bool.and_eq_true, beq_iff_eq] at h
    obtain ⟨⟨⟨⟨h1, h2⟩, h3⟩, h4⟩, h5⟩ := h
    exact s_asg C tk S h1 h2 h4 (by simpa [isCmp] using h5) h3
  · simp only [Bool.and_eq_true, beq_iff_eq, bne_iff_ne, ne_eq] at h
    obtain ⟨⟨⟨⟨h1, h2⟩, h3⟩, h4⟩, h5⟩ := h
    exact s_asgP C tk S h1 h2 h4 (by simpa [isCmp] using h5) h3
  · simp only [Bool.and_eq_true, beq_iff_eq, decide_eq_true_eq] at h
    obtain ⟨⟨⟨⟨⟨⟨h1, h2⟩, h0⟩, h3⟩, h6⟩, h4⟩, h5⟩ := h
    exact s_asgO C tk S h1 h2 h4 (by simpa [isCmp] using h5) h3 h6 (fun _ => trivial)
  · simp only [Bool.and_eq_true, Bool.not_eq_true', bne_iff_ne, ne_eq] at h
    obtain ⟨⟨⟨⟨h1, h2⟩, h3⟩, h4⟩, h5⟩ := h
    exact s_asgT C tk h1 h2 h3 h4 h5
  · simp only [Bool.and_eq_true, beq_iff_eq, decide_eq_true_eq] at h
    obtain ⟨⟨⟨⟨⟨⟨⟨⟨⟨h1, h2⟩, h3⟩, h4⟩, h5⟩, rfl⟩, h6⟩, h7⟩, h8⟩, h9⟩ := h
    exact s_asgPop C tk S h1 h2 h3 h4 h5 (by rw [h6]; simp) h8 h9
  · simp only [Bool.and_eq_true, beq_iff_eq, decide_eq_true_eq] at h
    obtain ⟨⟨⟨⟨h1, h2⟩, rfl⟩, h3⟩, h4⟩ := h
    exact s_aug C tk h1 h2 (by simpa [or_assoc] using h3) h4
  · simp only [Bool.and_eq_true, beq_iff_eq, decide_eq_true_eq] at h
    obtain ⟨⟨⟨⟨⟨⟨⟨h1, h2⟩, h3⟩, rfl⟩, h4⟩, h5⟩, h6⟩, h7⟩ := h
    exact s_app C tk h1 h2 h3 (by rw [h4]; simp) h5 h6 h7
  · simp only [Bool.and_eq_true, beq_iff_eq, decide_eq_true_eq, ne_eq] at h
    obtain ⟨⟨⟨⟨⟨⟨⟨⟨⟨⟨⟨h1, h2⟩, h3⟩, rfl⟩, h4⟩, h5⟩, h6⟩, h7⟩, rfl⟩, h8⟩, h9⟩, h10⟩ := h
    exact s_appPop C tk h1 h2 h3 (by rw [h4]; simp) h5 h6 h7 (by rw [h8]; simp) h9 h10
  · simp only [Bool.and_eq_true, beq_iff_eq] at h
    obtain ⟨⟨⟨⟨⟨⟨h1, h2⟩, h3⟩, h4⟩, h5⟩, h6⟩, h7⟩ := h
    exact s_setI C tk h1 h2 h3 h4 h5 h6 h7
  · simp only [Bool.and_eq_true, beq_iff_eq] at h
    obtain ⟨⟨⟨⟨h1, h2⟩, h3⟩, rfl⟩, h4⟩ := h
    exact s_rev C h1 h2 h3 (by rw [h4]; simp)
  · simp only [Bool.and_eq_true] at h
    obtain ⟨⟨⟨h1, h2⟩, h3⟩, h4⟩ := h
    exact s_ite (st _ C tk h2 h1).1 (ihl _ (by simp; try omega) C tk S h3) (ihl _ (by simp; try omega) C tk S h4)
  · rename_i tg sk ses body tg' iter b pos
    simp only [Bool.and_eq_true] at h
    obtain ⟨⟨⟨⟨⟨⟨h1, h2⟩, h3⟩, h4⟩, h5⟩, h6⟩, h7⟩ := h
    split at h2
    · rename_i xs hxs
      exact s_for C tk S h1 hxs h2 h3 h4 h5 h6 (ihl _ (by simp; try omega) C tk S h7)
    · cases h2
  · simp only [Bool.and_eq_true] at h
    obtain ⟨⟨h1, h2⟩, h3⟩ := h
    exact s_while S (st _ C tk h2 h1).1 (ihl _ (by simp; try omega) C tk S h3)
  · simp only [Bool.and_eq_true, beq_iff_eq] at h
    exact s_ret (se _ C tk h.2) h.1
  · simp only [Bool.and_eq_true, beq_iff_eq] at h
    obtain ⟨⟨h1, h2⟩, h3⟩ := h
    exact s_retO C h1 h2 h3
  · exact s_retN
  · simp only [Bool.and_eq_true, beq_iff_eq, List.contains_iff_mem] at h
    obtain ⟨⟨⟨⟨h1, rfl⟩, h2⟩, h3⟩, h4⟩ := h
    exact s_raise C tk h1 h2 h3 h4
  · simp only [Bool.and_eq_true, beq_iff_eq] at h
    obtain ⟨⟨⟨⟨⟨⟨h1, rfl⟩, h2⟩, h3⟩, h4⟩, h5⟩, h6⟩ := h
    exact s_try C tk S h1 h2 h3 h4 (fun W' pn xe C' tk' S' => ihl _ (by simp; try omega) C' tk' S' h5) (fun a oe pn xn' C' S' => ihl _ (by simp; try omega) C' takes0 S' h6)
  · simp only [Bool.and_eq_true, beq_iff_eq] at h
    obtain ⟨⟨⟨⟨⟨⟨⟨⟨h1, rfl⟩, h2⟩, h3⟩, h4⟩, h5⟩, h6⟩, h7⟩, h8⟩ := h
    exact s_tryAs C tk S h1 h2 h3 h4 h7 h8 (fun W' pn xe C' tk' S' => ihl _ (by simp; try omega) C' tk' S' h5) (fun a oe pn xn' C' S' => ihl _ (by simp; try omega) C' takes0 S' h6)
  · simp only [Bool.and_eq_true, Bool.not_eq_true'] at h
    exact s_expr (se _ C tk h.2) h.1
  · exact PS.weak ps_pass fun D σ H ⟨He, Ox, ρ, xt, F, o⟩ => o σ H F
  · exact PS.weak ps_doc fun D σ H ⟨He, Ox, ρ, xt, F, o⟩ => o σ H F
  · exact PS.weak ps_break fun D σ H ⟨He, Ox, ρ, xt, F, o⟩ => o σ H F
  · exact PS.weak ps_continue fun D σ H ⟨He, Ox, ρ, xt, F, o⟩ => o σ H F
  · cases h
def frz? : IS → Bool
  | .freeze _ => true
  | _ => false
theorem chkSs_cons {M : Nm} {sc : Scope} {s : IS} {ss : List IS} {xs : List Stmt} (hf : frz? s = false) (h : chkSs M sc (s :: ss) xs = true) : ∃ x r, xs = x :: r ∧ chkS M sc s x = true ∧ chkSs M sc ss r = true := by
  cases xs with
  | nil =>
    unfold chkSs at h
    cases s <;> simp [frz?] at hf h
  | cons x r =>
    unfold chkSs at h
    cases s <;> first | (simp [frz?] at hf; done) | (simp only [Bool.and_eq_true] at h; exact ⟨x, r, rfl, h.1, h.2⟩)
theorem ssl_step : ∀ (ss : List IS) (ih : ∀ s ∈ ss, SS s), SSs ss
  | [], ih, X, M, sc, cf, k, xn, W, C, tk, S, [], h => by
    refine PSs.weak pss_nil fun D σ H q => ?_
    obtain ⟨He, Ox, ρ, xt, F, o⟩ := q
    simp only [exs] at o
    exact o σ H F
  | [], ih, X, M, sc, cf, k, xn, W, C, tk, S, _ :: _, h => by simp [chkSs] at h
  | s :: ss, ih, X, M, sc, cf, k, xn, W, C, tk, S, xs, h => by
    by_cases hf : frz? s = true
    · cases s <;> first | (simp [frz?] at hf; done) | skip
      rename_i i
      simp only [chkSs] at h
      refine PSs.weak (ssl_step ss (fun s hs => ih s (by simp [hs])) C tk S h) fun D σ H q => ?_
      obtain ⟨He, Ox, ρ, xt, F, o⟩ := q
      simp only [exs, ex] at o
      cases e : ownAt ρ i with
      | stuck => rw [e] at o; exact o.elim
      | exc c fs => exact absurd e ownAt_noExc
      | ok zs =>
        rw [e] at o
        exact ⟨He, Ox, _, xt, F.freeze (ownAt_ok e), o⟩
    · rw [Bool.not_eq_true] at hf
      obtain ⟨x, r, rfl, h1, h2⟩ := chkSs_cons hf h
      refine PSs.weak (pss_cons (ih s (by simp) C tk S h1) (ssl_step ss (fun s hs => ih s (by simp [hs])) C tk S h2)) fun D σ H q => ?_
      obtain ⟨He, Ox, ρ, xt, F, o⟩ := q
      simp only [exs] at o
      refine ⟨He, Ox, ρ, xt, F, ?_⟩
      cases e : ex cf (sub? M.subs) s ρ with
      | nx ρ2 => rw [e] at o; exact fun σ2 H2 F2 => ⟨He, Ox, ρ2, xt, F2, o⟩
      | bk ρ2 => rw [e] at o; exact o
      | ct ρ2 => rw [e] at o; exact o
      | rt t => rw [e] at o; exact o
      | ex c fs ρ2 => rw [e] at o; exact o
      | stuck => rw [e] at o; exact o
theorem ss_all : ∀ (n : Nat), (∀ s : IS, sizeOf s < n → SS s) ∧ ∀ ss : List IS, sizeOf ss < n → SSs ss
  | 0 => ⟨fun s h => by omega, fun s h => by omega⟩
  | n + 1 => by
    have ih := ss_all n
    have hs : ∀ s : IS, sizeOf s < n + 1 → SS s := fun s h => ss_step s (fun s' h' => ih.1 s' (by omega)) (fun ss h' => ih.2 ss (by omega))
    exact ⟨hs, fun ss h => ssl_step ss fun s hm => hs s (by have := List.sizeOf_lt_of_mem hm; omega)⟩
theorem sss (ss : List IS) : SSs ss := (ss_all _).2 ss (Nat.lt_succ_self _)
end BV

/-! Defs by their plain functions; the law. -/
namespace BV
open PySem PySem.Spec PyProof.Rows L2

/-- the names of a def -/
def Nm.of (M : Nm) (N : List Str) : Nm := { M with N := N, calm := true, top := true }
def xn0 : XN := fun _ _ _ => False
section
variable {P : Program} {w : World} {K : PySem.W.Frag} {mg : Str → Option Value} {base : Heap} {M : Nm} {G : Pg}
theorem startE_get {n i : Nat} {ts : List T} {s : Sl} (h : (startE n ts)[i]? = some (some s)) : ∃ t, ts[i]? = some t ∧ s = .par t := by
  unfold startE at h
  by_cases hi : i < ts.length
  · rw [List.getElem?_append_left (by simpa using hi), List.getElem?_map, List.getElem?_eq_getElem hi] at h
    simp only [Option.map_some, Option.some.injEq] at h
    exact ⟨ts[i], List.getElem?_eq_getElem hi, h.symm⟩
  · rw [List.getElem?_append_right (by simpa using hi)] at h
    have := List.getElem?_eq_some_iff.mp h
    obtain ⟨h1, h2⟩ := this
    simp at h2
theorem start_get {N : List Str} {vs : List V} {i : Nat} {v : V} (h : vs[i]? = some v) : (L2.start N vs)[i]? = some (some v) := by
  have hi : i < vs.length := (List.getElem?_eq_some_iff.mp h).1
  unfold L2.start
  rw [List.getElem?_append_left (by simpa using hi), List.getElem?_map, h]
  rfl
theorem fi_start {N : List Str} {ts : List T} {vs : List V} {H : Hp} (r : Reps K (fun _ => True) H ts vs) : FI K xn0 H (fun _ => False) [] (startE N.length ts) (L2.start N vs) H := by
  have hl := r.length
  have noOwn : ∀ a, ¬ Own (startE N.length ts) (L2.start N vs) a := fun a ⟨i, xs, e, _⟩ => by
    obtain ⟨t, _, h⟩ := startE_get e
    cases h
  refine ⟨?_, fun i s e => ?_, fun i j xs ys a e _ _ _ => ?_, Same.refl H, fun a z => z.elim, fun e m => by cases m⟩
  · unfold L2.start startE
    simp [hl]
  · obtain ⟨t, e1, rfl⟩ := startE_get e
    obtain ⟨v, e2, rv⟩ := r.get e1
    refine ⟨v, start_get e2, rv.weak fun a _ _ _ => ⟨fun p => ?_, fun z => absurd z (by decide)⟩⟩
    rcases p with p | p
    · exact p
    · exact noOwn a p
  · obtain ⟨t, _, h⟩ := startE_get e
    cases h
theorem call_len {n i : Nat} {d : Df} {ts : List T} {H : Hp} {Q : VK} {E : XK} (hd : G.defs[i]? = some d) (o : OutF K mg H Q E (callF G (n + 1) i ts)) : ts.length = d.ps.length := by
  unfold callF at o
  rw [hd] at o
  dsimp only at o
  split at o
  · assumption
  · exact o.elim
/-- a def keeps to its plain function -/
theorem fn_step {n i : Nat} {d : Df} {st : Stmt} {f : Addr} {fd : FuncData} (g : Glob P w K mg base (M.of d.N) (callF G n) n) (hs : G.subs = M.subs) (hd : G.defs[i]? = some d) (F : Fun K d.name d.qual st f fd) (S : FnScope d.N d.ps (defScope st))
    (hc : chkSs (M.of d.N) (defScope st) d.body (defBody st) = true) : FnOk P w K mg base (L2.CX P w) (n + 1) f fd d.ps (spF K mg (callF G (n + 1) i)) := by
  refine Fun.okX F S (fun vs H Q E ⟨ts, r, o⟩ => ?_) (fun cdv A outer s H vs Q E hr ⟨ts, r, o⟩ => ?_)
  · rw [r.length]; exact call_len hd o
  · have hl := call_len hd o
    unfold callF at o
    rw [hd] at o
    dsimp only at o
    rw [if_pos hl] at o
    have tk := takes_of (X := cxOf (L2.CX P w) P w K mg base d.N d.qual (defScope st) f cdv A outer s H E) (E := E) rfl rfl rfl rfl
    have po := passes_of (X := cxOf (L2.CX P w) P w K mg base d.N d.qual (defScope st) f cdv A outer s H E) (K := fun e s'' => L2.CX P w outer H s E e s'') rfl
    have C : Ctx (cxOf (L2.CX P w) P w K mg base d.N d.qual (defScope st) f cdv A outer s H E) (M.of d.N) (defScope st) (callF G n) n xn0 :=
      ⟨rfl, S.nd, rfl, rfl, g, fun _ => hr, by have := hr.un; show (A.deeper _).units + 70 < cLine; omega, fun _ _ => rfl, fun a c fs z => z.elim⟩
    refine ⟨_, sss d.body C tk ⟨rfl, rfl, po, S.kind⟩ hc, ?_⟩
    refine ⟨H, fun _ => False, startE d.N.length ts, [], fi_start r, ?_⟩
    show OutS K mg xn0 _ H _ [] _ (exs (callF G n) (sub? M.subs) d.body (startE d.N.length ts))
    rw [hs] at o
    cases e : exs (callF G n) (sub? M.subs) d.body (startE d.N.length ts) with
    | nx ρ =>
      rw [e] at o
      exact fun σ2 H2 F2 => o .non H2 F2.base rfl
    | rt t =>
      rw [e] at o
      exact fun v H2 s2 r2 => o v H2 s2 r2
    | ex c fs ρ =>
      rw [e] at o
      exact ⟨o.1, fun cv σ2 H2 F2 q => o.2 cv H2 F2.base q⟩
    | bk ρ => rw [e] at o; exact o.elim
    | ct ρ => rw [e] at o; exact o.elim
    | stuck => rw [e] at o; exact o.elim
/-- what the top has made of a def -/
def DefOk (K : PySem.W.Frag) (mg : Str → Option Value) (M : Nm) (d : Df) : Prop := ∃ (st : Stmt) (f : Addr) (fd : FuncData), Fun K d.name d.qual st f fd ∧ FnScope d.N d.ps (defScope st) ∧ chkSs (M.of d.N) (defScope st) d.body (defBody st) = true ∧ Binds K fd d.ps [] ∧ mg d.name = some (.ref f)
structure PgOk (K : PySem.W.Frag) (mg : Str → Option Value) (M : Nm) (G : Pg) : Prop where
  fns : ∀ (i : Nat) (x : Str), M.fns[i]? = some x → ∃ d, G.defs[i]? = some d ∧ d.name = x ∧ DefOk K mg M d
  subs : G.subs = M.subs
  const : ∀ (x : Str) (t : T), M.consts.lookup x = some t → ∃ u, mg x = some u ∧ RelT t u
  blt : ∀ x ∈ M.blt, mg x = none
  fact : M.fact = true → mg "factorial" = some (.builtin "math.factorial")
  exc : ∀ x ∈ M.excs, ∃ (C : Addr) (bmB : List Value) (B newId initId : String), ExcBaseFacts B newId initId bmB ∧ PySem.W.excIn K C bmB newId = true ∧ mg x = some (.ref C) ∧ PySem.W.keepIn K (.ref C) = true ∧
    PySem.W.subIn K (.ref C) (.type "BaseException") = some true ∧ PySem.W.typeIn K (.ref C) = some (.type "type")
  sub : ∀ (x y : Str) (b : Bool), (x, y, b) ∈ M.subs → ∃ (C : Addr) (yv : Value), mg x = some (.ref C) ∧ ExcC K C ∧ (mg y = some yv ∨ (mg y = none ∧ bootBuiltins y = some yv ∧ y ≠ "__name__")) ∧ (∃ c : V, RelV c yv ∧ ∀ u, RelV c u → u = yv) ∧ PySem.W.exmOne K (.ref C) yv = some b ∧ PySem.W.kitOne K (.ref C) yv = some b
theorem fn_stuck {f : Addr} {fd : FuncData} {ps : List Str} {i n : Nat} : FnOk P w K mg base (L2.CX P w) n f fd ps (spF K mg (callF G 0 i)) :=
  ⟨fun vs H Q E ⟨ts, _, o⟩ => o.elim, fun A outer s H args us vs Q E _ _ _ _ ⟨ts, _, o⟩ => o.elim⟩
theorem glob_all (O : PgOk K mg M G) (N : List Str) : ∀ n : Nat, Glob P w K mg base (M.of N) (callF G n) n
  | 0 => ⟨fun i x hx => by
      obtain ⟨d, hd, rfl, st, f, fd, F, S, hc, hb, hm⟩ := O.fns i x hx
      exact ⟨f, fd, d.ps, hm, F.kp, hb, fn_stuck⟩, O.const, O.blt, O.fact, O.exc, O.sub⟩
  | n + 1 => ⟨fun i x hx => by
      obtain ⟨d, hd, rfl, st, f, fd, F, S, hc, hb, hm⟩ := O.fns i x hx
      exact ⟨f, fd, d.ps, hm, F.kp, hb, fn_step (M := M) (by
        have g := glob_all O N n
        exact ⟨g.fn, g.const, g.blt, g.fact, g.exc, g.subs⟩) O.subs hd F S hc⟩, O.const, O.blt, O.fact, O.exc, O.sub⟩
/-- the law's own def -/
theorem law_fn (O : PgOk K mg M G) {n i : Nat} {d : Df} {st : Stmt} {f : Addr} {fd : FuncData} (hd : G.defs[i]? = some d) (F : Fun K d.name d.qual st f fd) (S : FnScope d.N d.ps (defScope st)) (hc : chkSs (M.of d.N) (defScope st) d.body (defBody st) = true) :
    FnOk P w K mg base (L2.CX P w) (n + 1) f fd d.ps (spF K mg (callF G (n + 1) i)) := fn_step (glob_all O d.N n) O.subs hd F S hc
theorem cx_no {H : Hp} {s : Shared} {e : Value} {s' : Shared} {outer : List PySem.Env} : L2.CX P w outer H s (fun _ _ _ => False) e s' → False := fun h => by
  obtain ⟨_, _, _, _, _, _, _, _, _, _, _, _, z⟩ := h
  exact z.elim
/-- the script -/
theorem script_rep {H : Hp} {a : Addr} {ns : List Int} (h : SqL K H a (ns.map V.int)) (ho : Only H) : Reps K (fun _ => True) H [.scr (ns.map T.int)] [.ref a] := by
  refine Reps.cons ⟨a, _, rfl, ?_, Reps.of_ints ns⟩ Reps.nil
  rcases h with h | h
  · left
    rcases ho a with e | ⟨o, xs, e⟩
    · rcases h with h | ⟨o, h⟩
      · rw [e] at h; cases h
      · rw [e] at h; cases h
    · rcases h with h | ⟨o', h⟩
      · rw [e] at h; cases h
      · exact ⟨o', h⟩
  · exact .inr h
theorem sp_law {H : Hp} {a : Addr} {ns : List Int} {cf : List T → Res T} (h : SqL K H a (ns.map V.int)) (ho : Only H) (hv : cf [.scr (ns.map T.int)] = .ok (.bl true)) : spF K mg cf [.ref a] H (fun v _ => v = .bl true) fun _ _ _ => False := by
  refine ⟨_, script_rep h ho, ?_⟩
  rw [hv]
  exact fun v H' _ r => r
end
end BV

/-! ### what the top has made, told piece by piece -/
namespace BV
open PySem PySem.Spec PyProof.Rows L2
theorem all_nil {α : Type} {Q : α → Prop} : ∀ p ∈ ([] : List α), Q p := fun p h => by cases h
theorem all_cons {α : Type} {Q : α → Prop} {a : α} {l : List α} (h : Q a) (t : ∀ p ∈ l, Q p) : ∀ p ∈ a :: l, Q p := fun p hp => by
  rcases List.mem_cons.mp hp with rfl | hp
  · exact h
  · exact t p hp
/-- an own class of exceptions -/
structure ClsOk (K : PySem.W.Frag) (mg : Str → Option Value) (x : Str) (C : Addr) : Prop where
  g : mg x = some (.ref C)
  ec : ExcC K C
  ty : PySem.W.typeIn K (.ref C) = some (.type "type")
  self : PySem.W.subIn K (.ref C) (.ref C) = some true
def ExcOk (K : PySem.W.Frag) (mg : Str → Option Value) (x : Str) : Prop := ∃ (C : Addr) (bmB : List Value) (B newId initId : String), ExcBaseFacts B newId initId bmB ∧ PySem.W.excIn K C bmB newId = true ∧ mg x = some (.ref C) ∧ PySem.W.keepIn K (.ref C) = true ∧
    PySem.W.subIn K (.ref C) (.type "BaseException") = some true ∧ PySem.W.typeIn K (.ref C) = some (.type "type")
def SubOk (K : PySem.W.Frag) (mg : Str → Option Value) (x y : Str) (b : Bool) : Prop := ∃ (C : Addr) (yv : Value), mg x = some (.ref C) ∧ ExcC K C ∧ (mg y = some yv ∨ (mg y = none ∧ bootBuiltins y = some yv ∧ y ≠ "__name__")) ∧ (∃ c : V, RelV c yv ∧ ∀ u, RelV c u → u = yv) ∧ PySem.W.exmOne K (.ref C) yv = some b ∧ PySem.W.kitOne K (.ref C) yv = some b
section
variable {K : PySem.W.Frag} {mg : Str → Option Value} {M : Nm} {G : Pg} {x y : Str} {C D : Addr} {b : Bool}
theorem ClsOk.exc (c : ClsOk K mg x C) {bmB : List Value} {B newId initId : String} (F : ExcBaseFacts B newId initId bmB) (h : PySem.W.excIn K C bmB newId = true) (k : PySem.W.keepIn K (.ref C) = true) : ExcOk K mg x := ⟨C, bmB, B, newId, initId, F, h, c.g, k, c.ec.hs, c.ty⟩
theorem sub_own (c : ClsOk K mg x C) (d : ClsOk K mg y D) (h : PySem.W.subIn K (.ref C) (.ref D) = some b) : SubOk K mg x y b := by
  refine ⟨C, .ref D, c.g, c.ec, .inl d.g, ⟨.ref D, rfl, fun u e => e⟩, PySem.W.exm_ref d.ec.hs d.ec.hd d.ty h, ?_⟩
  unfold PySem.W.kitOne
  by_cases e : C = D
  · subst e
    rw [c.self] at h
    rw [if_pos (by simp)]
    exact h
  · have : ((Value.ref C == Value.ref D) = true) = False := by simp [e]
    rw [if_neg (by rw [this]; exact id)]
    obtain ⟨cd, hc, _⟩ := PySem.W.any_some d.ec.hd
    show (if ((PySem.W.clsIn K D).isSome && PySem.W.typeIn K (.ref D) == some (.type "type")) = true then PySem.W.subIn K (.ref C) (.ref D) else none) = some b
    rw [if_pos (by rw [hc, d.ty] <;> rfl)]
    exact h
theorem sub_blt {t : String} (c : ClsOk K mg x C) (hy : mg y = none) (hb : bootBuiltins y = some (.type t)) (hn : y ≠ "__name__") (h0 : (PySem.fastBuiltinMro t).map (·.contains (.type "BaseException")) = some true) (h2 : PySem.W.kitMeta t = true) (h : PySem.W.subIn K (.ref C) (.type t) = some b) : SubOk K mg x y b := by
  have hk : PySem.W.kitCls K (.ref C) (.type t) = some b := by
    show (if PySem.W.kitMeta t = true then PySem.W.subIn K (.ref C) (.type t) else none) = some b
    rw [if_pos h2]; exact h
  refine ⟨C, .type t, c.g, c.ec, .inr ⟨hy, hb, hn⟩, ⟨.ty t, rfl, fun u e => e⟩, ?_, ?_⟩
  · unfold PySem.W.exmOne
    have h1 : PySem.W.subIn K (.type t) (.type "BaseException") = some true := h0
    rw [h1]
    exact hk
  · unfold PySem.W.kitOne
    rw [if_neg (by simp)]
    exact hk
theorem pgOk_of (hf : M.fns = G.defs.map (·.name)) (hs : G.subs = M.subs) (d : ∀ d ∈ G.defs, DefOk K mg M d) (c : ∀ p ∈ M.consts, ∃ u, mg p.1 = some u ∧ RelT p.2 u) (bl : ∀ x ∈ M.blt, mg x = none) (f : M.fact = true → mg "factorial" = some (.builtin "math.factorial"))
    (e : ∀ x ∈ M.excs, ExcOk K mg x) (s : ∀ p ∈ M.subs, SubOk K mg p.1 p.2.1 p.2.2) : PgOk K mg M G := by
  refine ⟨fun i x h => ?_, hs, fun x t h => ?_, bl, f, e, fun x y b h => s _ h⟩
  · rw [hf, List.getElem?_map] at h
    cases e2 : G.defs[i]? with
    | none => rw [e2] at h; cases h
    | some dd =>
      rw [e2] at h
      exact ⟨dd, rfl, Option.some.inj h, d dd (List.mem_of_getElem? e2)⟩
  · have m : (x, t) ∈ M.consts := PySem.mem_of_lookup h
    exact c _ m
/-- the law's promise: from a list of at most 63 integers it makes True -/
def spLaw (K : PySem.W.Frag) : Sp := fun vs H Q _ => ∃ (a : Addr) (ns : List Int), vs = [.ref a] ∧ Only H ∧ SqL K H a (ns.map V.int) ∧ ns.length ≤ 63 ∧ (∀ z ∈ ns, Builtin.Int.intBits z ≤ 1048576) ∧ ∀ H', Q (.bl true) H'
theorem imp_law {cf : List T → Res T} (hv : ∀ ns : List Int, ns.length ≤ 63 → (∀ z ∈ ns, Builtin.Int.intBits z ≤ 1048576) → cf [.scr (ns.map T.int)] = .ok (.bl true)) {vs : List V} {H : Hp} {Q : VK} {E : XK} (h : spLaw K vs H Q E) : spF K mg cf vs H Q E := by
  obtain ⟨a, ns, rfl, ho, hS, hl, hb, q⟩ := h
  refine ⟨_, script_rep hS ho, ?_⟩
  rw [hv ns hl hb]
  exact fun v H' _ r => by rw [show v = .bl true from r]; exact q H'
end
theorem walk_bv {q : Program} {loose : List Str} {XP : (Str → Option Value) → Heap → Prop} {YP : World → Heap → Prop} {d : DefRec} {K : Params → PySem.W.Frag} {l : PySem.W.OpenLaw} {n : Nat} (hn : l.most = some 63) (hdf : d.params.defaults = []) (hr : L2.Room (n + 1) callerA)
    (hY : ∀ (w : World) (h : Heap), YP w h → (K w.params).In h)
    (F : ∀ (w : World) (mg : Str → Option Value) (fa : Addr) (h : Heap), (K w.params).In h → h.Ns mainGlobals mg → mg d.name = some (.ref fa) →
      ∃ fd : FuncData, (∀ (s : Shared) (u : Value), BindsTo s fd ⟨[u], []⟩ [("script", u)]) ∧ ∀ base : Heap, (K w.params).In base → base.Ns mainGlobals mg → FnOk l.prog w (K w.params) mg base (L2.CX l.prog w) (n + 1) fa fd ["script"] (spLaw (K w.params))) :
    PySem.W.WalkO q loose XP YP l.row.toRowW d [] (fun f vs => PySem.call f vs) :=
  L2.walk_ofB (n := 63) (k := n + 1) (x := "script") (CX := fun w => L2.CX l.prog w) (sp := fun w => spLaw (K w.params)) hn (by decide) hdf hr hY F (fun w H a ns hl hb ho hS => ⟨a, ns, rfl, ho, hS, hl, hb, fun _ => rfl⟩) fun w H s e s' => cx_no
end BV

/-! Plain facts on the evaluation: rows of integers, loops. -/
namespace BV
open PySem
abbrev tz (l : List Int) : T := .tup (l.map .int)
abbrev lz (l : List Int) : T := .lst (l.map .int)
theorem ints_map (l : List Int) : ints? (l.map .int) = some l := by
  induction l with
  | nil => rfl
  | cons a l ih => simp [ints?, ih]
theorem toDL_ints (l : List Int) : toDL (l.map .int) = l.map PyData.int := by
  induction l with
  | nil => rfl
  | cons a l ih => simp [toDL, T.toD, ih]
theorem lay_ints (l : List Int) : PyData.canLayAll0 (l.map PyData.int) = true := by
  induction l with
  | nil => rfl
  | cons a l ih => simp [PyData.canLayAll0, PyData.canLay0, ih]
theorem depth_ints (l : List Int) : PyData.depthAll (l.map PyData.int) = 0 := by
  induction l with
  | nil => rfl
  | cons a l ih => simp [PyData.depthAll, PyData.depth, ih]
theorem eqv_ints (a b : List Int) : PyData.eqvAll (a.map PyData.int) (b.map PyData.int) = decide (a = b) := by
  induction a generalizing b with
  | nil => cases b <;> simp [PyData.eqvAll]
  | cons x a ih =>
    cases b with
    | nil => simp [PyData.eqvAll]
    | cons y b =>
      simp only [List.map_cons, PyData.eqvAll, PyData.eqv, ih]
      by_cases h : x = y <;> simp [h]
theorem shaped_lz (l : List Int) : SeqAt.shaped (lz l).toD = true := by
  simp [SeqAt.shaped, T.toD, toDL_ints, PyData.canLay0, lay_ints, PyData.depth, depth_ints]
theorem shaped_tz (l : List Int) : SeqAt.shaped (tz l).toD = true := by
  simp [SeqAt.shaped, T.toD, toDL_ints, PyData.canLay0, lay_ints, PyData.depth, depth_ints]
theorem eqT_lz (a b : List Int) : eqT (lz a) (lz b) = .ok (decide (a = b)) := by
  have h1 := shaped_lz a
  have h2 := shaped_lz b
  simp only [eqT, h1, h2, and_self, if_true]
  simp [T.toD, toDL_ints, PyData.eqv, eqv_ints]
theorem eqT_tz (a b : List Int) : eqT (tz a) (tz b) = .ok (decide (a = b)) := by
  have h1 := shaped_tz a
  have h2 := shaped_tz b
  simp only [eqT, h1, h2, and_self, if_true]
  simp [T.toD, toDL_ints, PyData.eqv, eqv_ints]
def rng (n : Nat) : List Int := (List.range n).map fun (i : Nat) => (i : Int)
theorem rangeL_rng (n : Nat) : rangeL 0 n = (rng n).map .int := by
  unfold rangeL rng
  rw [List.map_map]
  apply List.map_congr_left
  intro i _
  simp
theorem length_rng (n : Nat) : (rng n).length = n := by simp [rng]
theorem length_rangeL (lo : Int) (n : Nat) : (rangeL lo n).length = n := by simp [rangeL]
theorem get_rangeL {lo : Int} {n i : Nat} (h : i < (rangeL lo n).length) : (rangeL lo n)[i] = .int (lo + (i : Int)) := by simp [rangeL]
/-- a loop, turn by turn; R tells what must hold of its end -/
theorem forL_gen {body : Env → Fl} {st : T → Env → Option Env} {xs : List T} {ρ : Env} (R : Fl → Prop) (I : Nat → Env → Prop) (h0 : I 0 ρ) (hend : ∀ ρ, I xs.length ρ → R (.nx ρ))
    (hs : ∀ i ρ (h : i < xs.length), I i ρ → ∃ ρ1, st xs[i] ρ = some ρ1 ∧ ((∃ ρ2, (body ρ1 = .nx ρ2 ∨ body ρ1 = .ct ρ2) ∧ I (i + 1) ρ2) ∨ (∃ ρ2, body ρ1 = .bk ρ2 ∧ R (.nx ρ2)) ∨ (∃ t, body ρ1 = .rt t ∧ R (.rt t)) ∨ ∃ c fs ρ2, body ρ1 = .ex c fs ρ2 ∧ R (.ex c fs ρ2))) : R (forL body st xs ρ) := by
  have key : ∀ (k i : Nat) (ρ : Env), i + k = xs.length → I i ρ → R (forL body st (xs.drop i) ρ) := by
    intro k
    induction k with
    | zero =>
      intro i ρ hi h
      have e : i = xs.length := by omega
      subst e
      rw [List.drop_length]
      exact hend ρ h
    | succ k ih =>
      intro i ρ hi h
      have hlt : i < xs.length := by omega
      obtain ⟨ρ1, e1, h⟩ := hs i ρ hlt h
      rw [List.drop_eq_getElem_cons hlt]
      unfold forL
      rw [e1]
      rcases h with ⟨ρ2, e2, h⟩ | ⟨ρ2, e2, h⟩ | ⟨t, e2, h⟩ | ⟨c, fs, ρ2, e2, h⟩
      · rcases e2 with e2 | e2 <;> (simp only [e2]; exact ih (i + 1) ρ2 (by omega) h)
      · simp only [e2]; exact h
      · simp only [e2]; exact h
      · simp only [e2]; exact h
  have := key xs.length 0 ρ (by omega) h0
  rwa [List.drop_zero] at this
/-- a comprehension over integers -/
theorem compL_ints {f : T → Res (Option T)} {g : Int → Option Int} : ∀ {l : List Int}, (∀ x ∈ l, f (.int x) = .ok ((g x).map .int)) → compL f (l.map .int) = .ok ((l.filterMap g).map .int)
  | [], _ => rfl
  | a :: l, h => by
    have ih := compL_ints (l := l) fun x hx => h x (by simp [hx])
    simp only [List.map_cons, compL, h a (by simp), bd_ok, ih, List.filterMap_cons]
    cases g a <;> rfl
theorem compL_all {f : T → Res (Option T)} {g : Int → Int} {l : List Int} (h : ∀ x ∈ l, f (.int x) = .ok (some (.int (g x)))) : compL f (l.map .int) = .ok ((l.map g).map .int) := by
  rw [compL_ints (g := fun x => some (g x)) (by intro x hx; rw [h x hx]; rfl)]
  simp
theorem compL_if {f : T → Res (Option T)} {p : Int → Bool} {l : List Int} (h : ∀ x ∈ l, f (.int x) = .ok (if p x = true then some (.int x) else none)) : compL f (l.map .int) = .ok ((l.filter p).map .int) := by
  rw [compL_ints (g := fun x => if p x = true then some x else none) (by intro x hx; rw [h x hx]; by_cases e : p x = true <;> simp [e])]
  congr 2
  induction l with
  | nil => rfl
  | cons a l ih =>
    have ih := ih fun x hx => h x (by simp [hx])
    by_cases e : p a = true <;> simp [e, List.filter_cons, ih]
theorem at_nat {α : Type} {xs : List α} {i : Nat} (h : i < xs.length) : L2.atI xs (i : Int) = some xs[i] := by
  unfold L2.atI L2.ixN
  rw [if_pos (by omega), if_pos (by omega)]
  simp [h]
theorem ix_nat {n i : Nat} (h : i < n) : L2.ixN n (i : Int) = some i := by
  unfold L2.ixN
  rw [if_pos (by omega), if_pos (by omega)]
  simp
theorem cut_from {α : Type} (xs : List α) (k : Nat) : cutT xs (some (k : Int)) none = xs.drop k := by
  unfold cutT
  rw [HT.sIx_nat, HT.sIx_none]
  by_cases h : k ≤ xs.length
  · rw [Nat.min_eq_left h, List.take_of_length_le (by simp)]
  · rw [Nat.min_eq_right (by omega), List.drop_length, List.drop_of_length_le (by omega)]
    simp
@[simp] theorem ev_int {cf : Nat → List T → Res T} : ∀ i q1, ev cf (.int i) q1 = (.ok (.int i)) := by intros; (first | (simp only [ev]; done) | (simp only [ev]; rfl))
@[simp] theorem ev_bl {cf : Nat → List T → Res T} : ∀ b q1, ev cf (.bl b) q1 = (.ok (.bl b)) := by intros; (first | (simp only [ev]; done) | (simp only [ev]; rfl))
@[simp] theorem ev_non {cf : Nat → List T → Res T} : ∀ q0, ev cf .non q0 = (.ok .non) := by intros; (first | (simp only [ev]; done) | (simp only [ev]; rfl))
@[simp] theorem ev_str {cf : Nat → List T → Res T} : ∀ x q1, ev cf (.str x) q1 = (.ok (.str x)) := by intros; (first | (simp only [ev]; done) | (simp only [ev]; rfl))
@[simp] theorem ev_var {cf : Nat → List T → Res T} : ∀ k i ρ, ev cf (.var k i) ρ = (match ρ[i]? with
    | some (some s) => s.get k
    | _ => .stuck) := by intros; (first | (simp only [ev]; done) | (simp only [ev]; rfl))
@[simp] theorem ev_gl {cf : Nat → List T → Res T} : ∀ q0 t q2, ev cf (.gl q0 t) q2 = (.ok t) := by intros; (first | (simp only [ev]; done) | (simp only [ev]; rfl))
@[simp] theorem ev_bin {cf : Nat → List T → Res T} : ∀ op a b ρ, ev cf (.bin op a b) ρ = ((ev cf a ρ).bd fun x => (ev cf b ρ).bd fun y => binT op x y) := by intros; (first | (simp only [ev]; done) | (simp only [ev]; rfl))
@[simp] theorem ev_neg {cf : Nat → List T → Res T} : ∀ a ρ, ev cf (.neg a) ρ = ((ev cf a ρ).bd negT) := by intros; (first | (simp only [ev]; done) | (simp only [ev]; rfl))
@[simp] theorem ev_cmp {cf : Nat → List T → Res T} : ∀ op a b ρ, ev cf (.cmp op a b) ρ = ((ev cf a ρ).bd fun x => (ev cf b ρ).bd fun y => (cmpT op x y).bd fun c => .ok (.bl c)) := by intros; (first | (simp only [ev]; done) | (simp only [ev]; rfl))
@[simp] theorem ev_cmp2 {cf : Nat → List T → Res T} : ∀ op op' a b c ρ, ev cf (.cmp2 op op' a b c) ρ = ((ev cf a ρ).bd fun x => (ev cf b ρ).bd fun y => (cmpT op x y).bd fun k =>
      if k = true then (ev cf c ρ).bd fun z => (cmpT op' y z).bd fun k' => .ok (.bl k') else .ok (.bl false)) := by intros; (first | (simp only [ev]; done) | (simp only [ev]; rfl))
@[simp] theorem ev_and {cf : Nat → List T → Res T} : ∀ a b ρ, ev cf (.and a b) ρ = ((ev cf a ρ).bd fun x => (truthR x).bd fun k => if k = true then ev cf b ρ else .ok x) := by intros; (first | (simp only [ev]; done) | (simp only [ev]; rfl))
@[simp] theorem ev_or {cf : Nat → List T → Res T} : ∀ a b ρ, ev cf (.or a b) ρ = ((ev cf a ρ).bd fun x => (truthR x).bd fun k => if k = true then .ok x else ev cf b ρ) := by intros; (first | (simp only [ev]; done) | (simp only [ev]; rfl))
@[simp] theorem ev_not {cf : Nat → List T → Res T} : ∀ a ρ, ev cf (.not a) ρ = ((ev cf a ρ).bd fun x => (truthR x).bd fun k => .ok (.bl (!k))) := by intros; (first | (simp only [ev]; done) | (simp only [ev]; rfl))
@[simp] theorem ev_ite {cf : Nat → List T → Res T} : ∀ c a b ρ, ev cf (.ite c a b) ρ = ((ev cf c ρ).bd fun x => (truthR x).bd fun k => if k = true then ev cf a ρ else ev cf b ρ) := by intros; (first | (simp only [ev]; done) | (simp only [ev]; rfl))
@[simp] theorem ev_tup {cf : Nat → List T → Res T} : ∀ es ρ, ev cf (.tup es) ρ = ((evs cf es ρ).bd fun ts => .ok (.tup ts)) := by intros; (first | (simp only [ev]; done) | (simp only [ev]; rfl))
@[simp] theorem ev_lst {cf : Nat → List T → Res T} : ∀ es ρ, ev cf (.lst es) ρ = ((evs cf es ρ).bd fun ts => .ok (.lst ts)) := by intros; (first | (simp only [ev]; done) | (simp only [ev]; rfl))
@[simp] theorem ev_idx {cf : Nat → List T → Res T} : ∀ a i ρ, ev cf (.idx a i) ρ = ((ev cf a ρ).bd fun x => (ev cf i ρ).bd fun y => idxT x y) := by intros; (first | (simp only [ev]; done) | (simp only [ev]; rfl))
@[simp] theorem ev_slice {cf : Nat → List T → Res T} : ∀ a lo hi ρ, ev cf (.slice a lo hi) ρ = ((ev cf a ρ).bd fun x => (evs cf lo ρ).bd fun l => (optInt l).bd fun l' => (evs cf hi ρ).bd fun h => (optInt h).bd fun h' => sliceT x l' h') := by intros; (first | (simp only [ev]; done) | (simp only [ev]; rfl))
@[simp] theorem ev_call {cf : Nat → List T → Res T} : ∀ f es ρ, ev cf (.call f es) ρ = ((evs cf es ρ).bd fun ts => cf f ts) := by intros; (first | (simp only [ev]; done) | (simp only [ev]; rfl))
@[simp] theorem ev_bi {cf : Nat → List T → Res T} : ∀ b es ρ, ev cf (.bi b es) ρ = ((evs cf es ρ).bd fun ts => biT b ts) := by intros; (first | (simp only [ev]; done) | (simp only [ev]; rfl))
@[simp] theorem ev_meth {cf : Nat → List T → Res T} : ∀ m a es ρ, ev cf (.meth m a es) ρ = ((ev cf a ρ).bd fun x => if recvOk m x = true then (evs cf es ρ).bd fun ts => meT m x ts else .stuck) := by intros; (first | (simp only [ev]; done) | (simp only [ev]; rfl))
@[simp] theorem ev_comp {cf : Nat → List T → Res T} : ∀ tg elt sk ses ifs ρ, ev cf (.comp tg elt sk ses ifs) ρ = ((evs cf ses ρ).bd fun ts => (itemsT sk ts).bd fun xs =>
      ((compL (fun x => (toSet (tg.set x (wipeE ρ tg.slots))).bd fun ρ' => (evAll cf ifs ρ').bd fun k => if k = true then (ev cf elt ρ').bd fun y => .ok (some y) else .ok none) xs).nox).bd fun ys => .ok (.lst ys)) := by intros; (first | (simp only [ev]; done) | (simp only [ev]; rfl))
@[simp] theorem ev_turn {cf : Nat → List T → Res T} : ∀ cut a ρ, ev cf (.turn cut a) ρ = ((ev cf a ρ).bd (turnT cut)) := by intros; (first | (simp only [ev]; done) | (simp only [ev]; rfl))
@[simp] theorem ev_comp2 {cf : Nat → List T → Res T} : ∀ tg sk ses ifs tg2 sk2 ses2 ifs2 elt ρ, ev cf (.comp2 tg sk ses ifs tg2 sk2 ses2 ifs2 elt) ρ = ((evs cf ses ρ).bd fun ts => (itemsT sk ts).bd fun xs =>
      ((compJ (fun x => (toSet (tg.set x (wipeE ρ (tg.slots ++ tg2.slots)))).bd fun ρ1 => (evAll cf ifs ρ1).bd fun k => if k = true then
          (evs cf ses2 ρ1).bd fun us => (itemsT sk2 us).bd fun ys =>
            compL (fun y => (toSet (tg2.set y (wipeE ρ1 tg2.slots))).bd fun ρ2 => (evAll cf ifs2 ρ2).bd fun k2 => if k2 = true then (ev cf elt ρ2).bd fun z => .ok (some z) else .ok none) ys
        else .ok []) xs).nox).bd fun zs => if zs.length ≤ sizeLine then .ok (.lst zs) else .stuck) := by intros; (first | (simp only [ev]; done) | (simp only [ev]; rfl))
@[simp] theorem ev_isE {cf : Nat → List T → Res T} : ∀ q0 i tab ρ, ev cf (.isE i q0 tab) ρ = (match ρ[i]? with
    | some (some (.exn c _)) => match tab.lookup c with
      | some b => .ok (.bl b)
      | none => .stuck
    | _ => .stuck) := by intros; (first | (simp only [ev]; done) | (simp only [ev]; rfl))
@[simp] theorem ev_chk {cf : Nat → List T → Res T} : ∀ a ρ, ev cf (.chk a) ρ = ((ev cf a ρ).bd fun x => if x.flat = true then .ok x else if (freshE a && flatI x) = true then .ok x else .stuck) := by intros; (first | (simp only [ev]; done) | (simp only [ev]; rfl))
@[simp] theorem evs_nil {cf : Nat → List T → Res T} : ∀ q0, evs cf [] q0 = (.ok []) := by intros; (first | (simp only [evs]; done) | (simp only [evs]; rfl))
@[simp] theorem evs_cons {cf : Nat → List T → Res T} : ∀ e es ρ, evs cf (e :: es) ρ = ((ev cf e ρ).bd fun x => (evs cf es ρ).bd fun xs => .ok (x :: xs)) := by intros; (first | (simp only [evs]; done) | (simp only [evs]; rfl))
@[simp] theorem evAll_nil {cf : Nat → List T → Res T} : ∀ q0, evAll cf [] q0 = (.ok true) := by intros; (first | (simp only [evAll]; done) | (simp only [evAll]; rfl))
@[simp] theorem evAll_cons {cf : Nat → List T → Res T} : ∀ e es ρ, evAll cf (e :: es) ρ = ((ev cf e ρ).bd fun x => (truthR x).bd fun k => if k = true then evAll cf es ρ else .ok false) := by intros; (first | (simp only [evAll]; done) | (simp only [evAll]; rfl))
@[simp] theorem ex_asg {cf : Nat → List T → Res T} {sb : Str → Str → Option Bool} : ∀ i e ρ, ex cf sb (.asg i e) ρ = ((ev cf e ρ).fl ρ fun t => .nx (ρ.set i (some (.val t)))) := by intros; (first | (simp only [ex]; done) | (simp only [ex]; rfl))
@[simp] theorem ex_asgP {cf : Nat → List T → Res T} {sb : Str → Str → Option Bool} : ∀ i e ρ, ex cf sb (.asgP i e) ρ = ((ev cf e ρ).fl ρ fun t => .nx (ρ.set i (some (.par t)))) := by intros; (first | (simp only [ex]; done) | (simp only [ex]; rfl))
@[simp] theorem ex_asgO {cf : Nat → List T → Res T} {sb : Str → Str → Option Bool} : ∀ i e ρ, ex cf sb (.asgO i e) ρ = ((ev cf e ρ).fl ρ fun t => match t with
      | .lst xs => .nx (ρ.set i (some (.own xs)))
      | _ => .stuck) := by intros; (first | (simp only [ex]; done) | (simp only [ex]; rfl))
@[simp] theorem ex_asgT {cf : Nat → List T → Res T} {sb : Str → Str → Option Bool} : ∀ tg e ρ, ex cf sb (.asgT tg e) ρ = ((ev cf e ρ).fl ρ fun t => match tg.set t ρ with
      | some ρ' => .nx ρ'
      | none => .stuck) := by intros; (first | (simp only [ex]; done) | (simp only [ex]; rfl))
@[simp] theorem ex_asgPop {cf : Nat → List T → Res T} {sb : Str → Str → Option Bool} : ∀ j i es ρ, ex cf sb (.asgPop j i es) ρ = ((ownAt ρ i).fl ρ fun xs => ((evs cf es ρ).bd (popT xs)).fl ρ fun p => .nx ((ρ.set i (some (.own p.2))).set j (some (.val p.1)))) := by intros; (first | (simp only [ex]; done) | (simp only [ex]; rfl))
@[simp] theorem ex_aug {cf : Nat → List T → Res T} {sb : Str → Str → Option Bool} : ∀ i op e ρ, ex cf sb (.aug i op e) ρ = ((ev cf (.var .val i) ρ).fl ρ fun x => (ev cf e ρ).fl ρ fun y => (binT op x y).fl ρ fun z => if isScal z = true then .nx (ρ.set i (some (.val z))) else .stuck) := by intros; (first | (simp only [ex]; done) | (simp only [ex]; rfl))
@[simp] theorem ex_app {cf : Nat → List T → Res T} {sb : Str → Str → Option Bool} : ∀ i e ρ, ex cf sb (.app i e) ρ = ((ownAt ρ i).fl ρ fun xs => (ev cf e ρ).fl ρ fun t => if xs.length < sizeLine then .nx (ρ.set i (some (.own (xs ++ [t])))) else .stuck) := by intros; (first | (simp only [ex]; done) | (simp only [ex]; rfl))
@[simp] theorem ex_appPop {cf : Nat → List T → Res T} {sb : Str → Str → Option Bool} : ∀ i j es ρ, ex cf sb (.appPop i j es) ρ = ((ownAt ρ i).fl ρ fun _ => (ownAt ρ j).fl ρ fun ys => ((evs cf es ρ).bd (popT ys)).fl ρ fun p => (ownAt (ρ.set j (some (.own p.2))) i).fl (ρ.set j (some (.own p.2))) fun xs =>
      if xs.length < sizeLine then .nx ((ρ.set j (some (.own p.2))).set i (some (.own (xs ++ [p.1])))) else .stuck) := by intros; (first | (simp only [ex]; done) | (simp only [ex]; rfl))
@[simp] theorem ex_setI {cf : Nat → List T → Res T} {sb : Str → Str → Option Bool} : ∀ i k e ρ, ex cf sb (.setI i k e) ρ = ((ev cf e ρ).fl ρ fun t => (ownAt ρ i).fl ρ fun xs => (ev cf k ρ).fl ρ fun j => (setT xs j t).fl ρ fun ys => .nx (ρ.set i (some (.own ys)))) := by intros; (first | (simp only [ex]; done) | (simp only [ex]; rfl))
@[simp] theorem ex_rev {cf : Nat → List T → Res T} {sb : Str → Str → Option Bool} : ∀ i ρ, ex cf sb (.rev i) ρ = ((ownAt ρ i).fl ρ fun xs => .nx (ρ.set i (some (.own xs.reverse)))) := by intros; (first | (simp only [ex]; done) | (simp only [ex]; rfl))
@[simp] theorem ex_ite {cf : Nat → List T → Res T} {sb : Str → Str → Option Bool} : ∀ c a b ρ, ex cf sb (.ite c a b) ρ = ((ev cf c ρ).fl ρ fun x => (truthR x).fl ρ fun k => if k = true then exs cf sb a ρ else exs cf sb b ρ) := by intros; (first | (simp only [ex]; done) | (simp only [ex]; rfl))
@[simp] theorem ex_for {cf : Nat → List T → Res T} {sb : Str → Str → Option Bool} : ∀ tg sk ses body ρ, ex cf sb (.for tg sk ses body) ρ = ((evs cf ses ρ).fl ρ fun ts => (itemsT sk ts).fl ρ fun xs => forL (exs cf sb body) tg.set xs ρ) := by intros; (first | (simp only [ex]; done) | (simp only [ex]; rfl))
@[simp] theorem ex_while {cf : Nat → List T → Res T} {sb : Str → Str → Option Bool} : ∀ c body ρ, ex cf sb (.while c body) ρ = (whl (fun ρ => (ev cf c ρ).bd truthR) (exs cf sb body) wfuel ρ) := by intros; (first | (simp only [ex]; done) | (simp only [ex]; rfl))
@[simp] theorem ex_ret {cf : Nat → List T → Res T} {sb : Str → Str → Option Bool} : ∀ e ρ, ex cf sb (.ret e) ρ = ((ev cf e ρ).fl ρ fun t => .rt t) := by intros; (first | (simp only [ex]; done) | (simp only [ex]; rfl))
@[simp] theorem ex_retO {cf : Nat → List T → Res T} {sb : Str → Str → Option Bool} : ∀ i ρ, ex cf sb (.retO i) ρ = ((ownAt ρ i).fl ρ fun xs => .rt (.lst xs)) := by intros; (first | (simp only [ex]; done) | (simp only [ex]; rfl))
@[simp] theorem ex_retN {cf : Nat → List T → Res T} {sb : Str → Str → Option Bool} : ∀ q0, ex cf sb .retN q0 = (.rt .non) := by intros; (first | (simp only [ex]; done) | (simp only [ex]; rfl))
@[simp] theorem ex_raise {cf : Nat → List T → Res T} {sb : Str → Str → Option Bool} : ∀ c ρ, ex cf sb (.raise c) ρ = (.ex c [] ρ) := by intros; (first | (simp only [ex]; done) | (simp only [ex]; rfl))
@[simp] theorem ex_try {cf : Nat → List T → Res T} {sb : Str → Str → Option Bool} : ∀ body c nm suite ρ, ex cf sb (.try body c nm suite) ρ = (caught sb c nm (exs cf sb suite) (exs cf sb body ρ)) := by intros; (first | (simp only [ex]; done) | (simp only [ex]; rfl))
@[simp] theorem ex_expr {cf : Nat → List T → Res T} {sb : Str → Str → Option Bool} : ∀ e ρ, ex cf sb (.expr e) ρ = ((ev cf e ρ).fl ρ fun _ => .nx ρ) := by intros; (first | (simp only [ex]; done) | (simp only [ex]; rfl))
@[simp] theorem ex_pass {cf : Nat → List T → Res T} {sb : Str → Str → Option Bool} : ∀ ρ, ex cf sb .pass ρ = (.nx ρ) := by intros; (first | (simp only [ex]; done) | (simp only [ex]; rfl))
@[simp] theorem ex_brk {cf : Nat → List T → Res T} {sb : Str → Str → Option Bool} : ∀ ρ, ex cf sb .brk ρ = (.bk ρ) := by intros; (first | (simp only [ex]; done) | (simp only [ex]; rfl))
@[simp] theorem ex_cnt {cf : Nat → List T → Res T} {sb : Str → Str → Option Bool} : ∀ ρ, ex cf sb .cnt ρ = (.ct ρ) := by intros; (first | (simp only [ex]; done) | (simp only [ex]; rfl))
@[simp] theorem ex_freeze {cf : Nat → List T → Res T} {sb : Str → Str → Option Bool} : ∀ i ρ, ex cf sb (.freeze i) ρ = ((ownAt ρ i).fl ρ fun xs => .nx (ρ.set i (some (.val (.lst xs))))) := by intros; (first | (simp only [ex]; done) | (simp only [ex]; rfl))
@[simp] theorem exs_nil {cf : Nat → List T → Res T} {sb : Str → Str → Option Bool} : ∀ ρ, exs cf sb [] ρ = (.nx ρ) := by intros; (first | (simp only [exs]; done) | (simp only [exs]; rfl))
@[simp] theorem exs_cons {cf : Nat → List T → Res T} {sb : Str → Str → Option Bool} : ∀ s ss ρ, exs cf sb (s :: ss) ρ = (match ex cf sb s ρ with
    | .nx ρ' => exs cf sb ss ρ'
    | r => r) := by intros; (first | (simp only [exs]; done) | (simp only [exs]; rfl))
@[simp] theorem sl_val (t : T) : Sl.get .val (.val t) = .ok t := rfl
@[simp] theorem sl_par (t : T) : Sl.get .par (.par t) = .ok t := rfl
@[simp] theorem sl_own (t : List T) : Sl.get .own (.own t) = .ok (.lst t) := rfl
@[simp] theorem mk_val (t : T) : K3.mk .val t = some (.val t) := rfl
@[simp] theorem mk_par (t : T) : K3.mk .par t = some (.par t) := rfl
@[simp] theorem tg_nm (k : K3) (i : Nat) (t : T) (ρ : Env) : Tg.set (.nm k i) t ρ = (k.mk t).map fun s => ρ.set i (some s) := by simp only [Tg.set]
@[simp] theorem tg_tp (ts : List Tg) (xs : List T) (ρ : Env) : Tg.set (.tp ts) (.tup xs) ρ = setAll ts xs ρ := by simp only [Tg.set]
@[simp] theorem tg_pr (ts : List Tg) (xs : List T) (ρ : Env) : Tg.set (.tp ts) (.pair xs) ρ = setAll ts xs ρ := by simp only [Tg.set]
@[simp] theorem tgs_nil (ρ : Env) : setAll [] [] ρ = some ρ := by simp only [setAll]
@[simp] theorem tgs_cons (g : Tg) (gs : List Tg) (x : T) (xs : List T) (ρ : Env) : setAll (g :: gs) (x :: xs) ρ = (match g.set x ρ with
    | some ρ' => setAll gs xs ρ'
    | none => none) := by simp only [setAll] <;> rfl
@[simp] theorem slots_nm (k : K3) (i : Nat) : Tg.slots (.nm k i) = [i] := by simp only [Tg.slots]
@[simp] theorem slots_tp (ts : List Tg) : Tg.slots (.tp ts) = slotsL ts := by simp only [Tg.slots]
@[simp] theorem slotsL_nil : slotsL [] = [] := by simp only [slotsL]
@[simp] theorem slotsL_cons (g : Tg) (gs : List Tg) : slotsL (g :: gs) = g.slots ++ slotsL gs := by simp only [slotsL]
@[simp] theorem wipe_nil (ρ : Env) : wipeE ρ [] = ρ := rfl
@[simp] theorem wipe_cons (ρ : Env) (v : Nat) (vs : List Nat) : wipeE ρ (v :: vs) = (wipeE ρ vs).set v none := rfl
@[simp] theorem bin_add (i j : Int) : binT .Add (.int i) (.int j) = .ok (.int (i + j)) := rfl
@[simp] theorem bin_sub (i j : Int) : binT .Sub (.int i) (.int j) = .ok (.int (i - j)) := rfl
@[simp] theorem bin_mul (i j : Int) : binT .Mult (.int i) (.int j) = if mulOk i j then .ok (.int (i * j)) else .stuck := rfl
@[simp] theorem bin_div (i j : Int) : binT .FloorDiv (.int i) (.int j) = if j ≠ 0 ∧ j.natAbs < 1073741824 then .ok (.int (i.fdiv j)) else .stuck := rfl
@[simp] theorem bin_mod (i j : Int) : binT .Mod (.int i) (.int j) = if j ≠ 0 then .ok (.int (i.fmod j)) else .stuck := rfl
@[simp] theorem bin_cat (xs ys : List T) : binT .Add (.lst xs) (.lst ys) = if (xs ++ ys).length ≤ sizeLine then .ok (.lst (xs ++ ys)) else .stuck := rfl
@[simp] theorem bin_catT (xs ys : List T) : binT .Add (.tup xs) (.tup ys) = if (xs ++ ys).length ≤ sizeLine then .ok (.tup (xs ++ ys)) else .stuck := rfl
@[simp] theorem bin_rep (xs : List T) (k : Int) : binT .Mult (.lst xs) (.int k) = if repOk k ∧ xs.length * k.toNat ≤ sizeLine then .ok (.lst ((List.replicate k.toNat xs).flatten)) else .stuck := rfl
@[simp] theorem neg_int (i : Int) : negT (.int i) = .ok (.int (-i)) := rfl
@[simp] theorem opt_nil : optInt [] = .ok none := rfl
@[simp] theorem opt_one (i : Int) : optInt [.int i] = .ok (some i) := rfl
@[simp] theorem slice_lst (l : List T) (a b : Option Int) : sliceT (.lst l) a b = .ok (.lst (cutT l a b)) := rfl
@[simp] theorem slice_tup (l : List T) (a b : Option Int) : sliceT (.tup l) a b = .ok (.tup (cutT l a b)) := rfl
@[simp] theorem it_lst (l : List T) : itemsT .plain [.lst l] = .ok l := rfl
@[simp] theorem it_tup (l : List T) : itemsT .plain [.tup l] = .ok l := rfl
@[simp] theorem it_enumT (l : List T) : itemsT .enum [.tup l] = .ok (enumL l) := rfl
@[simp] theorem it_enum (l : List T) : itemsT .enum [.lst l] = .ok (enumL l) := rfl
@[simp] theorem un_nx (ρ : Env) : unexc (.nx ρ) = .nx ρ := rfl
@[simp] theorem un_rt (t : T) : unexc (.rt t) = .rt t := rfl
@[simp] theorem cl_nx (ρ : Env) : cleanF (.nx ρ) = if noExn ρ = true then .nx ρ else .stuck := rfl
@[simp] theorem cl_rt (t : T) : cleanF (.rt t) = .rt t := rfl
@[simp] theorem fg_nx (i : Nat) (ρ : Env) : forgetF i (.nx ρ) = .nx (ρ.set i none) := rfl
@[simp] theorem fg_rt (i : Nat) (t : T) : forgetF i (.rt t) = .rt t := rfl
@[simp] theorem ca_nx (sb c nm su ρ) : caught sb c nm su (.nx ρ) = .nx ρ := rfl
@[simp] theorem ca_rt (sb c nm su t) : caught sb c nm su (.rt t) = .rt t := rfl
theorem ca_ex (sb : Str → Str → Option Bool) (c : Str) (nm : Option Nat) (su : Env → Fl) (c' : Str) (ρ : Env) : caught sb c nm su (.ex c' [] ρ) = match sb c' c with
      | some true => (match nm with
        | none => cleanF (unexc (su ρ))
        | some i => cleanF (forgetF i (unexc (su (ρ.set i (some (.exn c' [])))))))
      | some false => .ex c' [] ρ
      | none => .stuck := rfl
@[simp] theorem nx_nil : noExn [] = true := rfl
@[simp] theorem nx_none (ρ : Env) : noExn (none :: ρ) = noExn ρ := rfl
@[simp] theorem nx_val (t : T) (ρ : Env) : noExn (some (.val t) :: ρ) = noExn ρ := rfl
@[simp] theorem nx_par (t : T) (ρ : Env) : noExn (some (.par t) :: ρ) = noExn ρ := rfl
@[simp] theorem nx_own (t : List T) (ρ : Env) : noExn (some (.own t) :: ρ) = noExn ρ := rfl
@[simp] theorem res_nx (ρ : Env) : Fl.res (.nx ρ) = .ok .non := rfl
@[simp] theorem res_rt (t : T) : Fl.res (.rt t) = .ok t := rfl
@[simp] theorem res_ex (c fs ρ) : Fl.res (.ex c fs ρ) = .exc c fs := rfl
@[simp] theorem toSet_some {α : Type} (a : α) : toSet (some a) = .ok a := rfl
@[simp] theorem scal_int (i : Int) : isScal (.int i) = true := rfl
theorem idx_tup (l : List T) (i : Int) : idxT (.tup l) (.int i) = match L2.atI l i with | some t => .ok t | none => .stuck := rfl
theorem idx_lst (l : List T) (i : Int) : idxT (.lst l) (.int i) = match L2.atI l i with | some t => .ok t | none => .stuck := rfl
theorem idx_scr (l : List T) (i : Int) : idxT (.scr l) (.int i) = match L2.atI l i with | some t => .ok t | none => .stuck := rfl
@[simp] theorem idx_tz {l : List Int} {i : Nat} (h : i < l.length) : idxT (tz l) (.int (i : Int)) = .ok (.int l[i]) := by
  rw [idx_tup, at_nat (by simpa using h)]; simp
@[simp] theorem idx_lz {l : List Int} {i : Nat} (h : i < l.length) : idxT (lz l) (.int (i : Int)) = .ok (.int l[i]) := by
  rw [idx_lst, at_nat (by simpa using h)]; simp
@[simp] theorem own_get {ρ : Env} {i : Nat} {xs : List T} (h : ρ[i]? = some (some (.own xs))) : ownAt ρ i = .ok xs := by unfold ownAt; rw [h]
@[simp] theorem truthR_bl (b : Bool) : truthR (.bl b) = .ok b := rfl
@[simp] theorem truthR_int (i : Int) : truthR (.int i) = .ok (i != 0) := rfl
@[simp] theorem truthR_non : truthR .non = .ok false := rfl
@[simp] theorem truthR_lst (l : List T) : truthR (.lst l) = .ok (!l.isEmpty) := rfl
@[simp] theorem truthR_tup (l : List T) : truthR (.tup l) = .ok (!l.isEmpty) := rfl
@[simp] theorem flat_int (i : Int) : (T.int i).flat = true := rfl
@[simp] theorem flat_bl (i : Bool) : (T.bl i).flat = true := rfl
@[simp] theorem cmp_lt (i j : Int) : cmpT .Lt (.int i) (.int j) = .ok (decide (i < j)) := rfl
@[simp] theorem cmp_le (i j : Int) : cmpT .LtE (.int i) (.int j) = .ok (decide (i ≤ j)) := rfl
@[simp] theorem cmp_gt (i j : Int) : cmpT .Gt (.int i) (.int j) = .ok (decide (j < i)) := rfl
@[simp] theorem cmp_ge (i j : Int) : cmpT .GtE (.int i) (.int j) = .ok (decide (j ≤ i)) := rfl
@[simp] theorem cmp_eq (i j : Int) : cmpT .Eq (.int i) (.int j) = .ok (decide (i = j)) := rfl
@[simp] theorem cmp_ne (i j : Int) : cmpT .NotEq (.int i) (.int j) = .ok (!decide (i = j)) := rfl
@[simp] theorem cmp_eq_str (i j : Str) : cmpT .Eq (.str i) (.str j) = .ok (decide (i = j)) := rfl
@[simp] theorem cmp_ne_str (i j : Str) : cmpT .NotEq (.str i) (.str j) = .ok (!decide (i = j)) := rfl
@[simp] theorem cmp_eq_bl (i j : Bool) : cmpT .Eq (.bl i) (.bl j) = .ok (decide (i = j)) := rfl
@[simp] theorem cmp_ne_bl (i j : Bool) : cmpT .NotEq (.bl i) (.bl j) = .ok (!decide (i = j)) := rfl
@[simp] theorem cmp_eq_lz (a b : List Int) : cmpT .Eq (lz a) (lz b) = .ok (decide (a = b)) := eqT_lz a b
@[simp] theorem cmp_eq_tz (a b : List Int) : cmpT .Eq (tz a) (tz b) = .ok (decide (a = b)) := eqT_tz a b
@[simp] theorem cmp_ne_lz (a b : List Int) : cmpT .NotEq (lz a) (lz b) = .ok (!decide (a = b)) := by show (eqT _ _).bd _ = _; rw [eqT_lz]; rfl
@[simp] theorem cmp_ne_tz (a b : List Int) : cmpT .NotEq (tz a) (tz b) = .ok (!decide (a = b)) := by show (eqT _ _).bd _ = _; rw [eqT_tz]; rfl
@[simp] theorem bi_len_lst (l : List T) : biT .len [.lst l] = .ok (.int (l.length : Nat)) := rfl
@[simp] theorem bi_len_tup (l : List T) : biT .len [.tup l] = .ok (.int (l.length : Nat)) := rfl
@[simp] theorem bi_len_scr (l : List T) : biT .len [.scr l] = .ok (.int (l.length : Nat)) := rfl
@[simp] theorem bi_int (i : Int) : biT .toInt [.int i] = .ok (.int i) := rfl
@[simp] theorem bi_absI (i : Int) : biT .abs [.int i] = .ok (.int (if i < 0 then -i else i)) := rfl
@[simp] theorem bi_tup_lst (l : List T) : biT .tupOf [.lst l] = .ok (.tup l) := rfl
@[simp] theorem bi_tup_tup (l : List T) : biT .tupOf [.tup l] = .ok (.tup l) := rfl
@[simp] theorem bi_list_lst (l : List T) : biT .listOf [.lst l] = .ok (.lst l) := rfl
@[simp] theorem bi_list_tup (l : List T) : biT .listOf [.tup l] = .ok (.lst l) := rfl
@[simp] theorem bi_isi (ts : List String) (x : T) : biT (.isi ts) [x] = .ok (.bl (ts.any (isiT x))) := rfl
@[simp] theorem isi_int_int (i : Int) : isiT (.int i) "int" = true := by simp [isiT, tyName]
@[simp] theorem isi_int_bool (i : Int) : isiT (.int i) "bool" = false := by simp [isiT, tyName]
@[simp] theorem isi_tup (l : List T) : isiT (.tup l) "tuple" = true := by simp [isiT, tyName]
@[simp] theorem isi_lst (l : List T) : isiT (.lst l) "list" = true := by simp [isiT, tyName]
@[simp] theorem isi_lst_tup (l : List T) : isiT (.lst l) "tuple" = false := by simp [isiT, tyName]
@[simp] theorem isi_tup_lst (l : List T) : isiT (.tup l) "list" = false := by simp [isiT, tyName]
@[simp] theorem isi_bl_bool (i : Bool) : isiT (.bl i) "bool" = true := by simp [isiT, tyName]
@[simp] theorem isi_str (i : Str) : isiT (.str i) "str" = true := by simp [isiT, tyName]
theorem bi_factN {i : Nat} (h : i ≤ 20) : biT .fact [.int (i : Int)] = .ok (.int (factN i)) := by
  have : (0 : Int) ≤ (i : Int) ∧ (i : Int) ≤ 20 := by omega
  simp [biT, this]
theorem bi_sorted_tz {l : List Int} (h : l.length < 64) : biT .sorted [tz l] = .ok (lz (sortInt l)) := by simp [biT, listOf?, ints_map, h]
theorem bi_sorted_lz {l : List Int} (h : l.length < 64) : biT .sorted [lz l] = .ok (lz (sortInt l)) := by simp [biT, listOf?, ints_map, h]
theorem le_line {n : Nat} (h : n ≤ 16000000) : n ≤ sizeLine := by rw [sizeLine_eq]; omega
theorem lt_line {n : Nat} (h : n ≤ 16000000) : n < sizeLine := by rw [sizeLine_eq]; omega
theorem bi_range {n : Nat} (h : n ≤ 16000000) : biT .listRng [.int (n : Int)] = .ok (lz (rng n)) := by
  have h1 : (-(2 ^ 60) : Int) < (n : Int) ∧ (n : Int) ≤ sizeLine := ⟨by omega, by have := le_line h; omega⟩
  show (if _ then _ else _) = _
  rw [if_pos h1]
  simp [rangeL_rng]
theorem it_rng1 {n : Nat} (h : n ≤ 16000000) : itemsT .rng1 [.int (n : Int)] = .ok ((rng n).map .int) := by
  have h1 : (-(2 ^ 60) : Int) < (n : Int) ∧ (n : Int) ≤ sizeLine := ⟨by omega, by have := le_line h; omega⟩
  show (if _ then _ else _) = _
  rw [if_pos h1]
  simp [rangeL_rng]
theorem get_rng {n i : Nat} (h : i < n) : (rng n)[i]? = some (i : Int) := by simp [rng, h]
/-- a def's call -/
theorem call_eq {G : Pg} {n i : Nat} {d : Df} {ts : List T} (hd : G.defs[i]? = some d) (hl : ts.length = d.ps.length) : callF G (n + 1) i ts = (exs (callF G n) (sub? G.subs) d.body (startE d.N.length ts)).res := by
  conv => lhs; unfold callF
  rw [hd]
  simp only [hl, if_true]
/-! ### a def's body, step by step -/
section
variable {cf : Nat → List T → Res T} {sb : Str → Str → Option Bool} {s : IS} {ss : List IS} {ρ ρ' : Env} {v : Res T} {t : T}
theorem g_step (h : ex cf sb s ρ = .nx ρ') (k : (exs cf sb ss ρ').res = v) : (exs cf sb (s :: ss) ρ).res = v := by simp only [exs, h]; exact k
theorem g_ret (h : ex cf sb s ρ = .rt t) (k : v = .ok t) : (exs cf sb (s :: ss) ρ).res = v := by simp only [exs, h]; exact k.symm
theorem g_exc {c fs} (h : ex cf sb s ρ = .ex c fs ρ') (k : v = .exc c fs) : (exs cf sb (s :: ss) ρ).res = v := by simp only [exs, h]; exact k.symm
theorem g_end (k : v = .ok .non) : (exs cf sb [] ρ).res = v := by simp only [exs]; exact k.symm
theorem x_step {w : Fl} (h : ex cf sb s ρ = .nx ρ') (k : exs cf sb ss ρ' = w) : exs cf sb (s :: ss) ρ = w := by simp only [exs, h]; exact k
theorem x_end {w : Fl} (k : w = .nx ρ) : exs cf sb [] ρ = w := by simp only [exs]; exact k.symm
theorem f_gen {tg : Tg} {sk : Sk} {ses : List IE} {body : List IS} {xs : List T} (hi : (evs cf ses ρ).bd (itemsT sk) = .ok xs) (R : Fl → Prop) (I : Nat → Env → Prop) (h0 : I 0 ρ) (hend : ∀ ρ, I xs.length ρ → R (.nx ρ))
    (hs : ∀ i ρ (h : i < xs.length), I i ρ → ∃ ρ1, tg.set xs[i] ρ = some ρ1 ∧ ((∃ ρ2, (exs cf sb body ρ1 = .nx ρ2 ∨ exs cf sb body ρ1 = .ct ρ2) ∧ I (i + 1) ρ2) ∨ (∃ ρ2, exs cf sb body ρ1 = .bk ρ2 ∧ R (.nx ρ2)) ∨ (∃ t, exs cf sb body ρ1 = .rt t ∧ R (.rt t)) ∨ ∃ c fs ρ2, exs cf sb body ρ1 = .ex c fs ρ2 ∧ R (.ex c fs ρ2))) :
    R (ex cf sb (.for tg sk ses body) ρ) := by
  simp only [ex]
  rw [← fl_bd, hi]
  exact forL_gen R I h0 hend hs
/-- a loop that runs through -/
theorem f_run {tg : Tg} {sk : Sk} {ses : List IE} {body : List IS} {xs : List T} (hi : (evs cf ses ρ).bd (itemsT sk) = .ok xs) (I : Nat → Env → Prop) (h0 : I 0 ρ)
    (hs : ∀ i ρ (h : i < xs.length), I i ρ → ∃ ρ1, tg.set xs[i] ρ = some ρ1 ∧ ∃ ρ2, exs cf sb body ρ1 = .nx ρ2 ∧ I (i + 1) ρ2) : ∃ ρ2, ex cf sb (.for tg sk ses body) ρ = .nx ρ2 ∧ I xs.length ρ2 :=
  f_gen hi (fun r => ∃ ρ2, r = .nx ρ2 ∧ I xs.length ρ2) I h0 (fun ρ h => ⟨ρ, rfl, h⟩) fun i ρ h hI => by
    obtain ⟨ρ1, e1, ρ2, e2, h2⟩ := hs i ρ h hI
    exact ⟨ρ1, e1, .inl ⟨ρ2, .inl e2, h2⟩⟩
theorem g_for {tg : Tg} {sk : Sk} {ses : List IE} {body : List IS} {xs : List T} (hi : (evs cf ses ρ).bd (itemsT sk) = .ok xs) (I : Nat → Env → Prop) (h0 : I 0 ρ) (hend : ∀ ρ, I xs.length ρ → (exs cf sb ss ρ).res = v)
    (hs : ∀ i ρ (h : i < xs.length), I i ρ → ∃ ρ1, tg.set xs[i] ρ = some ρ1 ∧ ((∃ ρ2, exs cf sb body ρ1 = .nx ρ2 ∧ I (i + 1) ρ2) ∨ (∃ t, exs cf sb body ρ1 = .rt t ∧ v = .ok t))) :
    (exs cf sb (.for tg sk ses body :: ss) ρ).res = v := by
  have key := f_gen (cf := cf) (sb := sb) (tg := tg) (body := body) hi (fun r => (∃ ρ2, r = .nx ρ2 ∧ (exs cf sb ss ρ2).res = v) ∨ ∃ t, r = .rt t ∧ v = .ok t) I h0 (fun ρ h => .inl ⟨ρ, rfl, hend ρ h⟩) fun i ρ h hI => by
    obtain ⟨ρ1, e1, h1⟩ := hs i ρ h hI
    refine ⟨ρ1, e1, ?_⟩
    rcases h1 with ⟨ρ2, e2, h2⟩ | ⟨t, e2, h2⟩
    · exact .inl ⟨ρ2, .inl e2, h2⟩
    · exact .inr (.inr (.inl ⟨t, e2, .inr ⟨t, rfl, h2⟩⟩))
  rcases key with ⟨ρ2, e, h⟩ | ⟨t, e, h⟩
  · exact g_step e h
  · exact g_ret e h
end
theorem compL_gen {f : T → Res (Option T)} {g : T → Option T} : ∀ {l : List T}, (∀ x ∈ l, f x = .ok (g x)) → compL f l = .ok (l.filterMap g)
  | [], _ => rfl
  | a :: l, h => by
    have ih := compL_gen (l := l) fun x hx => h x (by simp [hx])
    simp only [compL, h a (by simp), bd_ok, ih, List.filterMap_cons]
    cases g a <;> rfl
section
variable {cf : Nat → List T → Res T} {ρ : Env} {tg : Tg} {elt : IE} {sk : Sk} {ses ifs : List IE}
theorem comp_gen {xs : List T} (p : T → Bool) (g : T → T) (hi : (evs cf ses ρ).bd (itemsT sk) = .ok xs) (h : ∀ x ∈ xs, ∃ ρ', tg.set x (wipeE ρ tg.slots) = some ρ' ∧ evAll cf ifs ρ' = .ok (p x) ∧ (p x = true → ev cf elt ρ' = .ok (g x))) :
    ev cf (.comp tg elt sk ses ifs) ρ = .ok (.lst ((xs.filter p).map g)) := by
  simp only [ev]
  rw [← bd_bd, hi]
  simp only [bd_ok]
  rw [compL_gen (g := fun x => if p x = true then some (g x) else none)]
  · simp only [Res.nox, bd_ok]
    congr 2
    clear hi h
    induction xs with
    | nil => rfl
    | cons a l ih => by_cases e : p a = true <;> simp [e, List.filter_cons, ih]
  · intro x hx
    obtain ⟨ρ', h1, h2, h3⟩ := h x hx
    rw [h1]
    simp only [toSet, bd_ok, h2]
    by_cases e : p x = true
    · rw [if_pos e, if_pos e, h3 e]; rfl
    · rw [if_neg e, if_neg e]
theorem comp_ints {l : List Int} (p : Int → Bool) (g : Int → Int) (hi : (evs cf ses ρ).bd (itemsT sk) = .ok (l.map .int)) (h : ∀ x ∈ l, ∃ ρ', tg.set (.int x) (wipeE ρ tg.slots) = some ρ' ∧ evAll cf ifs ρ' = .ok (p x) ∧ (p x = true → ev cf elt ρ' = .ok (.int (g x)))) :
    ev cf (.comp tg elt sk ses ifs) ρ = .ok (lz ((l.filter p).map g)) := by
  simp only [ev]
  rw [← bd_bd, hi]
  simp only [bd_ok]
  rw [compL_ints (g := fun x => if p x = true then some (g x) else none)]
  · simp only [Res.nox, bd_ok]
    congr 3
    clear hi h
    induction l with
    | nil => rfl
    | cons a l ih => by_cases e : p a = true <;> simp [e, List.filter_cons, ih]
  · intro x hx
    obtain ⟨ρ', h1, h2, h3⟩ := h x hx
    rw [h1]
    simp only [toSet, bd_ok, h2]
    by_cases e : p x = true
    · rw [if_pos e, if_pos e, h3 e]; rfl
    · rw [if_neg e, if_neg e]; rfl
end
theorem mul_small {i j : Int} (h : -1000000 ≤ j ∧ j ≤ 1000000) : mulOk i j := by
  exact .inr (by omega)
theorem rep_small {k : Nat} (h : k ≤ 1000000) : repOk (k : Int) := by
  show ((k : Int)).natAbs < _
  omega
theorem mul_small' {i j : Int} (h : -1000000 ≤ i ∧ i ≤ 1000000) : mulOk i j := by
  exact .inl (by omega)
theorem g_ite {cf : Nat → List T → Res T} {sb : Str → Str → Option Bool} {c : IE} {a b : List IS} {ss : List IS} {ρ : Env} {v : Res T} {k : Bool} (h : (ev cf c ρ).bd truthR = .ok k) (ht : k = true → (exs cf sb (a ++ ss) ρ).res = v) (hf : k = false → (exs cf sb (b ++ ss) ρ).res = v) : (exs cf sb (.ite c a b :: ss) ρ).res = v := by
  have app : ∀ (l : List IS) (ρ : Env), exs cf sb (l ++ ss) ρ = match exs cf sb l ρ with
      | .nx ρ' => exs cf sb ss ρ'
      | r => r := by
    intro l
    induction l with
    | nil => intro ρ; simp only [List.nil_append, exs]
    | cons s l ih =>
      intro ρ
      simp only [List.cons_append, exs]
      cases ex cf sb s ρ with
      | nx ρ' => exact ih ρ'
      | _ => rfl
  have e : ex cf sb (.ite c a b) ρ = if k = true then exs cf sb a ρ else exs cf sb b ρ := by
    simp only [ex]
    cases h1 : ev cf c ρ with
    | ok t => rw [h1] at h; simp only [bd_ok] at h; simp [h]
    | exc c fs => rw [h1] at h; cases h
    | stuck => rw [h1] at h; cases h
  simp only [exs, e]
  cases k with
  | true => have := ht rfl; rw [app] at this; exact this
  | false => have := hf rfl; rw [app] at this; exact this
end BV

/-! The bodies that more than one text holds (printed by gen.py lib). -/
namespace BV
open PySem
/-- is_permutation('row',) of 1 calls [] -/
def B_is_permutation (g0 : Str) : List IS := [.ret (.and (.cmp .LtE (.bi .len [(.var .par 0)]) (.gl g0 (.int 6))) (.cmp .Eq (.bi .sorted [(.var .par 0)]) (.bi .listRng [(.bi .len [(.var .par 0)])])))]
/-- permutation('size', 'number', 'left', 'row', 'rest', 'block') of 2 calls [] -/
def B_permutation (g0 : Str) : List IS := [.ite (.or (.cmp .Lt (.var .par 0) (.int 0)) (.cmp .Gt (.var .par 0) (.gl g0 (.int 6)))) [.raise "BadPermutation"] [], .ite (.or (.cmp .Lt (.var .par 1) (.int 0)) (.cmp .GtE (.var .par 1) (.bi .fact [(.var .par 0)]))) [.raise "BadDraw"] [], .asgO 2 (.bi .listRng [(.var .par 0)]), .asgO 3 (.lst []), .for (.nm .val 4) .rng3 [(.bin .Sub (.var .par 0) (.int 1)), (.neg (.int 1)), (.neg (.int 1))] [.asg 5 (.bi .fact [(.var .val 4)]), .appPop 3 2 [(.bin .FloorDiv (.var .par 1) (.var .val 5))], .asgP 1 (.bin .Mod (.var .par 1) (.var .val 5))], .ret (.bi .tupOf [(.var .own 3)])]
/-- check_ring('row',) of 1 calls ['is_permutation'] -/
def B_check_ring (g0 : Str) (c0 : Nat) : List IS := [.ite (.or (.cmp .Lt (.bi .len [(.var .par 0)]) (.gl g0 (.int 3))) (.not (.call c0 [(.var .par 0)]))) [.raise "BadPermutation"] []]
/-- ring_form('row', 'start', 'turned') of 1 calls ['check_ring'] -/
def B_ring_form (c0 : Nat) : List IS := [.expr (.call c0 [(.var .par 0)]), .asg 1 (.meth .indexT (.var .par 0) [(.int 0)]), .asg 2 (.chk (.bin .Add (.slice (.var .par 0) [(.var .val 1)] []) (.slice (.var .par 0) [] [(.var .val 1)]))), .ite (.cmp .Gt (.idx (.var .val 2) (.int 1)) (.idx (.var .val 2) (.neg (.int 1)))) [.ret (.bin .Add (.slice (.var .val 2) [] [(.int 1)]) (.turn true (.var .val 2)))] [], .ret (.var .val 2)]
/-- ring_edges('row', 'edges', 'place', 'entry', 'before') of 1 calls ['check_ring'] -/
def B_ring_edges (c0 : Nat) : List IS := [.expr (.call c0 [(.var .par 0)]), .asgO 1 (.lst []), .for (.tp [(.nm .par 2), (.nm .par 3)]) .enum [(.var .par 0)] [.asg 4 (.chk (.idx (.var .par 0) (.bin .Sub (.var .par 2) (.int 1)))), .app 1 (.tup [(.bi .min2 [(.var .val 4), (.var .par 3)]), (.bi .max2 [(.var .val 4), (.var .par 3)])])], .ret (.bi .tupOf [(.bi .sorted [(.var .own 1)])])]
/-- is_ring_form('row', 'size') of 2 calls ['is_permutation'] -/
def B_is_ring_form (g0 : Str) (c0 : Nat) : List IS := [.ite (.or (.cmp .NotEq (.bi .len [(.var .par 0)]) (.var .par 1)) (.or (.cmp .Lt (.var .par 1) (.gl g0 (.int 3))) (.not (.call c0 [(.var .par 0)])))) [.ret (.bl false)] [], .ret (.and (.cmp .Eq (.idx (.var .par 0) (.int 0)) (.int 0)) (.cmp .Lt (.idx (.var .par 0) (.int 1)) (.idx (.var .par 0) (.neg (.int 1)))))]
/-- ring_forms('size', 'rows', 'number', 'row') of 1 calls ['permutation'] -/
def B_ring_forms (g0 g1 : Str) (c0 : Nat) : List IS := [.ite (.or (.cmp .Lt (.var .par 0) (.gl g0 (.int 3))) (.cmp .Gt (.var .par 0) (.gl g1 (.int 6)))) [.raise "BadPermutation"] [], .asg 1 (.comp (.nm .val 2) (.call c0 [(.var .par 0), (.var .val 2)]) .rng1 [(.bi .fact [(.bin .Sub (.var .par 0) (.int 1))])] []), .ret (.comp (.nm .val 3) (.var .val 3) .plain [(.var .val 1)] [(.cmp .Lt (.idx (.var .val 3) (.int 1)) (.idx (.var .val 3) (.neg (.int 1))))])]
/-- _law_cell('script', 'k') of 2 calls [] -/
def B_law_cell : List IS := [.ite (.cmp .Lt (.var .par 1) (.bi .len [(.var .par 0)])) [.ret (.bi .toInt [(.idx (.var .par 0) (.var .par 1))])] [], .ite (.cmp .Gt (.bi .len [(.var .par 0)]) (.int 0)) [.ret (.chk (.bin .Add (.bin .Mult (.bi .toInt [(.idx (.var .par 0) (.int 0))]) (.bin .Add (.bin .Mult (.int 2) (.var .par 1)) (.int 3))) (.bin .Mult (.int 977) (.var .par 1))))] [], .ret (.chk (.bin .Mult (.int 977) (.var .par 1)))]
/-- _law_numbers('cell', 'many', 'number', 'mixed', 'row', 'k') of 2 calls [] -/
def B_law_numbers : List IS := [.asg 2 (.bi .abs [(.bi .toInt [(.var .par 0)])]), .asg 3 (.bin .Add (.bin .Mod (.bi .toInt [(.var .val 2)]) (.int 2147483629)) (.int 1)), .asgO 4 (.lst []), .for (.nm .val 5) .rng1 [(.var .par 1)] [.ite (.cmp .GtE (.var .val 2) (.int 5040)) [.app 4 (.bin .Mod (.bi .toInt [(.var .val 2)]) (.int 5040)), .asg 2 (.bin .FloorDiv (.var .val 2) (.int 5040))] [.asg 3 (.bin .Mod (.bi .toInt [(.bin .Add (.bin .Mult (.var .val 3) (.int 48271)) (.bin .Mult (.int 69621) (.bin .Add (.var .val 5) (.int 1))))]) (.int 2147483647)), .app 4 (.bin .Mod (.bin .FloorDiv (.bin .Mod (.bi .toInt [(.bin .Add (.bin .FloorDiv (.bin .Mult (.var .val 3) (.var .val 3)) (.int 7)) (.bin .Mult (.int 3) (.var .val 3)))]) (.int 2147483629)) (.int 11)) (.int 5040))]], .retO 4]
/-- _law_same('value', 'due', 'k') of 2 calls ['_law_same'] -/
def B_law_same (c0 : Nat) : List IS := [.ite (.or (.bi (.isi ["tuple"]) [(.var .par 1)]) (.bi (.isi ["list"]) [(.var .par 1)])) [.ite (.or (.cmp .NotEq (.bi (.isi ["tuple"]) [(.var .par 1)]) (.bi (.isi ["tuple"]) [(.var .par 0)])) (.cmp .NotEq (.bi (.isi ["list"]) [(.var .par 1)]) (.bi (.isi ["list"]) [(.var .par 0)]))) [.ret (.bl false)] [], .ite (.cmp .NotEq (.bi .len [(.var .par 0)]) (.bi .len [(.var .par 1)])) [.ret (.bl false)] [], .for (.nm .val 2) .rng1 [(.bi .len [(.var .par 1)])] [.ite (.not (.call c0 [(.idx (.var .par 0) (.var .val 2)), (.idx (.var .par 1) (.var .val 2))])) [.ret (.bl false)] []], .ret (.bl true)] [], .ite (.cmp .Is (.var .par 1) .non) [.ret (.cmp .Is (.var .par 0) .non)] [], .ite (.bi (.isi ["bool"]) [(.var .par 1)]) [.ret (.and (.bi (.isi ["bool"]) [(.var .par 0)]) (.cmp .Eq (.var .par 0) (.var .par 1)))] [], .ite (.bi (.isi ["str"]) [(.var .par 1)]) [.ret (.and (.bi (.isi ["str"]) [(.var .par 0)]) (.cmp .Eq (.var .par 0) (.var .par 1)))] [], .ret (.and (.bi (.isi ["int"]) [(.var .par 0)]) (.and (.not (.bi (.isi ["bool"]) [(.var .par 0)])) (.cmp .Eq (.var .par 0) (.var .par 1))))]
/-- _law_factorial('size', 'product', 'k') of 1 calls [] -/
def B_law_factorial : List IS := [.asg 1 (.int 1), .for (.nm .val 2) .rng1 [(.var .par 0)] [.asg 1 (.bin .Mult (.var .val 1) (.bin .Add (.var .val 2) (.int 1)))], .ret (.var .val 1)]
/-- _law_permutation('size', 'number', 'left', 'row', 'k', 'block') of 2 calls ['_law_factorial'] -/
def B_law_permutation (c0 : Nat) : List IS := [.asgO 2 (.comp (.nm .val 4) (.var .val 4) .rng1 [(.var .par 0)] []), .asgO 3 (.lst []), .for (.nm .val 4) .rng1 [(.var .par 0)] [.asg 5 (.call c0 [(.bin .Sub (.bin .Sub (.var .par 0) (.int 1)) (.var .val 4))]), .appPop 3 2 [(.bin .FloorDiv (.var .par 1) (.var .val 5))], .asgP 1 (.bin .Mod (.bi .toInt [(.var .par 1)]) (.var .val 5))], .retO 3]
/-- _law_edge('a', 'b') of 2 calls [] -/
def B_law_edge : List IS := [.ret (.tup [(.bi .min2 [(.var .par 0), (.var .par 1)]), (.bi .max2 [(.var .par 0), (.var .par 1)])])]
/-- _law_form('row', 'at', 'turned', 'k', 'entry') of 1 calls [] -/
def B_law_form : List IS := [.asg 1 (.meth .index (.comp (.nm .par 4) (.chk (.var .par 4)) .plain [(.var .par 0)] []) [(.int 0)]), .asg 2 (.comp (.nm .val 3) (.chk (.idx (.var .par 0) (.bin .Mod (.bi .toInt [(.bin .Add (.var .val 1) (.var .val 3))]) (.bi .len [(.var .par 0)])))) .rng1 [(.bi .len [(.var .par 0)])] []), .ite (.cmp .Gt (.idx (.var .val 2) (.int 1)) (.idx (.var .val 2) (.bin .Sub (.bi .len [(.var .val 2)]) (.int 1)))) [.asg 2 (.comp (.nm .val 3) (.idx (.var .val 2) (.bin .Mod (.bi .toInt [(.bin .Sub (.bi .len [(.var .val 2)]) (.var .val 3))]) (.bi .len [(.var .val 2)]))) .rng1 [(.bi .len [(.var .val 2)])] [])] [], .ret (.bi .tupOf [(.var .val 2)])]
/-- check_permutation('row',) of 1 calls ['is_permutation'] -/
def B_check_permutation (c0 : Nat) : List IS := [.ite (.not (.call c0 [(.var .par 0)])) [.raise "BadPermutation"] []]
/-- inverse('row', 'undone', 'place', 'entry') of 1 calls ['check_permutation'] -/
def B_inverse (c0 : Nat) : List IS := [.expr (.call c0 [(.var .par 0)]), .asgO 1 (.bin .Mult (.lst [(.int 0)]) (.bi .len [(.var .par 0)])), .for (.tp [(.nm .par 2), (.nm .par 3)]) .enum [(.var .par 0)] [.setI 1 (.var .par 3) (.chk (.var .par 2))], .ret (.bi .tupOf [(.var .own 1)])]
/-- compose('first', 'second', 'entry') of 2 calls ['check_permutation'] -/
def B_compose (c0 : Nat) : List IS := [.expr (.call c0 [(.var .par 0)]), .expr (.call c0 [(.var .par 1)]), .ite (.cmp .NotEq (.bi .len [(.var .par 0)]) (.bi .len [(.var .par 1)])) [.raise "BadPermutation"] [], .ret (.bi .tupOf [(.comp (.nm .par 2) (.chk (.idx (.var .par 1) (.var .par 2))) .plain [(.var .par 0)] [])])]
/-- make_graph('nodes', 'edges', 'found', 'a', 'b', 'edge') of 2 calls [] -/
def B_make_graph (g0 : Str) : List IS := [.ite (.or (.cmp .Lt (.var .par 0) (.int 1)) (.cmp .Gt (.var .par 0) (.gl g0 (.int 6)))) [.raise "BadGraph"] [], .asgO 2 (.lst []), .for (.tp [(.nm .par 3), (.nm .par 4)]) .plain [(.var .par 1)] [.ite (.or (.cmp .Lt (.var .par 3) (.int 0)) (.or (.cmp .GtE (.var .par 3) (.var .par 0)) (.or (.cmp .Lt (.var .par 4) (.int 0)) (.or (.cmp .GtE (.var .par 4) (.var .par 0)) (.cmp .Eq (.var .par 3) (.var .par 4)))))) [.raise "BadGraph"] [], .asg 5 (.tup [(.bi .min2 [(.var .par 3), (.var .par 4)]), (.bi .max2 [(.var .par 3), (.var .par 4)])]), .ite (.cmp .In (.var .val 5) (.var .own 2)) [.raise "BadGraph"] [], .app 2 (.var .val 5)], .ret (.chk (.tup [(.var .par 0), (.bi .tupOf [(.bi .sorted [(.var .own 2)])])]))]
/-- has_edge('graph', 'a', 'b') of 3 calls [] -/
def B_has_edge : List IS := [.ret (.cmp .In (.tup [(.bi .min2 [(.var .par 1), (.var .par 2)]), (.bi .max2 [(.var .par 1), (.var .par 2)])]) (.idx (.var .par 0) (.int 1)))]
/-- node_pairs('nodes', 'a', 'b') of 1 calls [] -/
def B_node_pairs : List IS := [.ret (.comp2 (.nm .val 1) .rng1 [(.var .par 0)] [] (.nm .val 2) .rng2 [(.bin .Add (.var .val 1) (.int 1)), (.var .par 0)] [] (.tup [(.var .val 1), (.var .val 2)]))]
/-- pair_place('nodes', 'a', 'b') of 3 calls ['node_pairs'] -/
def B_pair_place (c0 : Nat) : List IS := [.ret (.meth .index (.call c0 [(.var .par 0)]) [(.tup [(.bi .min2 [(.var .par 1), (.var .par 2)]), (.bi .max2 [(.var .par 1), (.var .par 2)])])])]
/-- edge_table('graph', 'pair') of 1 calls ['node_pairs'] -/
def B_edge_table (c0 : Nat) : List IS := [.ret (.bi .tupOf [(.comp (.nm .val 1) (.bi .toInt [(.cmp .In (.var .val 1) (.idx (.var .par 0) (.int 1)))]) .plain [(.call c0 [(.idx (.var .par 0) (.int 0))])] [])])]
/-- relabel('graph', 'row', 'a', 'b') of 2 calls ['is_permutation', 'make_graph'] -/
def B_relabel (c0 c1 : Nat) : List IS := [.ite (.or (.cmp .NotEq (.bi .len [(.var .par 1)]) (.idx (.var .par 0) (.int 0))) (.not (.call c0 [(.var .par 1)]))) [.raise "BadPermutation"] [], .ret (.call c1 [(.idx (.var .par 0) (.int 0)), (.comp (.tp [(.nm .par 2), (.nm .par 3)]) (.chk (.tup [(.idx (.var .par 1) (.var .par 2)), (.idx (.var .par 1) (.var .par 3))])) .plain [(.idx (.var .par 0) (.int 1))] [])])]
/-- _law_after('first', 'second', 'entry') of 2 calls [] -/
def B_law_after : List IS := [.ret (.comp (.nm .par 2) (.chk (.idx (.var .par 1) (.var .par 2))) .plain [(.var .par 0)] [])]
/-- _law_pairs('nodes', 'pairs', 'a', 'b') of 1 calls [] -/
def B_law_pairs : List IS := [.asgO 1 (.lst []), .for (.nm .val 2) .rng1 [(.var .par 0)] [.for (.nm .val 3) .rng2 [(.bin .Add (.var .val 2) (.int 1)), (.var .par 0)] [.app 1 (.tup [(.var .val 2), (.var .val 3)])]], .retO 1]
/-- _law_moved('edges', 'row', 'edge') of 2 calls ['_law_edge'] -/
def B_law_moved (c0 : Nat) : List IS := [.ret (.bi .tupOf [(.bi .sorted [(.comp (.nm .par 2) (.call c0 [(.idx (.var .par 1) (.idx (.var .par 2) (.int 0))), (.idx (.var .par 1) (.idx (.var .par 2) (.int 1)))]) .plain [(.var .par 0)] [])])])]
/-- permutation_number('row', 'number', 'place', 'entry', 'smaller', 'later') of 1 calls ['check_permutation'] -/
def B_permutation_number (c0 : Nat) : List IS := [.expr (.call c0 [(.var .par 0)]), .asg 1 (.int 0), .for (.tp [(.nm .par 2), (.nm .par 3)]) .enum [(.var .par 0)] [.asg 4 (.bi .len [(.comp (.nm .par 5) (.chk (.var .par 5)) .plain [(.slice (.var .par 0) [(.bin .Add (.var .par 2) (.int 1))] [])] [(.cmp .Lt (.var .par 5) (.var .par 3))])]), .aug 1 .Add (.bin .Mult (.var .val 4) (.bi .fact [(.bin .Sub (.bin .Sub (.bi .len [(.var .par 0)]) (.int 1)) (.var .par 2))]))], .ret (.var .val 1)]
/-- _law_cell('script', 'k') of 2 calls [] -/
def B_law_cell_2 : List IS := [.ite (.cmp .Lt (.var .par 1) (.bi .len [(.var .par 0)])) [.ret (.chk (.idx (.var .par 0) (.var .par 1)))] [], .ret (.int 0)]
/-- _law_integer('value', 'due') of 2 calls [] -/
def B_law_integer : List IS := [.ret (.and (.bi (.isi ["int"]) [(.var .par 0)]) (.and (.not (.bi (.isi ["bool"]) [(.var .par 0)])) (.cmp .Eq (.var .par 0) (.var .par 1))))]
/-- _law_same_row('value', 'due', 'k') of 2 calls ['_law_integer'] -/
def B_law_same_row (c0 : Nat) : List IS := [.ite (.or (.not (.bi (.isi ["tuple"]) [(.var .par 0)])) (.cmp .NotEq (.bi .len [(.var .par 0)]) (.bi .len [(.var .par 1)]))) [.ret (.bl false)] [], .for (.nm .val 2) .rng1 [(.bi .len [(.var .par 1)])] [.ite (.not (.call c0 [(.idx (.var .par 0) (.var .val 2)), (.idx (.var .par 1) (.var .val 2))])) [.ret (.bl false)] []], .ret (.bl true)]
/-- _law_rank('row', 'rank', 'k', 'lower', 'entry') of 1 calls ['_law_factorial'] -/
def B_law_rank (c0 : Nat) : List IS := [.asg 1 (.int 0), .for (.nm .val 2) .rng1 [(.bi .len [(.var .par 0)])] [.asg 3 (.comp (.nm .par 4) (.chk (.var .par 4)) .plain [(.slice (.var .par 0) [(.bin .Add (.var .val 2) (.int 1))] [])] [(.cmp .Lt (.var .par 4) (.idx (.var .par 0) (.var .val 2)))]), .asg 1 (.bin .Add (.var .val 1) (.bin .Mult (.bi .len [(.var .val 3)]) (.call c0 [(.bin .Sub (.bin .Sub (.bi .len [(.var .par 0)]) (.int 1)) (.var .val 2))])))], .ret (.var .val 1)]
/-- _law_numbers('cell', 'many', 'number', 'mixed', 'row', 'k') of 2 calls [] -/
def B_law_numbers_2 : List IS := [.asg 2 (.bi .abs [(.bi .toInt [(.var .par 0)])]), .asg 3 (.bin .Add (.var .val 2) (.int 1)), .asgO 4 (.lst []), .for (.nm .val 5) .rng1 [(.var .par 1)] [.ite (.cmp .GtE (.var .val 2) (.int 5040)) [.app 4 (.bin .Mod (.bi .toInt [(.var .val 2)]) (.int 5040)), .asg 2 (.bin .FloorDiv (.var .val 2) (.int 5040))] [.asg 3 (.bin .Mod (.bi .toInt [(.bin .Add (.bin .Mult (.var .val 3) (.int 48271)) (.bin .Mult (.int 69621) (.bin .Add (.var .val 5) (.int 1))))]) (.int 2147483647)), .app 4 (.bin .Mod (.bin .FloorDiv (.bin .Mod (.bi .toInt [(.bin .Add (.bin .FloorDiv (.bin .Mult (.var .val 3) (.var .val 3)) (.int 7)) (.bin .Mult (.int 3) (.var .val 3)))]) (.int 2147483629)) (.int 11)) (.int 5040))]], .retO 4]
/-- _law_form('order', 'at', 'turned', 'k') of 1 calls [] -/
def B_law_form_2 : List IS := [.asg 1 (.meth .index (.var .par 0) [(.int 0)]), .asg 2 (.chk (.bin .Add (.slice (.var .par 0) [(.var .val 1)] []) (.slice (.var .par 0) [] [(.var .val 1)]))), .ite (.cmp .Gt (.idx (.var .val 2) (.int 1)) (.idx (.var .val 2) (.bin .Sub (.bi .len [(.var .val 2)]) (.int 1)))) [.asg 2 (.bin .Add (.lst [(.int 0)]) (.comp (.nm .val 3) (.idx (.var .val 2) (.bin .Sub (.bin .Sub (.bi .len [(.var .val 2)]) (.int 1)) (.var .val 3))) .rng1 [(.bin .Sub (.bi .len [(.var .val 2)]) (.int 1))] []))] [], .ret (.bi .tupOf [(.var .val 2)])]
/-- _law_permutation('size', 'number', 'left', 'row', 'k', 'block', 'at') of 2 calls ['_law_factorial'] -/
def B_law_permutation_2 (c0 : Nat) : List IS := [.asg 2 (.comp (.nm .val 4) (.var .val 4) .rng1 [(.var .par 0)] []), .asgO 3 (.lst []), .for (.nm .val 4) .rng1 [(.var .par 0)] [.asg 5 (.call c0 [(.bin .Sub (.bin .Sub (.var .par 0) (.int 1)) (.var .val 4))]), .asg 6 (.chk (.bin .FloorDiv (.var .par 1) (.var .val 5))), .app 3 (.idx (.var .val 2) (.var .val 6)), .asg 2 (.bin .Add (.slice (.var .val 2) [] [(.var .val 6)]) (.slice (.var .val 2) [(.bin .Add (.var .val 6) (.int 1))] [])), .asgP 1 (.bin .Mod (.bi .toInt [(.var .par 1)]) (.var .val 5))], .retO 3]
/-- _law_undone('row', 'undone', 'k', 'entry') of 1 calls [] -/
def B_law_undone : List IS := [.asgO 1 (.comp (.nm .par 3) (.int 0) .plain [(.var .par 0)] []), .for (.nm .val 2) .rng1 [(.bi .len [(.var .par 0)])] [.setI 1 (.idx (.var .par 0) (.var .val 2)) (.var .val 2)], .retO 1]
/-- _law_same_row('value', 'due', 'k') of 2 calls [] -/
def B_law_same_row_2 : List IS := [.ite (.or (.not (.bi (.isi ["tuple"]) [(.var .par 0)])) (.cmp .NotEq (.bi .len [(.var .par 0)]) (.bi .len [(.var .par 1)]))) [.ret (.bl false)] [], .for (.nm .val 2) .rng1 [(.bi .len [(.var .par 1)])] [.ite (.or (.not (.bi (.isi ["int"]) [(.idx (.var .par 0) (.var .val 2))])) (.or (.bi (.isi ["bool"]) [(.idx (.var .par 0) (.var .val 2))]) (.cmp .NotEq (.idx (.var .par 0) (.var .val 2)) (.idx (.var .par 1) (.var .val 2))))) [.ret (.bl false)] []], .ret (.bl true)]
end BV

/-! the text of the law, def by def (printed by gen.py) -/
namespace Law
open PySem BV
abbrev top (i : Nat) : Stmt := PySem.Challenge.pw_enoughunseen_k03_graphs_and_relabelling.main.body.getD i (.Pass ⟨0, 0, 0, 0⟩)
/-- is_permutation('row',) -/
def b0 : List IS := B_is_permutation "MOST_SIZE"
def d0 : Df := ⟨"is_permutation", "is_permutation", ["row"], ["row"], b0⟩
/-- check_permutation('row',) -/
def b1 : List IS := B_check_permutation 0
def d1 : Df := ⟨"check_permutation", "check_permutation", ["row"], ["row"], b1⟩
/-- inverse('row', 'undone', 'place', 'entry') -/
def b2 : List IS := B_inverse 1
def d2 : Df := ⟨"inverse", "inverse", ["row"], ["row", "undone", "place", "entry"], b2⟩
/-- compose('first', 'second', 'entry') -/
def b3 : List IS := B_compose 1
def d3 : Df := ⟨"compose", "compose", ["first", "second"], ["first", "second", "entry"], b3⟩
/-- make_graph('nodes', 'edges', 'found', 'a', 'b', 'edge') -/
def b4 : List IS := B_make_graph "MOST_NODES"
def d4 : Df := ⟨"make_graph", "make_graph", ["nodes", "edges"], ["nodes", "edges", "found", "a", "b", "edge"], b4⟩
/-- has_edge('graph', 'a', 'b') -/
def b5 : List IS := B_has_edge
def d5 : Df := ⟨"has_edge", "has_edge", ["graph", "a", "b"], ["graph", "a", "b"], b5⟩
/-- node_pairs('nodes', 'a', 'b') -/
def b6 : List IS := B_node_pairs
def d6 : Df := ⟨"node_pairs", "node_pairs", ["nodes"], ["nodes", "a", "b"], b6⟩
/-- pair_place('nodes', 'a', 'b') -/
def b7 : List IS := B_pair_place 6
def d7 : Df := ⟨"pair_place", "pair_place", ["nodes", "a", "b"], ["nodes", "a", "b"], b7⟩
/-- edge_table('graph', 'pair') -/
def b8 : List IS := B_edge_table 6
def d8 : Df := ⟨"edge_table", "edge_table", ["graph"], ["graph", "pair"], b8⟩
/-- relabel('graph', 'row', 'a', 'b') -/
def b9 : List IS := B_relabel 0 4
def d9 : Df := ⟨"relabel", "relabel", ["graph", "row"], ["graph", "row", "a", "b"], b9⟩
/-- _law_cell('script', 'k') -/
def b10 : List IS := B_law_cell
def d10 : Df := ⟨"_law_cell", "_law_cell", ["script", "k"], ["script", "k"], b10⟩
/-- _law_numbers('cell', 'many', 'number', 'mixed', 'row', 'k') -/
def b11 : List IS := B_law_numbers
def d11 : Df := ⟨"_law_numbers", "_law_numbers", ["cell", "many"], ["cell", "many", "number", "mixed", "row", "k"], b11⟩
/-- _law_same('value', 'due', 'k') -/
def b12 : List IS := B_law_same 12
def d12 : Df := ⟨"_law_same", "_law_same", ["value", "due"], ["value", "due", "k"], b12⟩
/-- _law_factorial('size', 'product', 'k') -/
def b13 : List IS := B_law_factorial
def d13 : Df := ⟨"_law_factorial", "_law_factorial", ["size"], ["size", "product", "k"], b13⟩
/-- _law_permutation('size', 'number', 'left', 'row', 'k', 'block') -/
def b14 : List IS := B_law_permutation 13
def d14 : Df := ⟨"_law_permutation", "_law_permutation", ["size", "number"], ["size", "number", "left", "row", "k", "block"], b14⟩
/-- _law_after('first', 'second', 'entry') -/
def b15 : List IS := B_law_after
def d15 : Df := ⟨"_law_after", "_law_after", ["first", "second"], ["first", "second", "entry"], b15⟩
/-- _law_pairs('nodes', 'pairs', 'a', 'b') -/
def b16 : List IS := B_law_pairs
def d16 : Df := ⟨"_law_pairs", "_law_pairs", ["nodes"], ["nodes", "pairs", "a", "b"], b16⟩
/-- _law_edge('a', 'b') -/
def b17 : List IS := B_law_edge
def d17 : Df := ⟨"_law_edge", "_law_edge", ["a", "b"], ["a", "b"], b17⟩
/-- _law_moved('edges', 'row', 'edge') -/
def b18 : List IS := B_law_moved 17
def d18 : Df := ⟨"_law_moved", "_law_moved", ["edges", "row"], ["edges", "row", "edge"], b18⟩
/-- _law_listed('cell', 'nodes', 'level', 'pairs', 'row', 'told', 'k', 'edges', 'entry', 'edge') -/
def b19 : List IS := [.asg 3 (.call 16 [(.var .par 1)]), .asg 4 (.call 11 [(.var .par 0), (.bi .len [(.var .val 3)])]), .asgO 5 (.lst []), .for (.nm .val 6) .rng1 [(.bi .len [(.var .val 3)])] [.ite (.cmp .Lt (.bin .Mod (.bi .toInt [(.idx (.var .val 4) (.var .val 6))]) (.int 3)) (.var .par 2)) [.app 5 (.tup [(.bin .FloorDiv (.bi .toInt [(.idx (.var .val 4) (.var .val 6))]) (.int 6)), (.bin .Mod (.bi .toInt [(.bin .FloorDiv (.idx (.var .val 4) (.var .val 6)) (.int 3))]) (.int 2)), (.idx (.var .val 3) (.var .val 6))])] []], .asgO 7 (.lst []), .for (.nm .val 8) .plain [(.bi .sorted [(.var .own 5)])] [.asg 9 (.idx (.var .val 8) (.int 2)), .ite (.cmp .Eq (.idx (.var .val 8) (.int 1)) (.int 1)) [.asg 9 (.tup [(.idx (.var .val 9) (.int 1)), (.idx (.var .val 9) (.int 0))])] [], .app 7 (.var .val 9)], .retO 7]
def d19 : Df := ⟨"_law_listed", "_law_listed", ["cell", "nodes", "level"], ["cell", "nodes", "level", "pairs", "row", "told", "k", "edges", "entry", "edge"], b19⟩
/-- _law_spoilt('edges', 'nodes', 'row', 'way', 'node', 'bad', 'outside', 'place') -/
def b20 : List IS := [.asg 3 (.bin .Mod (.bi .toInt [(.idx (.var .par 2) (.int 0))]) (.int 4)), .asg 4 (.chk (.bin .Mod (.bi .toInt [(.idx (.var .par 2) (.int 1))]) (.var .par 1))), .asg 5 (.tup [(.var .val 4), (.var .val 4)]), .ite (.or (.cmp .Eq (.var .val 3) (.int 0)) (.and (.cmp .Gt (.var .val 3) (.int 1)) (.cmp .Eq (.bi .len [(.var .par 0)]) (.int 0)))) [.asg 6 (.chk (.lst [(.var .par 1), (.bin .Sub (.int 0) (.int 1)), (.bin .Add (.var .par 1) (.int 1)), (.int 99), (.bin .Sub (.int 0) (.int 6))])), .asg 5 (.tup [(.var .val 4), (.idx (.var .val 6) (.bin .Mod (.bi .toInt [(.idx (.var .par 2) (.int 2))]) (.int 5)))])] [.ite (.cmp .Gt (.var .val 3) (.int 1)) [.asg 5 (.chk (.idx (.var .par 0) (.bin .Mod (.bi .toInt [(.idx (.var .par 2) (.int 2))]) (.bi .len [(.var .par 0)]))))] []], .ite (.cmp .Eq (.bin .Mod (.bi .toInt [(.idx (.var .par 2) (.int 3))]) (.int 2)) (.int 1)) [.asg 5 (.tup [(.idx (.var .val 5) (.int 1)), (.idx (.var .val 5) (.int 0))])] [], .asg 7 (.bin .Mod (.bi .toInt [(.idx (.var .par 2) (.int 4))]) (.bin .Add (.bi .len [(.var .par 0)]) (.int 1))), .ret (.chk (.bin .Add (.bin .Add (.slice (.var .par 0) [] [(.var .val 7)]) (.lst [(.var .val 5)])) (.slice (.var .par 0) [(.var .val 7)] [])))]
def d20 : Df := ⟨"_law_spoilt", "_law_spoilt", ["edges", "nodes", "row"], ["edges", "nodes", "row", "way", "node", "bad", "outside", "place"], b20⟩
/-- _law_end('number', 'nodes', 'outside') -/
def b21 : List IS := [.asg 2 (.chk (.lst [(.bin .Sub (.int 0) (.int 1)), (.var .par 1), (.bin .Add (.var .par 1) (.int 1)), (.int 99)])), .ite (.cmp .Eq (.bin .Mod (.bi .toInt [(.var .par 0)]) (.int 30)) (.int 0)) [.ret (.idx (.var .val 2) (.bin .Mod (.bi .toInt [(.bin .FloorDiv (.var .par 0) (.int 30))]) (.int 4)))] [], .ret (.chk (.bin .Mod (.bi .toInt [(.bin .FloorDiv (.var .par 0) (.int 30))]) (.var .par 1)))]
def d21 : Df := ⟨"_law_end", "_law_end", ["number", "nodes"], ["number", "nodes", "outside"], b21⟩
/-- _law_raw('cell', 'nodes', 'row', 'edges', 'k') -/
def b22 : List IS := [.asg 2 (.call 11 [(.var .par 0), (.int 13)]), .asgO 3 (.lst []), .for (.nm .val 4) .rng1 [(.bin .Mod (.bi .toInt [(.idx (.var .val 2) (.int 0))]) (.int 7))] [.app 3 (.tup [(.call 21 [(.idx (.var .val 2) (.bin .Add (.int 1) (.bin .Mult (.int 2) (.var .val 4)))), (.var .par 1)]), (.call 21 [(.idx (.var .val 2) (.bin .Add (.int 2) (.bin .Mult (.int 2) (.var .val 4)))), (.var .par 1)])])], .retO 3]
def d22 : Df := ⟨"_law_raw", "_law_raw", ["cell", "nodes"], ["cell", "nodes", "row", "edges", "k"], b22⟩
/-- _law_graph('nodes', 'edges', 'found', 'pair', 'edge') -/
def b23 : List IS := [.asgO 2 (.lst []), .for (.nm .par 3) .plain [(.var .par 1)] [.asg 4 (.call 17 [(.idx (.var .par 3) (.int 0)), (.idx (.var .par 3) (.int 1))]), .ite (.or (.cmp .Eq (.idx (.var .val 4) (.int 0)) (.idx (.var .val 4) (.int 1))) (.or (.cmp .Lt (.idx (.var .val 4) (.int 0)) (.int 0)) (.or (.cmp .GtE (.idx (.var .val 4) (.int 1)) (.var .par 0)) (.cmp .In (.var .val 4) (.var .own 2))))) [.ret .non] [], .app 2 (.var .val 4)], .ret (.chk (.tup [(.var .par 0), (.bi .tupOf [(.bi .sorted [(.var .own 2)])])]))]
def d23 : Df := ⟨"_law_graph", "_law_graph", ["nodes", "edges"], ["nodes", "edges", "found", "pair", "edge"], b23⟩
/-- _law_no_graph('nodes', 'edges', 'e') -/
def b24 : List IS := [.try [.expr (.call 4 [(.var .par 0), (.var .par 1)])] "BadGraph" (some 2) [.ite (.or (.isE 2 "BadPermutation" [("BadGraph", false)]) (.or (.isE 2 "BadStatement" [("BadGraph", false)]) (.isE 2 "BadDraw" [("BadGraph", false)]))) [.ret (.bl false)] [], .ret (.and (.isE 2 "UnseenError" [("BadGraph", true)]) (.isE 2 "ValueError" [("BadGraph", true)]))], .ret (.bl false)]
def d24 : Df := ⟨"_law_no_graph", "_law_no_graph", ["nodes", "edges"], ["nodes", "edges", "e"], b24⟩
/-- _law_walked('graph', 'due', 'nodes', 'pairs', 'told', 'a', 'b', 'pair') -/
def b25 : List IS := [.asg 2 (.chk (.idx (.var .par 1) (.int 0))), .asg 3 (.call 16 [(.var .val 2)]), .asgO 4 (.call 6 [(.var .val 2)]), .ite (.not (.call 12 [(.var .own 4), (.var .val 3)])) [.ret (.bl false)] [], .app 4 (.tup [(.int 0), (.var .val 2)]), .rev 4, .ite (.not (.call 12 [(.call 6 [(.var .val 2)]), (.var .val 3)])) [.ret (.bl false)] [], .for (.nm .val 5) .rng1 [(.var .val 2)] [.for (.nm .val 6) .rng1 [(.var .val 2)] [.ite (.not (.call 12 [(.call 5 [(.var .par 0), (.var .val 5), (.var .val 6)]), (.cmp .In (.call 17 [(.var .val 5), (.var .val 6)]) (.idx (.var .par 1) (.int 1)))])) [.ret (.bl false)] [], .ite (.and (.cmp .NotEq (.var .val 5) (.var .val 6)) (.not (.call 12 [(.call 7 [(.var .val 2), (.var .val 5), (.var .val 6)]), (.meth .index (.var .val 3) [(.call 17 [(.var .val 5), (.var .val 6)])])]))) [.ret (.bl false)] []]], .ret (.call 12 [(.call 8 [(.var .par 0)]), (.bi .tupOf [(.comp (.nm .val 7) (.bi .toInt [(.cmp .In (.var .val 7) (.idx (.var .par 1) (.int 1)))]) .plain [(.var .val 3)] [])])])]
def d25 : Df := ⟨"_law_walked", "_law_walked", ["graph", "due"], ["graph", "due", "nodes", "pairs", "told", "a", "b", "pair"], b25⟩
/-- _law_made('nodes', 'edges', 'due', 'handed', 'graph', 'pair') -/
def b26 : List IS := [.asg 2 (.call 23 [(.var .par 0), (.var .par 1)]), .asg 3 (.comp (.nm .par 5) (.chk (.var .par 5)) .plain [(.var .par 1)] []), .ite (.cmp .Is (.var .val 2) .non) [.ite (.not (.call 24 [(.var .par 0), (.var .val 3)])) [.ret (.bl false)] []] [.asg 4 (.call 4 [(.var .par 0), (.var .val 3)]), .ite (.or (.not (.call 12 [(.var .val 4), (.var .val 2)])) (.not (.call 25 [(.var .val 4), (.var .val 2)]))) [.ret (.bl false)] []], .ret (.call 12 [(.var .val 3), (.var .par 1)])]
def d26 : Df := ⟨"_law_made", "_law_made", ["nodes", "edges"], ["nodes", "edges", "due", "handed", "graph", "pair"], b26⟩
/-- _law_no_row('graph', 'row', 'e') -/
def b27 : List IS := [.try [.expr (.call 9 [(.var .par 0), (.var .par 1)])] "BadPermutation" (some 2) [.ite (.or (.isE 2 "BadGraph" [("BadPermutation", false)]) (.or (.isE 2 "BadStatement" [("BadPermutation", false)]) (.isE 2 "BadDraw" [("BadPermutation", false)]))) [.ret (.bl false)] [], .ret (.and (.isE 2 "UnseenError" [("BadPermutation", true)]) (.isE 2 "ValueError" [("BadPermutation", true)]))], .ret (.bl false)]
def d27 : Df := ⟨"_law_no_row", "_law_no_row", ["graph", "row"], ["graph", "row", "e"], b27⟩
/-- _law_relabelled('graph', 'due', 'row', 'nodes', 'p', 'q', 'once', 'twice', 'told', 'at', 'others', 'other', 'bad') -/
def b28 : List IS := [.asg 3 (.chk (.idx (.var .par 1) (.int 0))), .asg 4 (.bi .tupOf [(.call 14 [(.var .val 3), (.bin .Mod (.bi .toInt [(.idx (.var .par 2) (.int 0))]) (.call 13 [(.var .val 3)]))])]), .asg 5 (.bi .tupOf [(.call 14 [(.var .val 3), (.bin .Mod (.bi .toInt [(.idx (.var .par 2) (.int 1))]) (.call 13 [(.var .val 3)]))])]), .asg 6 (.tup [(.var .val 3), (.call 18 [(.idx (.var .par 1) (.int 1)), (.var .val 4)])]), .asg 7 (.tup [(.var .val 3), (.call 18 [(.idx (.var .par 1) (.int 1)), (.call 15 [(.var .val 4), (.var .val 5)])])]), .asg 8 (.call 9 [(.var .par 0), (.var .val 4)]), .ite (.or (.not (.call 12 [(.var .val 8), (.var .val 6)])) (.not (.call 25 [(.var .val 8), (.var .val 6)]))) [.ret (.bl false)] [], .ite (.or (.not (.call 12 [(.call 9 [(.var .val 8), (.var .val 5)]), (.var .val 7)])) (.not (.call 12 [(.call 9 [(.var .par 0), (.call 3 [(.var .val 4), (.var .val 5)])]), (.var .val 7)]))) [.ret (.bl false)] [], .ite (.not (.call 12 [(.call 9 [(.var .val 8), (.call 2 [(.var .val 4)])]), (.var .par 1)])) [.ret (.bl false)] [], .asg 9 (.bin .Mod (.bi .toInt [(.idx (.var .par 2) (.int 2))]) (.var .val 3)), .asg 10 (.lst [(.bin .Sub (.int 0) (.int 1)), (.var .val 3), (.int 99), (.bin .Mod (.bi .toInt [(.bin .Add (.idx (.var .val 4) (.var .val 9)) (.int 1))]) (.var .val 3)), (.bin .Sub (.int 0) (.int 2))]), .asg 11 (.idx (.var .val 10) (.bin .Mod (.bi .toInt [(.idx (.var .par 2) (.int 3))]) (.int 5))), .ite (.cmp .Eq (.var .val 11) (.idx (.var .val 4) (.var .val 9))) [.asg 11 (.bin .Add (.var .val 3) (.int 1))] [], .for (.nm .val 12) .plain [(.lst [(.bin .Add (.bin .Add (.slice (.var .val 4) [] [(.var .val 9)]) (.tup [(.var .val 11)])) (.slice (.var .val 4) [(.bin .Add (.var .val 9) (.int 1))] [])), (.bin .Add (.var .val 4) (.tup [(.var .val 3)])), (.bin .Add (.slice (.var .val 4) [] [(.var .val 9)]) (.slice (.var .val 4) [(.bin .Add (.var .val 9) (.int 1))] [])), (.bin .Add (.var .val 4) (.var .val 4)), (.tup [])])] [.ite (.not (.call 27 [(.var .par 0), (.var .val 12)])) [.ret (.bl false)] []], .ret (.call 12 [(.call 9 [(.var .par 0), (.var .val 5)]), (.tup [(.var .val 3), (.call 18 [(.idx (.var .par 1) (.int 1)), (.var .val 5)])])])]
def d28 : Df := ⟨"_law_relabelled", "_law_relabelled", ["graph", "due", "row"], ["graph", "due", "row", "nodes", "p", "q", "once", "twice", "told", "at", "others", "other", "bad"], b28⟩
/-- law('script', 'row', 'nodes', 'levels', 'edges', 'spoilt', 'again', 'pairs', 'wrong', 'graph', 'due', 'other', 'edge') -/
def b29 : List IS := [.asg 1 (.call 11 [(.call 10 [(.var .par 0), (.int 0)]), (.int 14)]), .asg 2 (.bin .Add (.int 1) (.bin .Mod (.bi .toInt [(.idx (.var .val 1) (.int 0))]) (.int 6))), .asg 3 (.lst [(.int 0), (.int 1), (.int 1), (.int 2), (.int 2), (.int 3)]), .asg 4 (.call 19 [(.call 10 [(.var .par 0), (.int 1)]), (.var .val 2), (.idx (.var .val 3) (.bin .Mod (.bi .toInt [(.idx (.var .val 1) (.int 1))]) (.int 6)))]), .asg 5 (.call 20 [(.var .val 4), (.var .val 2), (.slice (.var .val 1) [(.int 2)] [(.int 7)])]), .asg 6 (.call 20 [(.var .val 4), (.var .val 2), (.call 11 [(.call 10 [(.var .par 0), (.int 4)]), (.int 5)])]), .for (.nm .val 7) .plain [(.lst [(.var .val 4), (.var .val 5), (.var .val 6), (.call 22 [(.call 10 [(.var .par 0), (.int 2)]), (.var .val 2)])])] [.ite (.not (.call 26 [(.var .val 2), (.var .val 7)])) [.ret (.bl false)] []], .for (.nm .val 8) .plain [(.lst [(.int 0), (.int 7), (.bin .Sub (.bin .Sub (.int 0) (.int 1)) (.bin .Mod (.bi .toInt [(.idx (.var .val 1) (.int 7))]) (.int 5))), (.bin .Add (.int 8) (.bin .Mod (.bi .toInt [(.idx (.var .val 1) (.int 8))]) (.int 90)))])] [.ite (.or (.not (.call 24 [(.var .val 8), (.comp (.nm .val 12) (.var .val 12) .plain [(.var .val 4)] [])])) (.not (.call 24 [(.var .val 8), (.lst [])]))) [.ret (.bl false)] []], .asg 9 (.call 4 [(.var .val 2), (.comp (.nm .val 12) (.var .val 12) .plain [(.var .val 4)] [])]), .asg 10 (.call 23 [(.var .val 2), (.var .val 4)]), .ite (.not (.call 28 [(.var .val 9), (.var .val 10), (.slice (.var .val 1) [(.int 9)] [])])) [.ret (.bl false)] [], .asg 11 (.call 22 [(.call 10 [(.var .par 0), (.int 3)]), (.bin .Add (.int 1) (.bin .Mod (.bi .toInt [(.idx (.var .val 1) (.int 13))]) (.int 6)))]), .ite (.not (.call 26 [(.bin .Add (.int 1) (.bin .Mod (.bi .toInt [(.idx (.var .val 1) (.int 13))]) (.int 6))), (.var .val 11)])) [.ret (.bl false)] [], .ret (.and (.call 12 [(.var .val 9), (.var .val 10)]) (.call 25 [(.var .val 9), (.var .val 10)]))]
def d29 : Df := ⟨"law", "law", ["script"], ["script", "row", "nodes", "levels", "edges", "spoilt", "again", "pairs", "wrong", "graph", "due", "other", "edge"], b29⟩
def subs : List (Str × Str × Bool) := [("BadGraph", "BadDraw", false), ("BadGraph", "BadGraph", true), ("BadGraph", "BadPermutation", false), ("BadGraph", "BadStatement", false), ("BadGraph", "UnseenError", true), ("BadGraph", "ValueError", true), ("BadPermutation", "BadDraw", false), ("BadPermutation", "BadGraph", false), ("BadPermutation", "BadPermutation", true), ("BadPermutation", "BadStatement", false), ("BadPermutation", "UnseenError", true), ("BadPermutation", "ValueError", true)]
def consts : List (Str × T) := [("MOST_NODES", .int 6), ("MOST_SIZE", .int 6)]
def G : Pg := ⟨[d0, d1, d2, d3, d4, d5, d6, d7, d8, d9, d10, d11, d12, d13, d14, d15, d16, d17, d18, d19, d20, d21, d22, d23, d24, d25, d26, d27, d28, d29], consts, subs⟩
def M : Nm := { fns := ["is_permutation", "check_permutation", "inverse", "compose", "make_graph", "has_edge", "node_pairs", "pair_place", "edge_table", "relabel", "_law_cell", "_law_numbers", "_law_same", "_law_factorial", "_law_permutation", "_law_after", "_law_pairs", "_law_edge", "_law_moved", "_law_listed", "_law_spoilt", "_law_end", "_law_raw", "_law_graph", "_law_no_graph", "_law_walked", "_law_made", "_law_no_row", "_law_relabelled", "law"], consts := consts, blt := ["ValueError", "abs", "bool", "enumerate", "int", "isinstance", "len", "list", "max", "min", "range", "sorted", "str", "tuple"], fact := false, excs := ["BadPermutation", "BadGraph"], subs := subs, N := [], calm := true, top := true }
theorem u0 (n : Nat) (a0 : T) : callF G (n + 1) 0 [a0] = (exs (callF G n) (sub? subs) b0 [some (.par a0)]).res := rfl
theorem u1 (n : Nat) (a0 : T) : callF G (n + 1) 1 [a0] = (exs (callF G n) (sub? subs) b1 [some (.par a0)]).res := rfl
theorem u2 (n : Nat) (a0 : T) : callF G (n + 1) 2 [a0] = (exs (callF G n) (sub? subs) b2 [some (.par a0), none, none, none]).res := rfl
theorem u3 (n : Nat) (a0 a1 : T) : callF G (n + 1) 3 [a0, a1] = (exs (callF G n) (sub? subs) b3 [some (.par a0), some (.par a1), none]).res := rfl
theorem u4 (n : Nat) (a0 a1 : T) : callF G (n + 1) 4 [a0, a1] = (exs (callF G n) (sub? subs) b4 [some (.par a0), some (.par a1), none, none, none, none]).res := rfl
theorem u5 (n : Nat) (a0 a1 a2 : T) : callF G (n + 1) 5 [a0, a1, a2] = (exs (callF G n) (sub? subs) b5 [some (.par a0), some (.par a1), some (.par a2)]).res := rfl
theorem u6 (n : Nat) (a0 : T) : callF G (n + 1) 6 [a0] = (exs (callF G n) (sub? subs) b6 [some (.par a0), none, none]).res := rfl
theorem u7 (n : Nat) (a0 a1 a2 : T) : callF G (n + 1) 7 [a0, a1, a2] = (exs (callF G n) (sub? subs) b7 [some (.par a0), some (.par a1), some (.par a2)]).res := rfl
theorem u8 (n : Nat) (a0 : T) : callF G (n + 1) 8 [a0] = (exs (callF G n) (sub? subs) b8 [some (.par a0), none]).res := rfl
theorem u9 (n : Nat) (a0 a1 : T) : callF G (n + 1) 9 [a0, a1] = (exs (callF G n) (sub? subs) b9 [some (.par a0), some (.par a1), none, none]).res := rfl
theorem u10 (n : Nat) (a0 a1 : T) : callF G (n + 1) 10 [a0, a1] = (exs (callF G n) (sub? subs) b10 [some (.par a0), some (.par a1)]).res := rfl
theorem u11 (n : Nat) (a0 a1 : T) : callF G (n + 1) 11 [a0, a1] = (exs (callF G n) (sub? subs) b11 [some (.par a0), some (.par a1), none, none, none, none]).res := rfl
theorem u12 (n : Nat) (a0 a1 : T) : callF G (n + 1) 12 [a0, a1] = (exs (callF G n) (sub? subs) b12 [some (.par a0), some (.par a1), none]).res := rfl
theorem u13 (n : Nat) (a0 : T) : callF G (n + 1) 13 [a0] = (exs (callF G n) (sub? subs) b13 [some (.par a0), none, none]).res := rfl
theorem u14 (n : Nat) (a0 a1 : T) : callF G (n + 1) 14 [a0, a1] = (exs (callF G n) (sub? subs) b14 [some (.par a0), some (.par a1), none, none, none, none]).res := rfl
theorem u15 (n : Nat) (a0 a1 : T) : callF G (n + 1) 15 [a0, a1] = (exs (callF G n) (sub? subs) b15 [some (.par a0), some (.par a1), none]).res := rfl
theorem u16 (n : Nat) (a0 : T) : callF G (n + 1) 16 [a0] = (exs (callF G n) (sub? subs) b16 [some (.par a0), none, none, none]).res := rfl
theorem u17 (n : Nat) (a0 a1 : T) : callF G (n + 1) 17 [a0, a1] = (exs (callF G n) (sub? subs) b17 [some (.par a0), some (.par a1)]).res := rfl
theorem u18 (n : Nat) (a0 a1 : T) : callF G (n + 1) 18 [a0, a1] = (exs (callF G n) (sub? subs) b18 [some (.par a0), some (.par a1), none]).res := rfl
theorem u19 (n : Nat) (a0 a1 a2 : T) : callF G (n + 1) 19 [a0, a1, a2] = (exs (callF G n) (sub? subs) b19 [some (.par a0), some (.par a1), some (.par a2), none, none, none, none, none, none, none]).res := rfl
theorem u20 (n : Nat) (a0 a1 a2 : T) : callF G (n + 1) 20 [a0, a1, a2] = (exs (callF G n) (sub? subs) b20 [some (.par a0), some (.par a1), some (.par a2), none, none, none, none, none]).res := rfl
theorem u21 (n : Nat) (a0 a1 : T) : callF G (n + 1) 21 [a0, a1] = (exs (callF G n) (sub? subs) b21 [some (.par a0), some (.par a1), none]).res := rfl
theorem u22 (n : Nat) (a0 a1 : T) : callF G (n + 1) 22 [a0, a1] = (exs (callF G n) (sub? subs) b22 [some (.par a0), some (.par a1), none, none, none]).res := rfl
theorem u23 (n : Nat) (a0 a1 : T) : callF G (n + 1) 23 [a0, a1] = (exs (callF G n) (sub? subs) b23 [some (.par a0), some (.par a1), none, none, none]).res := rfl
theorem u24 (n : Nat) (a0 a1 : T) : callF G (n + 1) 24 [a0, a1] = (exs (callF G n) (sub? subs) b24 [some (.par a0), some (.par a1), none]).res := rfl
theorem u25 (n : Nat) (a0 a1 : T) : callF G (n + 1) 25 [a0, a1] = (exs (callF G n) (sub? subs) b25 [some (.par a0), some (.par a1), none, none, none, none, none, none]).res := rfl
theorem u26 (n : Nat) (a0 a1 : T) : callF G (n + 1) 26 [a0, a1] = (exs (callF G n) (sub? subs) b26 [some (.par a0), some (.par a1), none, none, none, none]).res := rfl
theorem u27 (n : Nat) (a0 a1 : T) : callF G (n + 1) 27 [a0, a1] = (exs (callF G n) (sub? subs) b27 [some (.par a0), some (.par a1), none]).res := rfl
theorem u28 (n : Nat) (a0 a1 a2 : T) : callF G (n + 1) 28 [a0, a1, a2] = (exs (callF G n) (sub? subs) b28 [some (.par a0), some (.par a1), some (.par a2), none, none, none, none, none, none, none, none, none, none]).res := rfl
theorem u29 (n : Nat) (a0 : T) : callF G (n + 1) 29 [a0] = (exs (callF G n) (sub? subs) b29 [some (.par a0), none, none, none, none, none, none, none, none, none, none, none, none]).res := rfl
end Law

namespace Law
open PySem BV L2 PySem.W
theorem c0 : chkSs (M.of d0.N) (defScope (top 8)) b0 (defBody (top 8)) = true := by decide +kernel
theorem s0 : FnScope d0.N d0.ps (defScope (top 8)) := ⟨rfl, rfl, rfl, by decide +kernel, rfl, by decide +kernel, by decide +kernel⟩
theorem c1 : chkSs (M.of d1.N) (defScope (top 9)) b1 (defBody (top 9)) = true := by decide +kernel
theorem s1 : FnScope d1.N d1.ps (defScope (top 9)) := ⟨rfl, rfl, rfl, by decide +kernel, rfl, by decide +kernel, by decide +kernel⟩
theorem c2 : chkSs (M.of d2.N) (defScope (top 10)) b2 (defBody (top 10)) = true := by decide +kernel
theorem s2 : FnScope d2.N d2.ps (defScope (top 10)) := ⟨rfl, rfl, rfl, by decide +kernel, rfl, by decide +kernel, by decide +kernel⟩
theorem c3 : chkSs (M.of d3.N) (defScope (top 11)) b3 (defBody (top 11)) = true := by decide +kernel
theorem s3 : FnScope d3.N d3.ps (defScope (top 11)) := ⟨rfl, rfl, rfl, by decide +kernel, rfl, by decide +kernel, by decide +kernel⟩
theorem c4 : chkSs (M.of d4.N) (defScope (top 14)) b4 (defBody (top 14)) = true := by decide +kernel
theorem s4 : FnScope d4.N d4.ps (defScope (top 14)) := ⟨rfl, rfl, rfl, by decide +kernel, rfl, by decide +kernel, by decide +kernel⟩
theorem c5 : chkSs (M.of d5.N) (defScope (top 15)) b5 (defBody (top 15)) = true := by decide +kernel
theorem s5 : FnScope d5.N d5.ps (defScope (top 15)) := ⟨rfl, rfl, rfl, by decide +kernel, rfl, by decide +kernel, by decide +kernel⟩
theorem c6 : chkSs (M.of d6.N) (defScope (top 16)) b6 (defBody (top 16)) = true := by decide +kernel
theorem s6 : FnScope d6.N d6.ps (defScope (top 16)) := ⟨rfl, rfl, rfl, by decide +kernel, rfl, by decide +kernel, by decide +kernel⟩
theorem c7 : chkSs (M.of d7.N) (defScope (top 17)) b7 (defBody (top 17)) = true := by decide +kernel
theorem s7 : FnScope d7.N d7.ps (defScope (top 17)) := ⟨rfl, rfl, rfl, by decide +kernel, rfl, by decide +kernel, by decide +kernel⟩
theorem c8 : chkSs (M.of d8.N) (defScope (top 18)) b8 (defBody (top 18)) = true := by decide +kernel
theorem s8 : FnScope d8.N d8.ps (defScope (top 18)) := ⟨rfl, rfl, rfl, by decide +kernel, rfl, by decide +kernel, by decide +kernel⟩
theorem c9 : chkSs (M.of d9.N) (defScope (top 19)) b9 (defBody (top 19)) = true := by decide +kernel
theorem s9 : FnScope d9.N d9.ps (defScope (top 19)) := ⟨rfl, rfl, rfl, by decide +kernel, rfl, by decide +kernel, by decide +kernel⟩
theorem c10 : chkSs (M.of d10.N) (defScope (top 21)) b10 (defBody (top 21)) = true := by decide +kernel
theorem s10 : FnScope d10.N d10.ps (defScope (top 21)) := ⟨rfl, rfl, rfl, by decide +kernel, rfl, by decide +kernel, by decide +kernel⟩
theorem c11 : chkSs (M.of d11.N) (defScope (top 22)) b11 (defBody (top 22)) = true := by decide +kernel
theorem s11 : FnScope d11.N d11.ps (defScope (top 22)) := ⟨rfl, rfl, rfl, by decide +kernel, rfl, by decide +kernel, by decide +kernel⟩
theorem c12 : chkSs (M.of d12.N) (defScope (top 23)) b12 (defBody (top 23)) = true := by decide +kernel
theorem s12 : FnScope d12.N d12.ps (defScope (top 23)) := ⟨rfl, rfl, rfl, by decide +kernel, rfl, by decide +kernel, by decide +kernel⟩
theorem c13 : chkSs (M.of d13.N) (defScope (top 24)) b13 (defBody (top 24)) = true := by decide +kernel
theorem s13 : FnScope d13.N d13.ps (defScope (top 24)) := ⟨rfl, rfl, rfl, by decide +kernel, rfl, by decide +kernel, by decide +kernel⟩
theorem c14 : chkSs (M.of d14.N) (defScope (top 25)) b14 (defBody (top 25)) = true := by decide +kernel
theorem s14 : FnScope d14.N d14.ps (defScope (top 25)) := ⟨rfl, rfl, rfl, by decide +kernel, rfl, by decide +kernel, by decide +kernel⟩
theorem c15 : chkSs (M.of d15.N) (defScope (top 26)) b15 (defBody (top 26)) = true := by decide +kernel
theorem s15 : FnScope d15.N d15.ps (defScope (top 26)) := ⟨rfl, rfl, rfl, by decide +kernel, rfl, by decide +kernel, by decide +kernel⟩
theorem c16 : chkSs (M.of d16.N) (defScope (top 27)) b16 (defBody (top 27)) = true := by decide +kernel
theorem s16 : FnScope d16.N d16.ps (defScope (top 27)) := ⟨rfl, rfl, rfl, by decide +kernel, rfl, by decide +kernel, by decide +kernel⟩
theorem c17 : chkSs (M.of d17.N) (defScope (top 28)) b17 (defBody (top 28)) = true := by decide +kernel
theorem s17 : FnScope d17.N d17.ps (defScope (top 28)) := ⟨rfl, rfl, rfl, by decide +kernel, rfl, by decide +kernel, by decide +kernel⟩
theorem c18 : chkSs (M.of d18.N) (defScope (top 29)) b18 (defBody (top 29)) = true := by decide +kernel
theorem s18 : FnScope d18.N d18.ps (defScope (top 29)) := ⟨rfl, rfl, rfl, by decide +kernel, rfl, by decide +kernel, by decide +kernel⟩
theorem c19 : chkSs (M.of d19.N) (defScope (top 30)) b19 (defBody (top 30)) = true := by decide +kernel
theorem s19 : FnScope d19.N d19.ps (defScope (top 30)) := ⟨rfl, rfl, rfl, by decide +kernel, rfl, by decide +kernel, by decide +kernel⟩
theorem c20 : chkSs (M.of d20.N) (defScope (top 31)) b20 (defBody (top 31)) = true := by decide +kernel
theorem s20 : FnScope d20.N d20.ps (defScope (top 31)) := ⟨rfl, rfl, rfl, by decide +kernel, rfl, by decide +kernel, by decide +kernel⟩
theorem c21 : chkSs (M.of d21.N) (defScope (top 32)) b21 (defBody (top 32)) = true := by decide +kernel
theorem s21 : FnScope d21.N d21.ps (defScope (top 32)) := ⟨rfl, rfl, rfl, by decide +kernel, rfl, by decide +kernel, by decide +kernel⟩
theorem c22 : chkSs (M.of d22.N) (defScope (top 33)) b22 (defBody (top 33)) = true := by decide +kernel
theorem s22 : FnScope d22.N d22.ps (defScope (top 33)) := ⟨rfl, rfl, rfl, by decide +kernel, rfl, by decide +kernel, by decide +kernel⟩
theorem c23 : chkSs (M.of d23.N) (defScope (top 34)) b23 (defBody (top 34)) = true := by decide +kernel
theorem s23 : FnScope d23.N d23.ps (defScope (top 34)) := ⟨rfl, rfl, rfl, by decide +kernel, rfl, by decide +kernel, by decide +kernel⟩
theorem c24 : chkSs (M.of d24.N) (defScope (top 35)) b24 (defBody (top 35)) = true := by decide +kernel
theorem s24 : FnScope d24.N d24.ps (defScope (top 35)) := ⟨rfl, rfl, rfl, by decide +kernel, rfl, by decide +kernel, by decide +kernel⟩
theorem c25 : chkSs (M.of d25.N) (defScope (top 36)) b25 (defBody (top 36)) = true := by decide +kernel
theorem s25 : FnScope d25.N d25.ps (defScope (top 36)) := ⟨rfl, rfl, rfl, by decide +kernel, rfl, by decide +kernel, by decide +kernel⟩
theorem c26 : chkSs (M.of d26.N) (defScope (top 37)) b26 (defBody (top 37)) = true := by decide +kernel
theorem s26 : FnScope d26.N d26.ps (defScope (top 37)) := ⟨rfl, rfl, rfl, by decide +kernel, rfl, by decide +kernel, by decide +kernel⟩
theorem c27 : chkSs (M.of d27.N) (defScope (top 38)) b27 (defBody (top 38)) = true := by decide +kernel
theorem s27 : FnScope d27.N d27.ps (defScope (top 38)) := ⟨rfl, rfl, rfl, by decide +kernel, rfl, by decide +kernel, by decide +kernel⟩
theorem c28 : chkSs (M.of d28.N) (defScope (top 39)) b28 (defBody (top 39)) = true := by decide +kernel
theorem s28 : FnScope d28.N d28.ps (defScope (top 39)) := ⟨rfl, rfl, rfl, by decide +kernel, rfl, by decide +kernel, by decide +kernel⟩
theorem c29 : chkSs (M.of d29.N) (defScope (top 40)) b29 (defBody (top 40)) = true := by decide +kernel
theorem s29 : FnScope d29.N d29.ps (defScope (top 40)) := ⟨rfl, rfl, rfl, by decide +kernel, rfl, by decide +kernel, by decide +kernel⟩
end Law

/-! Rows, permutations, ranks, pairs, rings: plain Lean. -/
namespace BV
open PySem
theorem getD_at {l : List Int} {i : Nat} (h : i < l.length) : l.getD i 0 = l[i] := by simp [h]
/-! ### permutations -/
def isP (l : List Int) : Bool := decide (l.length ≤ 6) && decide (sortInt l = rng l.length)
theorem perm_ints {l : List Int} (h : isP l = true) : l.length ≤ 6 ∧ (rng l.length).Perm l := by
  simp only [isP, Bool.and_eq_true, decide_eq_true_eq] at h
  refine ⟨h.1, ?_⟩
  rw [← h.2]
  exact sortInt_perm l
theorem perm_at {l : List Int} (h : isP l = true) {i : Nat} (hi : i < l.length) : ∃ j : Nat, j < l.length ∧ l[i] = (j : Int) := by
  have m : l[i] ∈ rng l.length := (perm_ints h).2.mem_iff.mpr (List.getElem_mem hi)
  simp only [rng, List.mem_map, List.mem_range] at m
  obtain ⟨j, h1, h2⟩ := m
  exact ⟨j, h1, h2.symm⟩
theorem erase_perm : ∀ (r l : List Int), r.Nodup → (∀ x ∈ r, x ∈ l) → r.length = l.length → r.Perm l
  | [], l, _, _, h => by
    have : l = [] := List.length_eq_zero_iff.mp h.symm
    rw [this]
  | a :: r, l, hn, hm, h => by
    have ha := hm a (by simp)
    have hn' := List.nodup_cons.mp hn
    have p := erase_perm r (l.erase a) hn'.2 (fun x hx => (List.mem_erase_of_ne (fun e => hn'.1 (by rw [← e]; exact hx))).mpr (hm x (by simp [hx]))) (by
      rw [List.length_erase_of_mem ha]
      simp at h; omega)
    exact (p.cons a).trans (List.perm_cons_erase ha).symm
theorem rng_nodup (n : Nat) : (rng n).Nodup := by
  unfold rng
  rw [List.nodup_iff_pairwise_ne, List.pairwise_map]
  exact List.nodup_range.imp fun h e => h (by omega)
theorem rng_pw (n : Nat) : (rng n).Pairwise (· ≤ ·) := by
  unfold rng
  rw [List.pairwise_map]
  exact (List.pairwise_lt_range).imp fun h => by omega
theorem mem_rng {n : Nat} {x : Int} : x ∈ rng n ↔ ∃ j : Nat, j < n ∧ x = (j : Int) := by
  simp only [rng, List.mem_map, List.mem_range]
  exact ⟨fun ⟨j, h1, h2⟩ => ⟨j, h1, h2.symm⟩, fun ⟨j, h1, h2⟩ => ⟨j, h1, h2.symm⟩⟩
theorem isP_of {l : List Int} (hl : l.length ≤ 6) (p : (rng l.length).Perm l) : isP l = true := by
  simp only [isP, Bool.and_eq_true, decide_eq_true_eq]
  exact ⟨hl, (sortInt_of p (rng_pw _)).symm⟩
theorem isP_perm {l m : List Int} (h : l.Perm m) : isP l = isP m := by
  unfold isP
  rw [h.length_eq, PySem.W.ksm_same ((sortInt_perm l).trans (h.trans (sortInt_perm m).symm)) (sortInt_pw l) (sortInt_pw m)]
theorem isP_nodup {l : List Int} (h : isP l = true) : l.Nodup := (perm_ints h).2.nodup_iff.mp (rng_nodup _)
theorem isP_mem {l : List Int} (h : isP l = true) {x : Int} : x ∈ l ↔ 0 ≤ x ∧ x < l.length := by
  rw [← (perm_ints h).2.mem_iff, mem_rng]
  exact ⟨fun ⟨j, h1, h2⟩ => by omega, fun ⟨h1, h2⟩ => ⟨x.toNat, by omega, by omega⟩⟩
/-- rows without a twin whose entries are below their length -/
theorem isP_intro {l : List Int} (hl : l.length ≤ 6) (hn : l.Nodup) (hm : ∀ x ∈ l, 0 ≤ x ∧ x < l.length) : isP l = true := by
  refine isP_of hl ?_
  have sub : ∀ x ∈ l, x ∈ rng l.length := fun x hx => mem_rng.mpr ⟨x.toNat, by have := hm x hx; omega, by have := hm x hx; omega⟩
  exact (erase_perm l (rng l.length) hn sub (length_rng _).symm).symm
def sumI : List Int → Int
  | [] => 0
  | a :: l => a + sumI l
theorem sumI_perm {a b : List Int} (h : a.Perm b) : sumI a = sumI b := by
  induction h with
  | nil => rfl
  | cons x _ ih => simp [sumI, ih]
  | swap x y l => simp only [sumI]; omega
  | trans _ _ h1 h2 => exact h1.trans h2
theorem sumI_append (a b : List Int) : sumI (a ++ b) = sumI a + sumI b := by
  induction a with
  | nil => simp [sumI]
  | cons x a ih => simp only [List.cons_append, sumI, ih]; omega
/-- one entry is changed: no permutation -/
theorem isP_changed {a b : List Int} {x y : Int} (h : isP (a ++ x :: b) = true) (hne : y ≠ x) : isP (a ++ y :: b) = false := by
  rw [← Bool.not_eq_true]
  intro h2
  have el : (a ++ x :: b).length = (a ++ y :: b).length := by simp
  have p1 := (perm_ints h).2
  have p2 := (perm_ints h2).2
  rw [← el] at p2
  have e := sumI_perm (p1.symm.trans p2)
  simp only [sumI_append, sumI] at e
  omega
/-! ### numbers of permutations -/
def fN : Nat → Nat
  | 0 => 1
  | n + 1 => (n + 1) * fN n
theorem fN_eq : ∀ n, factN n = (fN n : Int)
  | 0 => rfl
  | n + 1 => by simp [factN, fN, fN_eq n]
theorem fN_pos : ∀ n, 0 < fN n
  | 0 => by decide
  | n + 1 => Nat.mul_pos (Nat.succ_pos n) (fN_pos n)
/-- what is still to come: r places, these left, this number -/
def unr : Nat → List Int → Nat → List Int
  | 0, _, _ => []
  | r + 1, left, m => left.getD (m / fN r) 0 :: unr r (left.eraseIdx (m / fN r)) (m % fN r)
theorem div_nat (a b : Nat) : Int.fdiv (a : Int) (b : Int) = ((a / b : Nat) : Int) := by
  rw [Int.fdiv_eq_ediv_of_nonneg _ (by omega)]
  rfl
theorem mod_nat (a b : Nat) : Int.fmod (a : Int) (b : Int) = ((a % b : Nat) : Int) := by
  rw [Int.fmod_eq_emod_of_nonneg _ (by omega)]
  rfl
theorem erase_map {α β : Type} (f : α → β) : ∀ (l : List α) (k : Nat), (l.map f).eraseIdx k = (l.eraseIdx k).map f
  | [], _ => by simp
  | _ :: _, 0 => by simp
  | a :: l, k + 1 => by simp [erase_map f l k]
theorem unr_len : ∀ (r : Nat) (l : List Int) (m : Nat), (unr r l m).length = r
  | 0, _, _ => rfl
  | r + 1, l, m => by simp [unr, unr_len r]
theorem erase_perm1 {l : List Int} {k : Nat} (h : k < l.length) : (l[k] :: l.eraseIdx k).Perm l := by
  induction l generalizing k with
  | nil => simp at h
  | cons a l ih =>
    cases k with
    | zero => simp
    | succ k =>
      simp only [List.eraseIdx_cons_succ, List.getElem_cons_succ]
      exact (List.Perm.swap a (l[k]'(by simpa using h)) (l.eraseIdx k)).trans ((ih (by simpa using h)).cons a)
theorem unr_perm : ∀ (r : Nat) (l : List Int) (m : Nat), l.length = r → m < fN r → (unr r l m).Perm l
  | 0, l, m, h, _ => by
    have : l = [] := List.length_eq_zero_iff.mp h
    subst this
    simp [unr]
  | r + 1, l, m, h, hm => by
    have hp := fN_pos r
    have hq : m / fN r < l.length := by
      rw [h]
      exact Nat.div_lt_of_lt_mul (by rw [Nat.mul_comm]; exact hm)
    simp only [unr]
    rw [getD_at hq]
    have hl : (l.eraseIdx (m / fN r)).length = r := by rw [List.length_eraseIdx, if_pos hq]; omega
    exact ((unr_perm r _ _ hl (Nat.mod_lt _ hp)).cons _).trans (erase_perm1 hq)
theorem unr_isP {s m : Nat} (hs : s ≤ 6) (hm : m < fN s) : isP (unr s (rng s) m) = true := by
  have p := unr_perm s (rng s) m (length_rng s) hm
  refine isP_of (by rw [unr_len]; exact hs) ?_
  rw [unr_len]
  exact p.symm
theorem unr_map (f : Int → Int) : ∀ (r : Nat) (l : List Int) (m : Nat), l.length = r → m < fN r → unr r (l.map f) m = (unr r l m).map f
  | 0, _, _, _, _ => rfl
  | r + 1, l, m, h, hm => by
    have hp := fN_pos r
    have hq : m / fN r < l.length := by
      rw [h]
      exact Nat.div_lt_of_lt_mul (by rw [Nat.mul_comm]; exact hm)
    have hl : (l.eraseIdx (m / fN r)).length = r := by rw [List.length_eraseIdx, if_pos hq]; omega
    simp only [unr, erase_map, List.map_cons]
    rw [unr_map f r _ _ hl (Nat.mod_lt _ hp), getD_at hq, getD_at (by simpa using hq), List.getElem_map]
theorem small_fN : ∀ r : Fin 8, (fN r.val) < 100000 := by decide
theorem fN_le {r : Nat} (h : r ≤ 7) : fN r < 100000 := small_fN ⟨r, by omega⟩
theorem mod_small (c : Int) {k : Nat} (h : 0 < k) : ∃ j : Nat, j < k ∧ Int.fmod c (k : Int) = (j : Int) := by
  have h1 := Int.fmod_nonneg_of_pos c (show (0 : Int) < k by omega)
  have h2 := Int.fmod_lt_of_pos c (show (0 : Int) < k by omega)
  exact ⟨(Int.fmod c k).toNat, by omega, by omega⟩

/-! ### pairs -/
def mn (a b : Int) : Int := if b < a then b else a
def mx (a b : Int) : Int := if b > a then b else a
theorem mn_comm (a b : Int) : mn a b = mn b a := by unfold mn; split <;> split <;> omega
theorem mx_comm (a b : Int) : mx a b = mx b a := by unfold mx; split <;> split <;> omega
abbrev Pr2 := Int × Int
def pz (e : Pr2) : T := .tup [.int e.1, .int e.2]
def ed (a b : Int) : Pr2 := (mn a b, mx a b)
theorem ed_comm (a b : Int) : ed a b = ed b a := by unfold ed; rw [mn_comm, mx_comm]
def leP (p q : Pr2) : Bool := decide (p.1 < q.1 ∨ (p.1 = q.1 ∧ p.2 ≤ q.2))
def sortP (l : List Pr2) : List Pr2 := l.mergeSort leP
theorem leP_tr (a b c : Pr2) (h1 : leP a b = true) (h2 : leP b c = true) : leP a c = true := by
  simp only [leP, decide_eq_true_eq] at *; omega
theorem leP_tot (a b : Pr2) : (leP a b || leP b a) = true := by
  simp only [leP, Bool.or_eq_true, decide_eq_true_eq]; omega
theorem leP_as (a b : Pr2) (h1 : leP a b = true) (h2 : leP b a = true) : a = b := by
  simp only [leP, decide_eq_true_eq] at *
  exact Prod.ext (by omega) (by omega)
theorem sortP_p (l : List Pr2) : (sortP l).Perm l := List.mergeSort_perm l leP
theorem sortP_pw (l : List Pr2) : (sortP l).Pairwise fun a b => leP a b = true := List.pairwise_mergeSort leP_tr leP_tot l
theorem sortP_eq {l m : List Pr2} (h : l.Perm m) : sortP l = sortP m := List.Perm.eq_of_pairwise (fun a b _ _ => leP_as a b) (sortP_pw l) (sortP_pw m) ((sortP_p l).trans (h.trans (sortP_p m).symm))
theorem sortP_of {l : List Pr2} (h : l.Pairwise fun a b => leP a b = true) : sortP l = l := List.Perm.eq_of_pairwise (fun a b _ _ => leP_as a b) (sortP_pw l) h (sortP_p l)
theorem sortP_idem (l : List Pr2) : sortP (sortP l) = sortP l := sortP_of (sortP_pw l)
theorem pz_toD (e : Pr2) : (pz e).toD = .tuple [.int e.1, .int e.2] := by simp [pz, T.toD, toDL]
theorem pz_shaped (e : Pr2) : SeqAt.shaped (pz e).toD = true := by
  rw [pz_toD]
  simp [SeqAt.shaped, PyData.canLay0, PyData.canLayAll0, PyData.depth, PyData.depthAll]
theorem pz_flat (e : Pr2) : (pz e).flat = true := by simp [pz, T.flat, flatL]
theorem pz_sortOk (l : List Pr2) : sortOk (l.map pz) = true := by
  unfold sortOk
  rw [Bool.and_eq_true, List.all_eq_true, List.all_eq_true]
  refine ⟨fun x hx => ?_, fun x hx => ?_⟩
  · obtain ⟨e, _, rfl⟩ := List.mem_map.mp hx
    rw [pz_flat, pz_shaped, Bool.true_and, Bool.true_and, List.all_eq_true]
    intro y hy
    obtain ⟨e', _, rfl⟩ := List.mem_map.mp hy
    simp [pz_toD, PySem.W.alike, PySem.W.alikeAll]
  · obtain ⟨e, _, rfl⟩ := List.mem_map.mp hx
    rfl
theorem pz_sortT (l : List Pr2) : sortT (l.map pz) = (sortP l).map pz := by
  unfold sortT sortP
  refine (List.map_mergeSort fun a _ b _ => ?_).symm
  have h := congrFun (congrFun (PySem.W.dataLe_ii (β := Pr2) (fun e => e.1) (fun e => e.2)) a) b
  have e : PySem.W.dataLe false T.toD (pz a) (pz b) = PySem.W.dataLe false (fun e : Pr2 => PyData.tuple [.int e.1, .int e.2]) a b := by
    rw [PySem.W.dataLe_eq, PySem.W.dataLe_eq]
    simp only [pz_toD]
  rw [e, h]
  rfl
theorem ints_pz : ∀ {l : List Pr2}, l ≠ [] → ints? (l.map pz) = none
  | [], h => absurd rfl h
  | e :: l, _ => by simp [ints?, pz]
theorem bi_sorted_pz (l : List Pr2) : biT .sorted [.lst (l.map pz)] = .ok (.lst ((sortP l).map pz)) := by
  cases l with
  | nil => simp [biT, listOf?, ints?, sortP, sortInt]
  | cons e l =>
    have h := ints_pz (l := e :: l) (by simp)
    simp only [biT, listOf?, Option.bind_some, h, pz_sortOk, if_true, pz_sortT]

/-! ### rings -/
def isR (l : List Int) : Bool := decide (3 ≤ l.length) && isP l
def rot (l : List Int) (k : Nat) : List Int := l.drop k ++ l.take k
def at0 (l : List Int) : Nat := l.findIdx (· == 0)
/-- behind the 0: read the smaller way -/
def ringC (c : List Int) : List Int := 0 :: if c.getD 0 0 > c.getD (c.length - 1) 0 then c.reverse else c
def ringF (l : List Int) : List Int := ringC ((rot l (at0 l)).drop 1)
theorem rot_perm (l : List Int) (k : Nat) : (rot l k).Perm l := by
  unfold rot
  exact List.perm_append_comm.trans (by rw [List.take_append_drop])
theorem isR_perm {l m : List Int} (h : l.Perm m) : isR l = isR m := by unfold isR; rw [h.length_eq, isP_perm h]
theorem isR_isP {l : List Int} (h : isR l = true) : isP l = true := by
  unfold isR at h
  rw [Bool.and_eq_true] at h
  exact h.2
theorem isR_len {l : List Int} (h : isR l = true) : 3 ≤ l.length ∧ l.length ≤ 6 := by
  have h2 := (perm_ints (isR_isP h)).1
  unfold isR at h
  rw [Bool.and_eq_true, decide_eq_true_eq] at h
  exact ⟨h.1, h2⟩
theorem ring_split {l : List Int} (h : isR l = true) : ∃ a b, l = a ++ 0 :: b ∧ (0 : Int) ∉ a ∧ (0 : Int) ∉ b := by
  have h0 : (0 : Int) ∈ l := (isP_mem (isR_isP h)).mpr (by have := isR_len h; omega)
  obtain ⟨a, b, e⟩ := List.append_of_mem h0
  have hn := isP_nodup (isR_isP h)
  rw [e, List.nodup_append] at hn
  obtain ⟨_, n2, n3⟩ := hn
  exact ⟨a, b, e, fun z => n3 0 z 0 (by simp) rfl, (List.nodup_cons.mp n2).1⟩
theorem at0_split {a b : List Int} (h : (0 : Int) ∉ a) : at0 (a ++ 0 :: b) = a.length := by
  unfold at0
  induction a with
  | nil => rw [List.nil_append, List.findIdx_cons]; simp
  | cons x a ih =>
    simp only [List.mem_cons, not_or] at h
    rw [List.cons_append, List.findIdx_cons]
    have : (x == 0) = false := by simp; exact fun e => h.1 e.symm
    rw [this]
    simp [ih h.2]
theorem rot_split (a b : List Int) : rot (a ++ b) a.length = b ++ a := by
  unfold rot
  rw [List.drop_left, List.take_left]
theorem ringF_split {a b : List Int} (h : (0 : Int) ∉ a) : ringF (a ++ 0 :: b) = ringC (b ++ a) := by
  unfold ringF
  rw [at0_split h, rot_split]
  rfl
theorem ringF_turn {a b : List Int} (h : isR (a ++ b) = true) : ringF (b ++ a) = ringF (a ++ b) := by
  obtain ⟨c, d, e, hc, hd⟩ := ring_split h
  rw [e, ringF_split hc]
  rcases List.append_eq_append_iff.mp e with ⟨z, e1, e2⟩ | ⟨z, e1, e2⟩
  · -- the 0 stands in b
    subst e1 e2
    rw [show (z ++ 0 :: d) ++ a = z ++ 0 :: (d ++ a) by simp, ringF_split (fun q => hc (by simp [q]))]
    simp
  · cases z with
    | nil =>
      simp only [List.append_nil, List.nil_append] at e1 e2
      subst e1 e2
      rw [show (0 :: d) ++ a = [] ++ 0 :: (d ++ a) by simp, ringF_split (by simp)]
      simp
    | cons x z =>
      simp only [List.cons_append, List.cons.injEq] at e2
      obtain ⟨rfl, e2⟩ := e2
      subst e1
      rw [show b ++ (c ++ 0 :: z) = (b ++ c) ++ 0 :: z by simp, ringF_split (fun q => by
        rcases List.mem_append.mp q with q | q
        · exact hd (by rw [e2]; simp [q])
        · exact hc q)]
      rw [e2]
      simp
theorem ringF_rot {l : List Int} (h : isR l = true) (k : Nat) : ringF (rot l k) = ringF l := by
  have e : l = l.take k ++ l.drop k := (List.take_append_drop k l).symm
  have := ringF_turn (a := l.take k) (b := l.drop k) (by rw [← e]; exact h)
  rw [← e] at this
  exact this
theorem ringC_rev {c : List Int} (h : c.getD 0 0 ≠ c.getD (c.length - 1) 0) : ringC c.reverse = ringC c := by
  cases c with
  | nil => rfl
  | cons x c =>
    have h1 : (x :: c).reverse.getD 0 0 = (x :: c).getD ((x :: c).length - 1) 0 := by
      rw [List.getD_eq_getElem?_getD, List.getD_eq_getElem?_getD, List.getElem?_reverse (by simp)]
      simp
    have h2 : (x :: c).reverse.getD ((x :: c).reverse.length - 1) 0 = (x :: c).getD 0 0 := by
      rw [List.getD_eq_getElem?_getD, List.getD_eq_getElem?_getD, List.getElem?_reverse (by simp)]
      simp
    unfold ringC
    rw [h1, h2]
    by_cases hc : (x :: c).getD 0 0 > (x :: c).getD ((x :: c).length - 1) 0
    · rw [if_pos hc, if_neg (by omega)]
    · rw [if_neg hc, if_pos (by omega), List.reverse_reverse]
theorem ends_ne {c : List Int} (hn : c.Nodup) (hl : 2 ≤ c.length) : c.getD 0 0 ≠ c.getD (c.length - 1) 0 := by
  rw [getD_at (by omega), getD_at (by omega)]
  intro e
  have := (List.nodup_iff_pairwise_ne.mp hn)
  have h := List.pairwise_iff_getElem.mp this 0 (c.length - 1) (by omega) (by omega) (by omega)
  exact h e
theorem ring_rest {l a b : List Int} (h : isR l = true) (e : l = a ++ 0 :: b) : (b ++ a).Nodup ∧ 2 ≤ (b ++ a).length := by
  have hn := isP_nodup (isR_isP h)
  have hl := isR_len h
  have p : l.Perm (0 :: (b ++ a)) := by rw [e]; exact List.perm_middle.trans ((List.perm_append_comm).cons 0)
  have hn2 := p.nodup_iff.mp hn
  refine ⟨(List.nodup_cons.mp hn2).2, ?_⟩
  have := p.length_eq
  simp only [List.length_cons] at this
  omega
theorem ringF_rev {l : List Int} (h : isR l = true) : ringF l.reverse = ringF l := by
  obtain ⟨a, b, e, ha, hb⟩ := ring_split h
  obtain ⟨hn, hl⟩ := ring_rest h e
  rw [e, ringF_split ha]
  have e2 : (a ++ 0 :: b).reverse = b.reverse ++ 0 :: a.reverse := by simp
  rw [e2, ringF_split (by simpa using hb), ← ringC_rev (ends_ne hn hl)]
  simp
/-- a ring's form, by its places -/
theorem ringF_form {l : List Int} (h : isR l = true) : (ringF l).Perm l ∧ (ringF l).getD 0 0 = 0 ∧ (ringF l).getD 1 0 < (ringF l).getD (l.length - 1) 0 := by
  obtain ⟨a, b, e, ha, hb⟩ := ring_split h
  obtain ⟨hn, hl⟩ := ring_rest h e
  have hne := ends_ne hn hl
  have pc : l.Perm (0 :: (b ++ a)) := by rw [e]; exact List.perm_middle.trans ((List.perm_append_comm).cons 0)
  have eF : ringF l = ringC (b ++ a) := by rw [e]; exact ringF_split ha
  rw [eF, pc.length_eq]
  generalize b ++ a = c at hn hl hne pc
  unfold ringC
  have c1 : ∀ (w : List Int), (0 :: w).getD 1 0 = w.getD 0 0 := fun w => by simp
  have c2 : ∀ (w : List Int), w.length = c.length → (0 :: w).getD ((0 :: c).length - 1) 0 = w.getD (c.length - 1) 0 := fun w hw => by
    obtain ⟨m, hm⟩ : ∃ m, c.length = m + 1 := ⟨c.length - 1, by omega⟩
    simp [hm]
  have h1 : c.reverse.getD 0 0 = c.getD (c.length - 1) 0 := by
    rw [List.getD_eq_getElem?_getD, List.getD_eq_getElem?_getD, List.getElem?_reverse (by omega)]
    simp
  have h2 : c.reverse.getD (c.length - 1) 0 = c.getD 0 0 := by
    rw [List.getD_eq_getElem?_getD, List.getD_eq_getElem?_getD, List.getElem?_reverse (by omega)]
    congr 2
    omega
  by_cases hc : c.getD 0 0 > c.getD (c.length - 1) 0
  · rw [if_pos hc]
    refine ⟨((List.reverse_perm c).cons 0).trans pc.symm, rfl, ?_⟩
    rw [c1, c2 _ (List.length_reverse), h1, h2]
    exact hc
  · rw [if_neg hc]
    refine ⟨pc.symm, rfl, ?_⟩
    rw [c1, c2 _ rfl]
    omega
/-- a row that is its own form -/
theorem ringF_self {l : List Int} (h : isR l = true) (h0 : l.getD 0 0 = 0) (h1 : l.getD 1 0 < l.getD (l.length - 1) 0) : ringF l = l := by
  have hl := isR_len h
  match l, h0, h1 with
  | x :: c, h0, h1 =>
    have hx : x = 0 := by simpa using h0
    subst hx
    have := ringF_split (a := []) (b := c) (by simp)
    simp only [List.nil_append, List.append_nil] at this
    rw [this]
    unfold ringC
    rw [if_neg]
    have c1 : (0 :: c).getD 1 0 = c.getD 0 0 := by simp
    have c2 : (0 :: c).getD ((0 :: c).length - 1) 0 = c.getD (c.length - 1) 0 := by
      obtain ⟨m, hm⟩ : ∃ m, c.length = m + 1 := ⟨c.length - 1, by simp at hl; omega⟩
      simp [hm]
    rw [c1, c2] at h1
    omega
/-- the test of a form -/
def isF (l : List Int) : Bool := isR l && decide (l.getD 0 0 = 0) && decide (l.getD 1 0 < l.getD (l.length - 1) 0)
theorem isF_eq {l : List Int} (h : isR l = true) : isF l = decide (l = ringF l) := by
  rw [Bool.eq_iff_iff]
  simp only [isF, h, Bool.true_and, Bool.and_eq_true, decide_eq_true_eq]
  constructor
  · exact fun ⟨h0, h1⟩ => (ringF_self h h0 h1).symm
  · intro e
    obtain ⟨p, h0, h1⟩ := ringF_form h
    rw [← e] at h0 h1
    exact ⟨h0, h1⟩
/-! the edges of a ring -/
def pe : Int → List Int → List Pr2
  | _, [] => []
  | x, y :: l => ed x y :: pe y l
def lastD (x : Int) (l : List Int) : Int := l.getD (l.length - 1) x
theorem lastD_cons (x y : Int) (l : List Int) : lastD x (y :: l) = lastD y l := by
  cases l with
  | nil => rfl
  | cons z l => simp [lastD]
theorem pe_app : ∀ (x : Int) (a b : List Int), pe x (a ++ b) = pe x a ++ pe (lastD x a) b
  | x, [], b => rfl
  | x, y :: a, b => by
    simp only [List.cons_append, pe, pe_app y a b, lastD_cons]
theorem lastD_app (x : Int) (a : List Int) {b : List Int} (h : b ≠ []) : ∀ z, lastD x (a ++ b) = lastD z b := by
  intro z
  induction a generalizing x with
  | nil =>
    cases b with
    | nil => exact absurd rfl h
    | cons y b => simp [lastD_cons]
  | cons y a ih => rw [List.cons_append, lastD_cons]; exact ih y
def rE (l : List Int) : List Pr2 := pe (lastD 0 l) l
theorem rE_turn (a b : List Int) : (rE (b ++ a)).Perm (rE (a ++ b)) := by
  by_cases ha : a = []
  · subst ha; simp
  by_cases hb : b = []
  · subst hb; simp
  unfold rE
  rw [pe_app, pe_app, lastD_app 0 b ha 0, lastD_app 0 a hb 0]
  have e1 : lastD (lastD 0 a) b = lastD 0 b := by
    cases b with
    | nil => exact absurd rfl hb
    | cons y b => simp [lastD_cons]
  have e2 : lastD (lastD 0 b) a = lastD 0 a := by
    cases a with
    | nil => exact absurd rfl ha
    | cons y b => simp [lastD_cons]
  rw [e1, e2]
  exact List.perm_append_comm
theorem rE_rot (l : List Int) (k : Nat) : (rE (rot l k)).Perm (rE l) := by
  have := rE_turn (l.take k) (l.drop k)
  rw [List.take_append_drop] at this
  exact this
theorem pe_rev : ∀ (x : Int) (l : List Int) (z : Int), pe z ((x :: l).reverse) = ed z (lastD x l) :: (pe x l).reverse
  | x, [], z => by simp [pe, lastD]
  | x, y :: l, z => by
    rw [List.reverse_cons, pe_app, pe_rev y l z]
    have e : lastD z (y :: l).reverse = y := by
      rw [List.reverse_cons, lastD_app z l.reverse (b := [y]) (by simp) 0]
      rfl
    rw [e]
    simp [pe, lastD_cons, ed_comm x y]
theorem rE_rev (l : List Int) : (rE l.reverse).Perm (rE l) := by
  cases l with
  | nil => exact .refl _
  | cons x l =>
    unfold rE
    have e : lastD 0 (x :: l).reverse = x := by
      rw [List.reverse_cons, lastD_app 0 l.reverse (b := [x]) (by simp) 0]
      rfl
    rw [e, pe_rev, lastD_cons]
    simp only [pe]
    rw [ed_comm x (lastD x l)]
    exact ((List.reverse_perm _).cons _)
theorem rE_form {l : List Int} (h : isR l = true) : (rE (ringF l)).Perm (rE l) := by
  obtain ⟨a, b, e, ha, hb⟩ := ring_split h
  have p1 : (rE (0 :: (b ++ a))).Perm (rE l) := by
    rw [e]
    exact rE_turn a (0 :: b)
  have eF : ringF l = ringC (b ++ a) := by rw [e]; exact ringF_split ha
  rw [eF]
  unfold ringC
  split
  · refine List.Perm.trans ?_ p1
    have e2 : (0 :: (b ++ a)).reverse = (b ++ a).reverse ++ [0] := by simp
    have p2 := rE_rev (0 :: (b ++ a))
    rw [e2] at p2
    exact (rE_turn (b ++ a).reverse [0]).trans p2
  · exact p1
end BV

/-! What bodies compute that more than one text holds. -/
namespace BV
open PySem
abbrev CF := Nat → List T → Res T
section
variable {cf cf' : CF} {i c0 c1 : Nat} {sb : Str → Str → Option Bool} {g0 g1 : Str}

/-! ### small facts -/
theorem cut_to {α : Type} (xs : List α) (k : Nat) : cutT xs none (some (k : Int)) = xs.take k := by
  unfold cutT
  rw [HT.sIx_nat, HT.sIx_none]
  rw [List.drop_zero, Nat.sub_zero]
  by_cases h : k ≤ xs.length
  · rw [Nat.min_eq_left h]
  · rw [Nat.min_eq_right (by omega), List.take_length, List.take_of_length_le (by omega)]
theorem cut_nat {α : Type} (xs : List α) (a b : Nat) : cutT xs (some (a : Int)) (some (b : Int)) = (xs.drop a).take (b - a) := by
  unfold cutT
  rw [HT.sIx_nat, HT.sIx_nat]
  by_cases h : a ≤ xs.length
  · rw [Nat.min_eq_left h]
    by_cases h2 : b ≤ xs.length
    · rw [Nat.min_eq_left h2]
    · rw [Nat.min_eq_right (show xs.length ≤ b by omega), List.take_of_length_le (by simp), List.take_of_length_le (by simp; omega)]
  · rw [Nat.min_eq_right (show xs.length ≤ a by omega), List.drop_of_length_le (Nat.le_refl _), List.drop_of_length_le (by omega)]
    simp
theorem idx_tzD {l : List Int} {i : Nat} (h : i < l.length) : idxT (tz l) (.int (i : Int)) = .ok (.int (l.getD i 0)) := by rw [getD_at h]; exact idx_tz h
theorem idx_lzD {l : List Int} {i : Nat} (h : i < l.length) : idxT (lz l) (.int (i : Int)) = .ok (.int (l.getD i 0)) := by rw [getD_at h]; exact idx_lz h
theorem at_last {α : Type} {xs : List α} (h : 0 < xs.length) : L2.atI xs (-1) = xs[xs.length - 1]? := by
  unfold L2.atI L2.ixN
  rw [if_neg (by decide), if_pos (by omega)]
  have : ((-1 : Int) + xs.length).toNat = xs.length - 1 := by omega
  rw [this]
  rfl
theorem idx_tzL {l : List Int} (h : 0 < l.length) : idxT (tz l) (.int (-1)) = .ok (.int (l.getD (l.length - 1) 0)) := by
  rw [idx_tup, at_last (by simpa using h)]
  have h2 : l.length - 1 < l.length := by omega
  simp [h2]
theorem idx_lzL {l : List Int} (h : 0 < l.length) : idxT (lz l) (.int (-1)) = .ok (.int (l.getD (l.length - 1) 0)) := by
  rw [idx_lst, at_last (by simpa using h)]
  have h2 : l.length - 1 < l.length := by omega
  simp [h2]
theorem flatL_map (f : α → T) (l : List α) (h : ∀ x ∈ l, (f x).flat = true) : flatL (l.map f) = true := by
  induction l with
  | nil => simp [flatL]
  | cons a l ih => simp only [List.map_cons, flatL, Bool.and_eq_true]; exact ⟨h a (by simp), ih fun x hx => h x (by simp [hx])⟩
@[simp] theorem flat_tz (l : List Int) : (T.tup (l.map T.int)).flat = true := by
  simp only [T.flat]; exact flatL_map _ _ fun _ _ => rfl
@[simp] theorem flat_str (x : Str) : (T.str x).flat = true := rfl
@[simp] theorem flat_non : T.non.flat = true := rfl
theorem place_int (k : Int) : ∀ l : List Int, placeT (PyData.int k) (l.map T.int) = l.findIdx? (· == k)
  | [] => rfl
  | a :: l => by
    unfold placeT
    rw [List.map_cons, List.findIdx?_cons, List.findIdx?_cons]
    have e : PyData.eqv (T.int a).toD (PyData.int k) = (a == k) := by simp [T.toD, PyData.eqv]
    rw [e]
    have ih := place_int k l
    unfold placeT at ih
    rw [ih]
theorem find_at0 {l : List Int} (h : (0 : Int) ∈ l) : l.findIdx? (· == 0) = some (at0 l) := by
  unfold at0
  rw [List.findIdx?_eq_some_iff_findIdx_eq]
  exact ⟨List.findIdx_lt_length_of_exists ⟨0, h, by simp⟩, rfl⟩
theorem ix_tup0 {l : List Int} (h : (0 : Int) ∈ l) : meT .indexT (.tup (l.map T.int)) [.int 0] = .ok (.int (at0 l : Int)) := by
  have h1 : SeqAt.shaped (T.int 0).toD = true := by simp [T.toD, SeqAt.shaped, PyData.canLay0, PyData.depth]
  have h2 : SeqAt.shaped (T.tup (l.map T.int)).toD = true := shaped_tz l
  have h3 : (T.int 0).toD = PyData.int 0 := by simp [T.toD]
  simp only [meT]
  rw [if_pos ⟨h1, h2⟩, h3, place_int, find_at0 h]
theorem ix_lst0 {l : List Int} (h : (0 : Int) ∈ l) : meT .index (.lst (l.map T.int)) [.int 0] = .ok (.int (at0 l : Int)) := by
  have h1 : SeqAt.shaped (T.int 0).toD = true := by simp [T.toD, SeqAt.shaped, PyData.canLay0, PyData.depth]
  have h2 : SeqAt.shaped (T.lst (l.map T.int)).toD = true := shaped_lz l
  have h3 : (T.int 0).toD = PyData.int 0 := by simp [T.toD]
  simp only [meT]
  rw [if_pos ⟨h1, h2⟩, h3, place_int, find_at0 h]
@[simp] theorem rv_tup (l : List T) : recvOk .indexT (.tup l) = true := rfl
@[simp] theorem rv_lst (l : List T) : recvOk .index (.lst l) = true := rfl
@[simp] theorem tn_tup (k : Bool) (l : List T) : turnT k (.tup l) = .ok (.tup (cutK k l)) := rfl
@[simp] theorem tn_lst (k : Bool) (l : List T) : turnT k (.lst l) = .ok (.lst (cutK k l)) := rfl
theorem enum_at {l : List Int} {i : Nat} (h : i < (enumL (l.map T.int)).length) : ∃ h' : i < l.length, (enumL (l.map T.int))[i] = .pair [.int (i : Int), .int l[i]] := by
  have h' : i < l.length := by simpa [enumL_length] using h
  refine ⟨h', ?_⟩
  have := enumL_get (l.map T.int) i (by simpa using h')
  rw [List.getElem?_eq_getElem h] at this
  rw [Option.some.inj this]
  simp
theorem rng_at {n i : Nat} (h : i < ((rng n).map T.int).length) : ((rng n).map T.int)[i] = .int (i : Int) := by simp [rng]
theorem rot_at0 {l : List Int} (h : isR l = true) : ∃ c, rot l (at0 l) = 0 :: c ∧ c.length + 1 = l.length := by
  obtain ⟨a, b, e, ha, hb⟩ := ring_split h
  refine ⟨b ++ a, ?_, by rw [e]; simp; omega⟩
  rw [e, at0_split ha, rot_split]
  rfl
theorem isR_zero {l : List Int} (h : isR l = true) : (0 : Int) ∈ l := (isP_mem (isR_isP h)).mpr (by have := isR_len h; omega)
theorem bi_min (a b : Int) : biT .min2 [.int a, .int b] = .ok (.int (mn a b)) := rfl
theorem bi_max (a b : Int) : biT .max2 [.int a, .int b] = .ok (.int (mx a b)) := rfl

/-! ### perms -/
def Sp_isperm (cf : CF) (i : Nat) : Prop := ∀ l : List Int, cf i [tz l] = .ok (.bl (isP l))
theorem mk_isperm (u : ∀ a, cf' i [a] = (exs cf sb (B_is_permutation g0) [some (.par a)]).res) : Sp_isperm cf' i := fun l => by
  rw [u]
  simp [B_is_permutation]
  by_cases h : l.length ≤ 6
  · have e : (l.length : Int) ≤ 6 := by omega
    simp [e, isP, h, bi_sorted_tz (show l.length < 64 by omega), bi_range (show l.length ≤ 16000000 by omega)]
  · have e : ¬ (l.length : Int) ≤ 6 := by omega
    simp [e, isP, h]
def Sp_checkperm (cf : CF) (i : Nat) : Prop := ∀ l : List Int, cf i [tz l] = if isP l = true then .ok .non else .exc "BadPermutation" []
theorem mk_checkperm (h0 : Sp_isperm cf c0) (u : ∀ a, cf' i [a] = (exs cf sb (B_check_permutation c0) [some (.par a)]).res) : Sp_checkperm cf' i := fun l => by
  rw [u]
  simp [B_check_permutation, h0 l]
  cases h : isP l <;> simp
theorem it_down {s : Nat} (h : s ≤ 20) : itemsT .rng3 [.int ((s : Int) - 1), .int (-1), .int (-1)] = .ok ((List.range s).map fun (i : Nat) => T.int ((s : Int) - 1 - (i : Int))) := by
  have hz := sizeLine_eq
  simp only [itemsT]
  rw [if_pos (by refine ⟨by decide, by omega, by omega, by omega, by omega⟩)]
  have : (((s : Int) - 1) - (-1)).toNat = s := by omega
  rw [this]
theorem pop_nat {left : List Int} {k : Nat} (h : k < left.length) (hz : left.length ≤ sizeLine) : popT (left.map T.int) [.int (k : Int)] = .ok (.int (left.getD k 0), (left.eraseIdx k).map .int) := by
  have hpa : popAt (left.map T.int).length [.int (k : Int)] = some k := by
    show (if (left.map T.int).length ≤ sizeLine then L2.ixN (left.map T.int).length (k : Int) else none) = _
    rw [List.length_map, if_pos hz, ix_nat h]
  unfold popT
  rw [hpa]
  simp [h, erase_map]
def Sp_perm (cf : CF) (i : Nat) : Prop := (∀ s m : Nat, s ≤ 6 → m < fN s → cf i [.int (s : Int), .int (m : Int)] = .ok (tz (unr s (rng s) m))) ∧
  (∀ s m : Int, s < 0 ∨ 6 < s → cf i [.int s, .int m] = .exc "BadPermutation" []) ∧ ∀ (s : Nat) (m : Int), s ≤ 6 → (m < 0 ∨ (fN s : Int) ≤ m) → cf i [.int (s : Int), .int m] = .exc "BadDraw" []
theorem mk_perm (u : ∀ a b, cf' i [a, b] = (exs cf sb (B_permutation g0) [some (.par a), some (.par b), none, none, none, none]).res) : Sp_perm cf' i := by
  refine ⟨fun s m hs hm => ?_, fun s m h => ?_, fun s m hs h => ?_⟩
  · rw [u]
    refine g_step (ρ' := [some (.par (.int s)), some (.par (.int m)), none, none, none, none]) ?_ ?_
    · have h1 : ¬ (s : Int) < 0 := by omega
      have h2 : ¬ (6 : Int) < (s : Int) := by omega
      simp [h1, h2]
    refine g_step (ρ' := [some (.par (.int s)), some (.par (.int m)), none, none, none, none]) ?_ ?_
    · have h1 : ¬ (m : Int) < 0 := by omega
      have h2 : ¬ (fN s ≤ m) := by omega
      simp [h1, bi_factN (show s ≤ 20 by omega), fN_eq, h2]
    refine g_step (ρ' := [some (.par (.int s)), some (.par (.int m)), some (.own ((rng s).map .int)), none, none, none]) (by simp [bi_range (show s ≤ 16000000 by omega)]) ?_
    refine g_step (ρ' := [some (.par (.int s)), some (.par (.int m)), some (.own ((rng s).map .int)), some (.own (([] : List Int).map .int)), none, none]) (by simp) ?_
    refine g_for (xs := (List.range s).map fun (i : Nat) => T.int ((s : Int) - 1 - (i : Int))) (by simp only [evs_cons, evs_nil, ev_bin, ev_neg, ev_int, ev_var, List.getElem?_cons_zero, sl_par, bd_ok, bin_sub, neg_int, it_down (show s ≤ 20 by omega)])
      (fun i ρ => ∃ (left row : List Int) (q : Nat) (o o2 : Option Sl), ρ = [some (.par (.int s)), some (.par (.int (q : Int))), some (.own (left.map .int)), some (.own (row.map .int)), o, o2] ∧ left.length = s - i ∧ row.length = i ∧ q < fN (s - i) ∧ row ++ unr (s - i) left q = unr s (rng s) m)
      ⟨rng s, [], m, _, _, rfl, by simp [length_rng], rfl, hm, rfl⟩ ?_ ?_
    · rintro ρ ⟨left, row, q, o, o2, rfl, h1, h2, h3, h4⟩
      simp only [List.length_map, List.length_range, Nat.sub_self] at h4
      simp [unr] at h4
      simp [h4]
    · rintro i ρ hi ⟨left, row, q, o, o2, rfl, h1, h2, h3, h4⟩
      have hi' : i < s := by simpa using hi
      obtain ⟨r, hr⟩ : ∃ r, s - i = r + 1 := ⟨s - i - 1, by omega⟩
      rw [hr] at h1 h3 h4
      have er : ((s : Int) - 1 - (i : Int)) = (r : Int) := by omega
      have e0 : ((List.range s).map fun (i : Nat) => T.int ((s : Int) - 1 - (i : Int)))[i] = .int (r : Int) := by simp [er]
      rw [e0]
      have hp := fN_pos r
      have hq : q / fN r < r + 1 := Nat.div_lt_of_lt_mul (by rw [Nat.mul_comm]; exact h3)
      have hsm : fN r < 100000 := fN_le (by omega)
      have hl : q / fN r < left.length := by omega
      refine ⟨_, rfl, .inl ⟨[some (.par (.int s)), some (.par (.int ((q % fN r : Nat) : Int))), some (.own ((left.eraseIdx (q / fN r)).map .int)), some (.own ((row ++ [left.getD (q / fN r) 0]).map .int)), some (.val (.int (r : Int))), some (.val (.int (fN r : Int)))], ?_,
        left.eraseIdx (q / fN r), row ++ [left.getD (q / fN r) 0], q % fN r, _, _, rfl, ?_, by simp [h2], ?_, ?_⟩⟩
      · refine x_step (ρ' := [some (.par (.int s)), some (.par (.int (q : Int))), some (.own (left.map .int)), some (.own (row.map .int)), some (.val (.int (r : Int))), some (.val (.int (fN r : Int)))]) (by simp [bi_factN (show r ≤ 20 by omega), fN_eq]) ?_
        refine x_step (ρ' := [some (.par (.int s)), some (.par (.int (q : Int))), some (.own ((left.eraseIdx (q / fN r)).map .int)), some (.own ((row ++ [left.getD (q / fN r) 0]).map .int)), some (.val (.int (r : Int))), some (.val (.int (fN r : Int)))]) ?_ (x_step (ρ' := [some (.par (.int s)), some (.par (.int ((q % fN r : Nat) : Int))), some (.own ((left.eraseIdx (q / fN r)).map .int)), some (.own ((row ++ [left.getD (q / fN r) 0]).map .int)), some (.val (.int (r : Int))), some (.val (.int (fN r : Int)))]) ?_ (x_end rfl))
        · have hz : row.length < sizeLine := lt_line (by omega)
          have hdv : binT .FloorDiv (.int (q : Int)) (.int (fN r : Int)) = .ok (.int ((q / fN r : Nat) : Int)) := by
            rw [bin_div, div_nat, if_pos ⟨by omega, by omega⟩]
          have hpop := pop_nat hl (le_line (by omega))
          simp only [ex_appPop, ev_bin, ev_var, evs_cons, evs_nil, List.getElem?_cons_zero, List.getElem?_cons_succ, List.set_cons_zero, List.set_cons_succ, sl_par, sl_val, bd_ok, hdv, hpop, own_get, ownAt, fl_ok, List.length_map, hz, if_true]
          simp
        · have hne : (fN r : Int) ≠ 0 := by omega
          have hmd : binT .Mod (.int (q : Int)) (.int (fN r : Int)) = .ok (.int ((q % fN r : Nat) : Int)) := by rw [bin_mod, mod_nat, if_pos hne]
          simp only [ex_asgP, ev_bin, ev_var, List.getElem?_cons_zero, List.getElem?_cons_succ, sl_par, sl_val, bd_ok, fl_ok, hmd]
          rfl
      · rw [List.length_eraseIdx]
        rw [if_pos hl]
        omega
      · have : s - (i + 1) = r := by omega
        rw [this]; exact Nat.mod_lt _ hp
      · have : s - (i + 1) = r := by omega
        rw [this, ← h4]
        simp [unr]
  · rw [u]
    refine g_exc (ρ' := [some (.par (.int s)), some (.par (.int m)), none, none, none, none]) ?_ rfl
    by_cases h1 : s < 0
    · simp [h1]
    · have h2 : 6 < s := by omega
      simp [h1, h2]
  · rw [u]
    refine g_step (ρ' := [some (.par (.int s)), some (.par (.int m)), none, none, none, none]) ?_ ?_
    · have h1 : ¬ (s : Int) < 0 := by omega
      have h2 : ¬ (6 : Int) < (s : Int) := by omega
      simp [h1, h2]
    refine g_exc (ρ' := [some (.par (.int s)), some (.par (.int m)), none, none, none, none]) ?_ rfl
    by_cases h1 : m < 0
    · simp [h1]
    · have h2 : (fN s : Int) ≤ m := by omega
      simp [h1, bi_factN (show s ≤ 20 by omega), fN_eq, h2]

/-! ### rings -/
def Sp_checkring (cf : CF) (i : Nat) : Prop := ∀ l : List Int, cf i [tz l] = if isR l = true then .ok .non else .exc "BadPermutation" []
theorem mk_checkring (h0 : Sp_isperm cf c0) (u : ∀ a, cf' i [a] = (exs cf sb (B_check_ring g0 c0) [some (.par a)]).res) : Sp_checkring cf' i := fun l => by
  rw [u]
  by_cases h : 3 ≤ l.length
  · have e : ¬ (l.length : Int) < 3 := by omega
    simp [B_check_ring, h0 l, isR, h, e]
    cases h : isP l <;> simp
  · have e : (l.length : Int) < 3 := by omega
    simp [B_check_ring, isR, h, e]
def Sp_ringform (cf : CF) (i : Nat) : Prop := ∀ l : List Int, cf i [tz l] = if isR l = true then .ok (tz (ringF l)) else .exc "BadPermutation" []
theorem mk_ringform (h0 : Sp_checkring cf c0) (u : ∀ a, cf' i [a] = (exs cf sb (B_ring_form c0) [some (.par a), none, none]).res) : Sp_ringform cf' i := fun l => by
  rw [u]
  by_cases h : isR l = true
  · rw [if_pos h]
    have hl := isR_len h
    obtain ⟨c, hc, hcl⟩ := rot_at0 h
    have hz : ∀ n, n ≤ 20 → n ≤ sizeLine := fun n hn => le_line (by omega)
    refine g_step (ρ' := [some (.par (tz l)), none, none]) (by simp [h0 l, h]) ?_
    refine g_step (ρ' := [some (.par (tz l)), some (.val (.int (at0 l : Int))), none]) (by simp [ix_tup0 (isR_zero h)]) ?_
    have hat : at0 l < l.length := List.findIdx_lt_length_of_exists ⟨0, isR_zero h, by simp⟩
    refine g_step (ρ' := [some (.par (tz l)), some (.val (.int (at0 l : Int))), some (.val (tz (0 :: c)))]) ?_ ?_
    · have e : (l.drop (at0 l)).map T.int ++ (l.take (at0 l)).map T.int = (0 :: c).map T.int := by
        rw [← List.map_append]
        exact congrArg (List.map T.int) hc
      have e2 : ((l.drop (at0 l)).map T.int ++ (l.take (at0 l)).map T.int).length ≤ sizeLine := by rw [e]; exact hz _ (by simp; omega)
      simp only [ex_asg, ev_chk, ev_bin, ev_slice, ev_var, evs_cons, evs_nil, List.getElem?_cons_zero, List.getElem?_cons_succ, sl_par, sl_val, bd_ok, opt_nil, opt_one, slice_tup, cut_from, cut_to, ← List.map_drop, ← List.map_take, bin_catT]
      rw [if_pos e2, e]
      simp only [bd_ok, flat_tz, if_true, fl_ok]
      rfl
    have c1 : idxT (tz (0 :: c)) (.int 1) = .ok (.int (c.getD 0 0)) := by
      have := idx_tzD (l := 0 :: c) (i := 1) (by simp; omega)
      simpa using this
    have c2 : idxT (tz (0 :: c)) (.int (-1)) = .ok (.int (c.getD (c.length - 1) 0)) := by
      have := idx_tzL (l := 0 :: c) (by simp)
      rw [this]
      obtain ⟨m, hm⟩ : ∃ m, c.length = m + 1 := ⟨c.length - 1, by omega⟩
      simp [hm]
    have eF : ringF l = ringC c := by
      unfold ringF
      rw [hc]
      rfl
    rw [eF]
    unfold ringC
    by_cases hcm : c.getD 0 0 > c.getD (c.length - 1) 0
    · rw [if_pos hcm]
      refine g_ite (k := true) (by simp only [ev_cmp, ev_idx, ev_var, ev_int, ev_neg, List.getElem?_cons_zero, List.getElem?_cons_succ, sl_val, bd_ok, neg_int, c1, c2, cmp_gt, truthR_bl]; simpa using hcm) (fun _ => ?_) (fun z => by cases z)
      refine g_ret (t := tz (0 :: c.reverse)) ?_ rfl
      have z2 : ∀ xs : List T, xs.length = c.length + 1 → xs.length ≤ sizeLine := fun xs e => by rw [e]; exact hz _ (by omega)
      have k1 := cut_to ((0 :: c).map T.int) 1
      simp only [Int.natCast_one] at k1
      have k2 : cutK true ((0 :: c).map T.int) = c.reverse.map T.int := by simp [cutK]
      simp only [ex_ret, ev_bin, ev_slice, ev_turn, ev_var, ev_int, evs_cons, evs_nil, List.getElem?_cons_zero, List.getElem?_cons_succ, sl_val, bd_ok, opt_nil, opt_one, slice_tup, tn_tup, k1, k2, bin_catT]
      rw [if_pos (z2 _ (by simp))]
      simp
    · rw [if_neg hcm]
      refine g_ite (k := false) (by simp only [ev_cmp, ev_idx, ev_var, ev_int, ev_neg, List.getElem?_cons_zero, List.getElem?_cons_succ, sl_val, bd_ok, neg_int, c1, c2, cmp_gt, truthR_bl]; simpa using hcm) (fun z => by cases z) (fun _ => ?_)
      exact g_ret (t := tz (0 :: c)) (by simp) rfl
  · rw [if_neg h]
    exact g_exc (ρ' := [some (.par (tz l)), none, none]) (by simp [h0 l, h]) rfl
def Sp_ringedges (cf : CF) (i : Nat) : Prop := ∀ l : List Int, cf i [tz l] = if isR l = true then .ok (.tup ((sortP (rE l)).map pz)) else .exc "BadPermutation" []
theorem pe_at : ∀ (x : Int) (l : List Int) (i : Nat) (h : i < l.length), (pe x l).length = l.length ∧ (pe x l)[i]? = some (ed (if i = 0 then x else l.getD (i - 1) 0) (l.getD i 0))
  | x, [], i, h => by simp at h
  | x, y :: l, i, h => by
    cases i with
    | zero =>
      refine ⟨?_, by simp [pe]⟩
      cases l with
      | nil => rfl
      | cons z l => simp only [pe, List.length_cons]; have := (pe_at y (z :: l) 0 (by simp)).1; simp only [pe, List.length_cons] at this ⊢; omega
    | succ i =>
      have := pe_at y l i (by simpa using h)
      refine ⟨by simp [pe, this.1], ?_⟩
      simp only [pe, List.getElem?_cons_succ, this.2]
      cases i <;> simp
theorem pe_len (x : Int) (l : List Int) : (pe x l).length = l.length := by
  cases l with
  | nil => rfl
  | cons y l => exact (pe_at x (y :: l) 0 (by simp)).1
theorem pe_take {x : Int} {l : List Int} {i : Nat} (h : i < l.length) : (pe x l).take (i + 1) = (pe x l).take i ++ [ed (if i = 0 then x else l.getD (i - 1) 0) (l.getD i 0)] := by
  rw [List.take_add_one, (pe_at x l i h).2]
  rfl
theorem mk_ringedges (h0 : Sp_checkring cf c0) (u : ∀ a, cf' i [a] = (exs cf sb (B_ring_edges c0) [some (.par a), none, none, none, none]).res) : Sp_ringedges cf' i := fun l => by
  rw [u]
  by_cases h : isR l = true
  · rw [if_pos h]
    have hl := isR_len h
    refine g_step (ρ' := [some (.par (tz l)), none, none, none, none]) (by simp [h0 l, h]) ?_
    refine g_step (ρ' := [some (.par (tz l)), some (.own (((rE l).take 0).map pz)), none, none, none]) (by simp) ?_
    refine g_for (xs := enumL (l.map .int)) (by simp) (fun i ρ => ∃ o o2 o3, ρ = [some (.par (tz l)), some (.own (((rE l).take i).map pz)), o, o2, o3]) ⟨_, _, _, rfl⟩ ?_ ?_
    · rintro ρ ⟨o, o2, o3, rfl⟩
      have e : (rE l).take (enumL (l.map T.int)).length = rE l := by rw [enumL_length, List.length_map, List.take_of_length_le (by unfold rE; rw [pe_len]; omega)]
      rw [e]
      refine g_ret (t := .tup ((sortP (rE l)).map pz)) ?_ rfl
      simp [bi_sorted_pz]
    · rintro i ρ hi ⟨o, o2, o3, rfl⟩
      obtain ⟨hi', e⟩ := enum_at hi
      rw [e]
      have hb : ∃ w, w = (if i = 0 then lastD 0 l else l.getD (i - 1) 0) ∧ idxT (tz l) (.int ((i : Int) - 1)) = .ok (.int w) := by
        by_cases h0 : i = 0
        · subst h0
          refine ⟨_, rfl, ?_⟩
          rw [if_pos rfl]
          have := idx_tzL (l := l) (by omega)
          exact this
        · refine ⟨_, rfl, ?_⟩
          rw [if_neg h0]
          have e1 : (i : Int) - 1 = ((i - 1 : Nat) : Int) := by omega
          rw [e1]
          exact idx_tzD (by omega)
      obtain ⟨w, hw, hb⟩ := hb
      have et : (rE l).take (i + 1) = (rE l).take i ++ [ed w l[i]] := by
        unfold rE
        rw [pe_take hi', ← hw, getD_at hi']
      refine ⟨[some (.par (tz l)), some (.own (((rE l).take i).map pz)), some (.par (.int (i : Int))), some (.par (.int l[i])), o3], by simp, .inl ⟨[some (.par (tz l)), some (.own (((rE l).take (i + 1)).map pz)), some (.par (.int (i : Int))), some (.par (.int l[i])), some (.val (.int w))], ?_, _, _, _, rfl⟩⟩
      refine x_step (ρ' := [some (.par (tz l)), some (.own (((rE l).take i).map pz)), some (.par (.int (i : Int))), some (.par (.int l[i])), some (.val (.int w))]) (by simp [hb]) ?_
      have hz : ((rE l).take i).length < sizeLine := by
        refine lt_line ?_
        rw [List.length_take]
        omega
      refine x_step (ρ' := [some (.par (tz l)), some (.own (((rE l).take (i + 1)).map pz)), some (.par (.int (i : Int))), some (.par (.int l[i])), some (.val (.int w))]) ?_ (x_end rfl)
      rw [et]
      simp only [List.length_take] at hz
      simp [ownAt, hz, bi_min, bi_max, pz, ed]
  · rw [if_neg h]
    exact g_exc (ρ' := [some (.par (tz l)), none, none, none, none]) (by simp [h0 l, h]) rfl
def Sp_isform (cf : CF) (i : Nat) : Prop := ∀ (l : List Int) (s : Int), cf i [tz l, .int s] = .ok (.bl (decide ((l.length : Int) = s) && isF l))
theorem mk_isform (h0 : Sp_isperm cf c0) (u : ∀ a b, cf' i [a, b] = (exs cf sb (B_is_ring_form g0 c0) [some (.par a), some (.par b)]).res) : Sp_isform cf' i := fun l s => by
  rw [u]
  by_cases hs : (l.length : Int) = s
  · by_cases h3 : 3 ≤ l.length
    · have e3 : ¬ s < 3 := by omega
      cases hp : isP l with
      | false => simp [B_is_ring_form, hs, e3, h0 l, hp, isF, isR]
      | true =>
        have c0 := idx_tzD (l := l) (i := 0) (by omega)
        have c1 := idx_tzD (l := l) (i := 1) (by omega)
        have c2 := idx_tzL (l := l) (by omega)
        simp only [Int.natCast_zero, Int.natCast_one] at c0 c1
        simp [B_is_ring_form, hs, e3, h0 l, hp, isF, isR, h3, c0, c1, c2]
        by_cases hq : l.getD 0 0 = 0
        · simp only [List.getD_eq_getElem?_getD] at hq
          simp [hq]
        · simp only [List.getD_eq_getElem?_getD] at hq
          simp [hq]
    · have e3 : s < 3 := by omega
      simp [B_is_ring_form, hs, e3, isF, isR, h3]
  · simp [B_is_ring_form, hs]
/-! ### comprehensions over mapped lists -/
theorem compL_of {α : Type} {f : T → Res (Option T)} (F : α → T) (p : α → Bool) (g : α → T) : ∀ {L : List α}, (∀ a ∈ L, f (F a) = .ok (if p a = true then some (g a) else none)) → compL f (L.map F) = .ok ((L.filter p).map g)
  | [], _ => rfl
  | a :: L, h => by
    simp only [List.map_cons, compL, h a (by simp), bd_ok, compL_of F p g (L := L) fun b hb => h b (by simp [hb])]
    by_cases e : p a = true
    · simp [e, List.filter_cons]
    · simp [e, List.filter_cons]
theorem comp_of {α : Type} {ρ : Env} {tg : Tg} {elt : IE} {sk : Sk} {ses ifs : List IE} (F : α → T) (L : List α) (p : α → Bool) (g : α → T) (hi : (evs cf ses ρ).bd (itemsT sk) = .ok (L.map F))
    (h : ∀ a ∈ L, ∃ ρ', tg.set (F a) (wipeE ρ tg.slots) = some ρ' ∧ evAll cf ifs ρ' = .ok (p a) ∧ (p a = true → ev cf elt ρ' = .ok (g a))) : ev cf (.comp tg elt sk ses ifs) ρ = .ok (.lst ((L.filter p).map g)) := by
  simp only [ev]
  cases e : evs cf ses ρ with
  | stuck => rw [e] at hi; cases hi
  | exc c fs => rw [e] at hi; cases hi
  | ok ts =>
    rw [e] at hi
    simp only [bd_ok] at hi ⊢
    rw [hi]
    simp only [bd_ok]
    rw [compL_of F p g fun a ha => by
      obtain ⟨ρ', h1, h2, h3⟩ := h a ha
      rw [h1]
      simp only [toSet_some, bd_ok, h2]
      by_cases hp : p a = true
      · rw [if_pos hp, if_pos hp, h3 hp]; rfl
      · rw [if_neg hp, if_neg hp]]
    rfl
theorem comp_map {α : Type} {ρ : Env} {tg : Tg} {elt : IE} {sk : Sk} {ses : List IE} (F : α → T) (L : List α) (g : α → T) (hi : (evs cf ses ρ).bd (itemsT sk) = .ok (L.map F))
    (h : ∀ a ∈ L, ∃ ρ', tg.set (F a) (wipeE ρ tg.slots) = some ρ' ∧ ev cf elt ρ' = .ok (g a)) : ev cf (.comp tg elt sk ses []) ρ = .ok (.lst (L.map g)) := by
  have := comp_of (cf := cf) (ρ := ρ) (tg := tg) (elt := elt) (sk := sk) (ses := ses) (ifs := []) F L (fun _ => true) g hi fun a ha => by
    obtain ⟨ρ', h1, h2⟩ := h a ha
    exact ⟨ρ', h1, by simp only [evAll_nil], fun _ => h2⟩
  rw [this, List.filter_eq_self.mpr fun _ _ => rfl]
theorem rng_mapT (n : Nat) : (rng n).map T.int = (List.range n).map fun (k : Nat) => T.int (k : Int) := by
  unfold rng
  rw [List.map_map]
  rfl
theorem it_rngN {n : Nat} (h : n ≤ 16000000) : itemsT .rng1 [.int (n : Int)] = .ok ((List.range n).map fun (k : Nat) => T.int (k : Int)) := by rw [it_rng1 h, rng_mapT]
/-! ### all forms -/
def rowsN (s : Nat) : List (List Int) := (List.range (fN (s - 1))).map fun m => unr s (rng s) m
def formsN (s : Nat) : List (List Int) := (rowsN s).filter fun r => decide (r.getD 1 0 < r.getD (s - 1) 0)
def Sp_ringforms (cf : CF) (i : Nat) : Prop := (∀ s : Nat, 3 ≤ s → s ≤ 6 → cf i [.int (s : Int)] = .ok (.lst ((formsN s).map fun r => tz r))) ∧ ∀ s : Int, s < 3 ∨ 6 < s → cf i [.int s] = .exc "BadPermutation" []
theorem fN_mono {a b : Nat} (h : a ≤ b) : fN a ≤ fN b := by
  induction b with
  | zero => have : a = 0 := by omega
            rw [this]; exact Nat.le_refl _
  | succ b ih =>
    by_cases e : a = b + 1
    · rw [e]; exact Nat.le_refl _
    · refine Nat.le_trans (ih (by omega)) ?_
      show fN b ≤ (b + 1) * fN b
      exact Nat.le_mul_of_pos_left _ (by omega)
theorem mk_ringforms (h0 : Sp_perm cf c0) (u : ∀ a, cf' i [a] = (exs cf sb (B_ring_forms g0 g1 c0) [some (.par a), none, none, none]).res) : Sp_ringforms cf' i := by
  refine ⟨fun s h3 h6 => ?_, fun s h => ?_⟩
  · rw [u]
    have e1 : ¬ (s : Int) < 3 := by omega
    have e2 : ¬ (6 : Int) < s := by omega
    refine g_step (ρ' := [some (.par (.int s)), none, none, none]) (by simp [e1, e2]) ?_
    have es : (s : Int) - 1 = ((s - 1 : Nat) : Int) := by omega
    have hc := comp_map (cf := cf) (ρ := [some (.par (.int (s : Int))), none, none, none]) (tg := .nm .val 2) (elt := .call c0 [(.var .par 0), (.var .val 2)]) (sk := .rng1) (ses := [(.bi .fact [(.bin .Sub (.var .par 0) (.int 1))])]) (fun (k : Nat) => T.int (k : Int)) (List.range (fN (s - 1))) (fun m => tz (unr s (rng s) m))
      (by simp only [evs_cons, evs_nil, ev_bi, ev_bin, ev_var, ev_int, List.getElem?_cons_zero, sl_par, bd_ok, bin_sub, es, bi_factN (show s - 1 ≤ 20 by omega), fN_eq]; exact it_rngN (by have := fN_le (r := s - 1) (by omega); omega))
      (fun m hm => ⟨_, rfl, by
        have := h0.1 s m h6 (Nat.lt_of_lt_of_le (List.mem_range.mp hm) (fN_mono (by omega)))
        simpa using this⟩)
    refine g_step (ρ' := [some (.par (.int s)), some (.val (.lst ((rowsN s).map fun r => tz r))), none, none]) (by simp only [ex_asg, hc, fl_ok]; simp [rowsN, Function.comp_def]) ?_
    have hd := comp_of (cf := cf) (ρ := [some (.par (.int (s : Int))), some (.val (.lst ((rowsN s).map fun r => tz r))), none, none]) (tg := .nm .val 3) (elt := .var .val 3) (sk := .plain) (ses := [.var .val 1]) (ifs := [(.cmp .Lt (.idx (.var .val 3) (.int 1)) (.idx (.var .val 3) (.neg (.int 1))))]) (fun r => tz r) (rowsN s) (fun r => decide (r.getD 1 0 < r.getD (s - 1) 0)) (fun r => tz r) (by simp)
      (fun r hr => by
        have hlen : r.length = s := by
          obtain ⟨m, _, rfl⟩ := List.mem_map.mp hr
          exact unr_len s _ m
        have k1 := idx_tzD (l := r) (i := 1) (by omega)
        have k2 := idx_tzL (l := r) (by omega)
        simp only [Int.natCast_one] at k1
        rw [hlen] at k2
        refine ⟨_, rfl, ?_, fun _ => by simp⟩
        simp only [evAll_cons, evAll_nil, ev_cmp, ev_idx, ev_var, ev_int, ev_neg, List.set_cons_zero, List.set_cons_succ, wipe_cons, wipe_nil, slots_nm, List.getElem?_cons_zero, List.getElem?_cons_succ, sl_val, bd_ok, neg_int, k1, k2, cmp_lt, truthR_bl]
        cases decide (r.getD 1 0 < r.getD (s - 1) 0) <;> rfl)
    exact g_ret (t := .lst ((formsN s).map fun r => tz r)) (by simp only [ex_ret, hd, fl_ok, formsN]) rfl
  · rw [u]
    refine g_exc (ρ' := [some (.par (.int s)), none, none, none]) ?_ rfl
    by_cases h1 : s < 3
    · simp [h1]
    · have h2 : 6 < s := by omega
      simp [h1, h2]

/-! ### the laws' helpers -/
def Sp_cell (cf : CF) (i : Nat) : Prop := ∀ (ns : List Int) (k : Nat), k ≤ 1000 → ∃ c : Int, cf i [.scr (ns.map .int), .int (k : Int)] = .ok (.int c)
theorem mk_cell (u : ∀ a b, cf' i [a, b] = (exs cf sb B_law_cell [some (.par a), some (.par b)]).res) : Sp_cell cf' i := fun ns k hk => by
  rw [u]
  by_cases h : k < ns.length
  · exact ⟨ns[k], by simp [B_law_cell, h, idx_scr, at_nat (xs := ns.map T.int) (i := k) (by simpa using h)]⟩
  · have m2 : mulOk 977 (k : Int) := mul_small' (by omega)
    by_cases h0 : 0 < ns.length
    · have m1 : mulOk ns[0] (2 * (k : Int) + 3) := mul_small (by omega)
      have m3 : mulOk 2 (k : Int) := mul_small' (by omega)
      have e0 : L2.atI (ns.map T.int) 0 = some (T.int ns[0]) := by
        have := at_nat (xs := ns.map T.int) (i := 0) (by simpa using h0)
        simpa using this
      exact ⟨ns[0] * (2 * k + 3) + 977 * k, by simp [B_law_cell, h, h0, idx_scr, e0, m1, m2, m3]⟩
    · exact ⟨977 * k, by simp [B_law_cell, h, h0, m2]⟩
theorem mk_cell2 (u : ∀ a b, cf' i [a, b] = (exs cf sb B_law_cell_2 [some (.par a), some (.par b)]).res) : Sp_cell cf' i := fun ns k hk => by
  rw [u]
  by_cases h : k < ns.length
  · exact ⟨ns[k], by simp [B_law_cell_2, h, idx_scr, at_nat (xs := ns.map T.int) (i := k) (by simpa using h)]⟩
  · exact ⟨0, by simp [B_law_cell_2, h]⟩
def Sp_numbers (cf : CF) (i : Nat) : Prop := ∀ (c : Int) (m : Nat), m ≤ 10000 → ∃ l : List Int, l.length = m ∧ (∀ x ∈ l, 0 ≤ x ∧ x < 5040) ∧ cf i [.int c, .int (m : Int)] = .ok (lz l)
theorem numbers_loop {c n x : Int} {m : Nat} (hm : m ≤ 10000) (hx : 0 ≤ x ∧ x < 4294967296) : ∃ l : List Int, l.length = m ∧ (∀ x ∈ l, 0 ≤ x ∧ x < 5040) ∧
    (exs cf sb (B_law_numbers.drop 2) [some (.par (.int c)), some (.par (.int (m : Int))), some (.val (.int n)), some (.val (.int x)), none, none]).res = .ok (lz l) := by
  obtain ⟨ρ2, e2, n2, x2, l, o, rfl, hlen, hall, hx2⟩ := f_run (cf := cf) (sb := sb) (ρ := [some (.par (.int c)), some (.par (.int (m : Int))), some (.val (.int n)), some (.val (.int x)), some (.own (([] : List Int).map .int)), none]) (tg := .nm .val 5) (sk := .rng1) (ses := [(.var .par 1)])
    (body := [.ite (.cmp .GtE (.var .val 2) (.int 5040)) [.app 4 (.bin .Mod (.bi .toInt [(.var .val 2)]) (.int 5040)), .asg 2 (.bin .FloorDiv (.var .val 2) (.int 5040))] [.asg 3 (.bin .Mod (.bi .toInt [(.bin .Add (.bin .Mult (.var .val 3) (.int 48271)) (.bin .Mult (.int 69621) (.bin .Add (.var .val 5) (.int 1))))]) (.int 2147483647)), .app 4 (.bin .Mod (.bin .FloorDiv (.bin .Mod (.bi .toInt [(.bin .Add (.bin .FloorDiv (.bin .Mult (.var .val 3) (.var .val 3)) (.int 7)) (.bin .Mult (.int 3) (.var .val 3)))]) (.int 2147483629)) (.int 11)) (.int 5040))]])
    (xs := (rng m).map .int) (by simp [it_rng1 (show m ≤ 16000000 by omega)]) (fun i ρ => ∃ (n2 x2 : Int) (l : List Int) (o : Option Sl), ρ = [some (.par (.int c)), some (.par (.int (m : Int))), some (.val (.int n2)), some (.val (.int x2)), some (.own (l.map .int)), o] ∧ l.length = i ∧ (∀ x ∈ l, 0 ≤ x ∧ x < 5040) ∧ (0 ≤ x2 ∧ x2 < 4294967296)) ⟨n, x, [], none, rfl, rfl, by simp, hx⟩ (by
      rintro i ρ hi ⟨n2, x2, l, o, rfl, hlen, hall, hx2⟩
      have hi' : i < m := by simpa [length_rng] using hi
      rw [rng_at]
      have hz : l.length < sizeLine := lt_line (by omega)
      have fin : ∀ y : Int, ∀ z ∈ l ++ [Int.fmod y 5040], 0 ≤ z ∧ z < 5040 := fun y z hz => by
        rcases List.mem_append.mp hz with h | h
        · exact hall z h
        · rw [List.mem_singleton.mp h]
          exact ⟨Int.fmod_nonneg_of_pos _ (by decide), Int.fmod_lt_of_pos _ (by decide)⟩
      by_cases hn : 5040 ≤ n2
      · refine ⟨_, rfl, [some (.par (.int c)), some (.par (.int (m : Int))), some (.val (.int (Int.fdiv n2 5040))), some (.val (.int x2)), some (.own ((l ++ [Int.fmod n2 5040]).map .int)), some (.val (.int (i : Int)))], ?_, _, _, _, _, rfl, by simp [hlen], fin n2, hx2⟩
        simp [hn, ownAt, hz]
      · have m1 : mulOk x2 48271 := mul_small (by omega)
        have m2 : mulOk 69621 ((i : Int) + 1) := mul_small' (by omega)
        generalize hy : Int.fmod (x2 * 48271 + 69621 * ((i : Int) + 1)) 2147483647 = y
        have hy1 : 0 ≤ y ∧ y < 2147483647 := by rw [← hy]; exact ⟨Int.fmod_nonneg_of_pos _ (by decide), Int.fmod_lt_of_pos _ (by decide)⟩
        have m3 : mulOk y y := .inl (by omega)
        have m4 : mulOk 3 y := mul_small' (by omega)
        refine ⟨_, rfl, [some (.par (.int c)), some (.par (.int (m : Int))), some (.val (.int n2)), some (.val (.int y)), some (.own ((l ++ [Int.fmod (Int.fdiv (Int.fmod (Int.fdiv (y * y) 7 + 3 * y) 2147483629) 11) 5040]).map .int)), some (.val (.int (i : Int)))], ?_, _, _, _, _, rfl, by simp [hlen], fin _, by omega⟩
        simp [hn, ownAt, hz, m1, m2, hy, m3, m4])
  refine ⟨l, by simpa [length_rng] using hlen, hall, ?_⟩
  show (exs cf sb [.asgO 4 (.lst []), _, .retO 4] _).res = _
  refine g_step (ρ' := [some (.par (.int c)), some (.par (.int (m : Int))), some (.val (.int n)), some (.val (.int x)), some (.own (([] : List Int).map .int)), none]) (by simp) ?_
  exact g_step e2 (g_ret (t := lz l) (by simp) rfl)
theorem mk_numbers (u : ∀ a b, cf' i [a, b] = (exs cf sb B_law_numbers [some (.par a), some (.par b), none, none, none, none]).res) : Sp_numbers cf' i := fun c m hm => by
  have hx := numbers_loop (cf := cf) (sb := sb) (c := c) (n := if c < 0 then -c else c) (x := Int.fmod (if c < 0 then -c else c) 2147483629 + 1) hm (by
    have h1 := Int.fmod_nonneg_of_pos (if c < 0 then -c else c) (show (0 : Int) < 2147483629 by decide)
    have h2 := Int.fmod_lt_of_pos (if c < 0 then -c else c) (show (0 : Int) < 2147483629 by decide)
    omega)
  obtain ⟨l, h1, h2, h3⟩ := hx
  refine ⟨l, h1, h2, ?_⟩
  rw [u, ← h3]
  refine g_step (ρ' := [some (.par (.int c)), some (.par (.int (m : Int))), some (.val (.int (if c < 0 then -c else c))), none, none, none]) (by simp) ?_
  exact g_step (ρ' := [some (.par (.int c)), some (.par (.int (m : Int))), some (.val (.int (if c < 0 then -c else c))), some (.val (.int (Int.fmod (if c < 0 then -c else c) 2147483629 + 1))), none, none]) (by simp) rfl
def Sp_fact (cf : CF) (i : Nat) : Prop := ∀ s : Nat, s ≤ 20 → cf i [.int (s : Int)] = .ok (.int (fN s : Int))
theorem mk_fact (u : ∀ a, cf' i [a] = (exs cf sb B_law_factorial [some (.par a), none, none]).res) : Sp_fact cf' i := fun s hs => by
  rw [u]
  refine g_step (ρ' := [some (.par (.int s)), some (.val (.int 1)), none]) (by simp) ?_
  refine g_for (xs := (rng s).map .int) (by simp [it_rng1 (show s ≤ 16000000 by omega)]) (fun i ρ => ∃ o, ρ = [some (.par (.int s)), some (.val (.int (factN i))), o]) ⟨_, rfl⟩ ?_ ?_
  · rintro ρ ⟨o, rfl⟩
    simp [length_rng, fN_eq]
  · rintro i ρ hi ⟨o, rfl⟩
    have hi' : i < s := by simpa [length_rng] using hi
    rw [rng_at]
    refine ⟨_, rfl, .inl ⟨[some (.par (.int s)), some (.val (.int (factN (i + 1)))), some (.val (.int i))], ?_, _, rfl⟩⟩
    simp [mul_small (i := factN i) (j := (i : Int) + 1) (by omega), factN, Int.mul_comm]
def Sp_lperm (cf : CF) (i : Nat) : Prop := ∀ s m : Nat, s ≤ 7 → m < fN s → cf i [.int (s : Int), .int (m : Int)] = .ok (lz (unr s (rng s) m))
theorem mk_lperm (h0 : Sp_fact cf c0) (u : ∀ a b, cf' i [a, b] = (exs cf sb (B_law_permutation c0) [some (.par a), some (.par b), none, none, none, none]).res) : Sp_lperm cf' i := fun s m hs hm => by
  rw [u]
  have hc := comp_map (cf := cf) (ρ := [some (.par (.int (s : Int))), some (.par (.int (m : Int))), none, none, none, none]) (tg := .nm .val 4) (elt := .var .val 4) (sk := .rng1) (ses := [.var .par 0]) (fun (k : Nat) => T.int (k : Int)) (List.range s) (fun (k : Nat) => T.int (k : Int)) (by simp [it_rngN (show s ≤ 16000000 by omega)]) (fun k hk => ⟨_, rfl, by simp⟩)
  rw [← rng_mapT] at hc
  refine g_step (ρ' := [some (.par (.int s)), some (.par (.int m)), some (.own ((rng s).map .int)), none, none, none]) (by simp only [ex_asgO, hc, fl_ok]; rfl) ?_
  refine g_step (ρ' := [some (.par (.int s)), some (.par (.int m)), some (.own ((rng s).map .int)), some (.own (([] : List Int).map .int)), none, none]) (by simp) ?_
  refine g_for (xs := (rng s).map .int) (by simp [it_rng1 (show s ≤ 16000000 by omega)])
    (fun i ρ => ∃ (left row : List Int) (q : Nat) (o o2 : Option Sl), ρ = [some (.par (.int s)), some (.par (.int (q : Int))), some (.own (left.map .int)), some (.own (row.map .int)), o, o2] ∧ left.length = s - i ∧ row.length = i ∧ q < fN (s - i) ∧ row ++ unr (s - i) left q = unr s (rng s) m)
    ⟨rng s, [], m, _, _, rfl, by simp [length_rng], rfl, hm, rfl⟩ ?_ ?_
  · rintro ρ ⟨left, row, q, o, o2, rfl, h1, h2, h3, h4⟩
    simp only [List.length_map, length_rng, Nat.sub_self] at h4
    simp [unr] at h4
    simp [h4]
  · rintro i ρ hi ⟨left, row, q, o, o2, rfl, h1, h2, h3, h4⟩
    have hi' : i < s := by simpa [length_rng] using hi
    rw [rng_at]
    obtain ⟨r, hr⟩ : ∃ r, s - i = r + 1 := ⟨s - i - 1, by omega⟩
    rw [hr] at h1 h3 h4
    have er : ((s : Int) - 1 - (i : Int)) = (r : Int) := by omega
    have hp := fN_pos r
    have hq : q / fN r < r + 1 := Nat.div_lt_of_lt_mul (by rw [Nat.mul_comm]; exact h3)
    have hsm : fN r < 100000 := fN_le (by omega)
    have hl : q / fN r < left.length := by omega
    refine ⟨_, rfl, .inl ⟨[some (.par (.int s)), some (.par (.int ((q % fN r : Nat) : Int))), some (.own ((left.eraseIdx (q / fN r)).map .int)), some (.own ((row ++ [left.getD (q / fN r) 0]).map .int)), some (.val (.int (i : Int))), some (.val (.int (fN r : Int)))], ?_,
      left.eraseIdx (q / fN r), row ++ [left.getD (q / fN r) 0], q % fN r, _, _, rfl, ?_, by simp [h2], ?_, ?_⟩⟩
    · refine x_step (ρ' := [some (.par (.int s)), some (.par (.int (q : Int))), some (.own (left.map .int)), some (.own (row.map .int)), some (.val (.int (i : Int))), some (.val (.int (fN r : Int)))]) (by simp [er, h0 r (by omega)]) ?_
      refine x_step (ρ' := [some (.par (.int s)), some (.par (.int (q : Int))), some (.own ((left.eraseIdx (q / fN r)).map .int)), some (.own ((row ++ [left.getD (q / fN r) 0]).map .int)), some (.val (.int (i : Int))), some (.val (.int (fN r : Int)))]) ?_ (x_step (ρ' := [some (.par (.int s)), some (.par (.int ((q % fN r : Nat) : Int))), some (.own ((left.eraseIdx (q / fN r)).map .int)), some (.own ((row ++ [left.getD (q / fN r) 0]).map .int)), some (.val (.int (i : Int))), some (.val (.int (fN r : Int)))]) ?_ (x_end rfl))
      · have hz : row.length < sizeLine := lt_line (by omega)
        have hdv : binT .FloorDiv (.int (q : Int)) (.int (fN r : Int)) = .ok (.int ((q / fN r : Nat) : Int)) := by
          rw [bin_div, div_nat, if_pos ⟨by omega, by omega⟩]
        have hpop := pop_nat hl (le_line (by omega))
        simp only [ex_appPop, ev_bin, ev_var, evs_cons, evs_nil, List.getElem?_cons_zero, List.getElem?_cons_succ, List.set_cons_zero, List.set_cons_succ, sl_par, sl_val, bd_ok, hdv, hpop, own_get, ownAt, fl_ok, List.length_map, hz, if_true]
        simp
      · have hne : (fN r : Int) ≠ 0 := by omega
        have hmd : binT .Mod (.int (q : Int)) (.int (fN r : Int)) = .ok (.int ((q % fN r : Nat) : Int)) := by rw [bin_mod, mod_nat, if_pos hne]
        simp only [ex_asgP, ev_bin, ev_bi, bi_int, evs_cons, evs_nil, ev_var, List.getElem?_cons_zero, List.getElem?_cons_succ, sl_par, sl_val, bd_ok, fl_ok, hmd]
        rfl
    · rw [List.length_eraseIdx]
      rw [if_pos hl]
      omega
    · have : s - (i + 1) = r := by omega
      rw [this]; exact Nat.mod_lt _ hp
    · have : s - (i + 1) = r := by omega
      rw [this, ← h4]
      simp [unr]
def Sp_edge (cf : CF) (i : Nat) : Prop := ∀ a b : Int, cf i [.int a, .int b] = .ok (pz (ed a b))
theorem mk_edge (u : ∀ a b, cf' i [a, b] = (exs cf sb B_law_edge [some (.par a), some (.par b)]).res) : Sp_edge cf' i := fun a b => by
  rw [u]
  simp [B_law_edge, bi_min, bi_max, pz, ed]
/-! equal by kind and value -/
mutual
def dep : T → Nat
  | .tup xs => depL xs + 1
  | .lst xs => depL xs + 1
  | _ => 0
def depL : List T → Nat
  | [] => 0
  | x :: xs => max (dep x) (depL xs)
end
mutual
/-- plain data, rows of at most 100000 items -/
def plainD : T → Bool
  | .int _ => true | .bl _ => true | .str _ => true | .non => true
  | .tup xs => decide (xs.length ≤ 100000) && plainL xs
  | .lst xs => decide (xs.length ≤ 100000) && plainL xs
  | _ => false
def plainL : List T → Bool
  | [] => true
  | x :: xs => plainD x && plainL xs
end
theorem depL_mem : ∀ {xs : List T} {x : T}, x ∈ xs → dep x ≤ depL xs
  | y :: xs, x, h => by
    simp only [depL]
    rcases List.mem_cons.mp h with e | h
    · rw [e]; exact Nat.le_max_left _ _
    · exact Nat.le_trans (depL_mem h) (Nat.le_max_right _ _)
theorem plainL_mem : ∀ {xs : List T} {x : T}, plainL xs = true → x ∈ xs → plainD x = true
  | y :: xs, x, hp, h => by
    simp only [plainL, Bool.and_eq_true] at hp
    rcases List.mem_cons.mp h with e | h
    · rw [e]; exact hp.1
    · exact plainL_mem hp.2 h
/-- up to depth d -/
def Sp_same (d : Nat) (cf : CF) (i : Nat) : Prop := ∀ t, plainD t = true → dep t ≤ d → cf i [t, t] = .ok (.bl true)
theorem same_rows {t : T} {xs : List T} (ht : t = .tup xs ∨ t = .lst xs) (hp : plainD t = true) (hc : ∀ x ∈ xs, cf c0 [x, x] = .ok (.bl true)) : (exs cf sb (B_law_same c0) [some (.par t), some (.par t), none]).res = .ok (.bl true) := by
  have hl : xs.length ≤ 100000 := by rcases ht with rfl | rfl <;> (simp only [plainD, Bool.and_eq_true, decide_eq_true_eq] at hp; exact hp.1)
  have len : biT .len [t] = .ok (.int (xs.length : Nat)) := by rcases ht with rfl | rfl <;> rfl
  have ix : ∀ k (h : k < xs.length), idxT t (.int (k : Int)) = .ok xs[k] := fun k h => by
    rcases ht with rfl | rfl
    · rw [idx_tup, at_nat h]
    · rw [idx_lst, at_nat h]
  refine g_ite (k := true) (by rcases ht with rfl | rfl <;> simp) (fun _ => ?_) (fun z => by cases z)
  refine g_step (ρ' := [some (.par t), some (.par t), none]) (by rcases ht with rfl | rfl <;> simp) ?_
  refine g_step (ρ' := [some (.par t), some (.par t), none]) (by simp [len]) ?_
  refine g_for (xs := (rng xs.length).map .int) (by simp [len, it_rng1 (show xs.length ≤ 16000000 by omega)]) (fun i ρ => ∃ o, ρ = [some (.par t), some (.par t), o]) ⟨_, rfl⟩ ?_ ?_
  · rintro ρ ⟨o, rfl⟩
    exact g_ret (t := .bl true) (by simp) rfl
  · rintro i ρ hi ⟨o, rfl⟩
    have hi' : i < xs.length := by simpa [length_rng] using hi
    rw [rng_at]
    refine ⟨_, rfl, .inl ⟨[some (.par t), some (.par t), some (.val (.int (i : Int)))], ?_, _, rfl⟩⟩
    simp [ix i hi', hc xs[i] (List.getElem_mem hi')]
theorem mk_same (d : Nat) (h0 : ∀ t d', d = d' + 1 → plainD t = true → dep t ≤ d' → cf c0 [t, t] = .ok (.bl true)) (u : ∀ a b, cf' i [a, b] = (exs cf sb (B_law_same c0) [some (.par a), some (.par b), none]).res) : Sp_same d cf' i := fun t hp hd => by
  rw [u]
  have low : ∀ xs : List T, plainL xs = true → depL xs + 1 ≤ d → ∀ x ∈ xs, cf c0 [x, x] = .ok (.bl true) := fun xs h1 h2 x hx =>
    h0 x (d - 1) (by omega) (plainL_mem h1 hx) (by have := depL_mem hx; omega)
  cases t with
  | non => simp [B_law_same, isiT, tyName, cmpT, isNone]
  | bl b => simp [B_law_same, isiT, tyName, cmpT, isNone, eqT]
  | int b => simp [B_law_same, isiT, tyName, cmpT, isNone, eqT]
  | str b => simp [B_law_same, isiT, tyName, cmpT, isNone, eqT]
  | tup xs =>
    have h1 := hp
    simp only [plainD, Bool.and_eq_true] at h1
    exact same_rows (.inl rfl) hp (low xs h1.2 (by simpa [dep] using hd))
  | lst xs =>
    have h1 := hp
    simp only [plainD, Bool.and_eq_true] at h1
    exact same_rows (.inr rfl) hp (low xs h1.2 (by simpa [dep] using hd))
  | scr xs => simp [plainD] at hp
  | pair xs => simp [plainD] at hp
end
end BV

namespace BV
open PySem
section
variable {cf cf' : CF} {i c0 c1 : Nat} {sb : Str → Str → Option Bool} {g0 g1 : Str}
theorem rot_get {l : List Int} {p : Nat} (hp : p < l.length) : (List.range l.length).map (fun k => l.getD ((p + k) % l.length) 0) = rot l p := by
  show _ = l.drop p ++ l.take p
  apply List.ext_getElem
  · simp; omega
  · intro k h1 h2
    have hk : k < l.length := by simpa using h1
    rw [List.getElem_map, List.getElem_range]
    by_cases hc : k < (l.drop p).length
    · rw [List.getElem_append_left hc, List.getElem_drop]
      rw [List.length_drop] at hc
      rw [Nat.mod_eq_of_lt (by omega), getD_at (by omega)]
    · rw [List.getElem_append_right (by omega), List.getElem_take]
      rw [List.length_drop] at hc
      have e : (p + k) % l.length = p + k - l.length := by
        rw [Nat.mod_eq_sub_mod (by omega), Nat.mod_eq_of_lt (by omega)]
      rw [e, getD_at (by omega)]
      congr 1
      rw [List.length_drop]
      omega
theorem back_get {c : List Int} {x : Int} : (List.range (c.length + 1)).map (fun k => (x :: c).getD ((c.length + 1 - k) % (c.length + 1)) 0) = x :: c.reverse := by
  apply List.ext_getElem
  · simp
  · intro k h1 h2
    have hk : k < c.length + 1 := by simpa using h1
    rw [List.getElem_map, List.getElem_range]
    cases k with
    | zero => simp
    | succ k =>
      rw [Nat.mod_eq_of_lt (by omega)]
      have e : c.length + 1 - (k + 1) = (c.length - 1 - k) + 1 := by omega
      rw [e]
      simp only [List.getD_cons_succ, List.getElem_cons_succ]
      rw [getD_at (by omega), List.getElem_reverse]
def Sp_lform (cf : CF) (i : Nat) : Prop := ∀ l : List Int, isR l = true → cf i [tz l] = .ok (tz (ringF l))
theorem mod_natZ {a b : Nat} : binT .Mod (.int (a : Int)) (.int (b : Int)) = if (b : Int) ≠ 0 then .ok (.int ((a % b : Nat) : Int)) else .stuck := by rw [bin_mod, mod_nat]
theorem mk_lform (u : ∀ a, cf' i [a] = (exs cf sb B_law_form [some (.par a), none, none, none, none]).res) : Sp_lform cf' i := fun l h => by
  rw [u]
  have hl := isR_len h
  obtain ⟨c, hc, hcl⟩ := rot_at0 h
  have hat : at0 l < l.length := List.findIdx_lt_length_of_exists ⟨0, isR_zero h, by simp⟩
  have hz : ∀ n, n ≤ 20 → n ≤ 16000000 := fun n hn => by omega
  have k1 := comp_map (cf := cf) (ρ := [some (.par (tz l)), none, none, none, none]) (tg := .nm .par 4) (elt := .chk (.var .par 4)) (sk := .plain) (ses := [.var .par 0]) T.int l T.int (by simp) (fun x hx => ⟨_, rfl, by simp⟩)
  refine g_step (ρ' := [some (.par (tz l)), some (.val (.int (at0 l : Int))), none, none, none]) (by simp only [ex_asg, ev_meth, k1, bd_ok, rv_lst, if_true, evs_cons, evs_nil, ev_int, ix_lst0 (isR_zero h), fl_ok]; rfl) ?_
  have hne : ((l.length : Nat) : Int) ≠ 0 := by omega
  have k2 := comp_map (cf := cf) (ρ := [some (.par (tz l)), some (.val (.int (at0 l : Int))), none, none, none]) (tg := .nm .val 3) (elt := .chk (.idx (.var .par 0) (.bin .Mod (.bi .toInt [(.bin .Add (.var .val 1) (.var .val 3))]) (.bi .len [(.var .par 0)])))) (sk := .rng1) (ses := [.bi .len [.var .par 0]])
    (fun (k : Nat) => T.int (k : Int)) (List.range l.length) (fun k => T.int (l.getD ((at0 l + k) % l.length) 0)) (by simp [it_rngN (hz l.length (by omega))]) (fun k hk => ⟨_, rfl, by
      have e : (at0 l : Int) + (k : Int) = ((at0 l + k : Nat) : Int) := by omega
      have hm : (at0 l + k) % l.length < l.length := Nat.mod_lt _ (by omega)
      simp only [ev_chk, ev_idx, ev_bin, ev_bi, evs_cons, evs_nil, ev_var, List.set_cons_zero, List.set_cons_succ, wipe_cons, wipe_nil, slots_nm, List.getElem?_cons_zero, List.getElem?_cons_succ, sl_val, sl_par, bd_ok, bin_add, e, bi_int, bi_len_tup, List.length_map, mod_natZ, if_pos hne, idx_tzD hm, flat_int, if_true]⟩)
  have e2 : (List.range l.length).map (fun k => T.int (l.getD ((at0 l + k) % l.length) 0)) = (0 :: c).map T.int := by
    rw [← hc, ← rot_get hat, List.map_map]
    rfl
  rw [e2] at k2
  refine g_step (ρ' := [some (.par (tz l)), some (.val (.int (at0 l : Int))), some (.val (lz (0 :: c))), none, none]) (by simp only [ex_asg, k2, fl_ok]; rfl) ?_
  have c1 : idxT (lz (0 :: c)) (.int 1) = .ok (.int (c.getD 0 0)) := by
    have := idx_lzD (l := 0 :: c) (i := 1) (by simp; omega)
    simpa using this
  have c2 : idxT (lz (0 :: c)) (.int ((((0 :: c).map T.int).length : Int) - 1)) = .ok (.int (c.getD (c.length - 1) 0)) := by
    have e : (((0 :: c).map T.int).length : Int) - 1 = ((c.length : Nat) : Int) := by simp
    rw [e, idx_lzD (by simp)]
    obtain ⟨m, hm⟩ : ∃ m, c.length = m + 1 := ⟨c.length - 1, by omega⟩
    simp [hm]
  have eF : ringF l = ringC c := by
    unfold ringF
    rw [hc]
    rfl
  rw [eF]
  unfold ringC
  by_cases hcm : c.getD 0 0 > c.getD (c.length - 1) 0
  · rw [if_pos hcm]
    refine g_ite (k := true) (by simp only [ev_cmp, ev_idx, ev_bin, ev_bi, evs_cons, evs_nil, ev_var, ev_int, List.getElem?_cons_zero, List.getElem?_cons_succ, sl_val, bd_ok, bi_len_lst, bin_sub, c1, c2, cmp_gt, truthR_bl]; simpa using hcm) (fun _ => ?_) (fun z => by cases z)
    have hL : (((0 :: c).map T.int).length : Int) = ((l.length : Nat) : Int) := by simp; omega
    have k3 := comp_map (cf := cf) (ρ := [some (.par (tz l)), some (.val (.int (at0 l : Int))), some (.val (lz (0 :: c))), none, none]) (tg := .nm .val 3) (elt := (.idx (.var .val 2) (.bin .Mod (.bi .toInt [(.bin .Sub (.bi .len [(.var .val 2)]) (.var .val 3))]) (.bi .len [(.var .val 2)])))) (sk := .rng1) (ses := [.bi .len [.var .val 2]])
      (fun (k : Nat) => T.int (k : Int)) (List.range l.length) (fun k => T.int ((0 :: c).getD ((l.length - k) % l.length) 0)) (by
        simp only [evs_cons, evs_nil, ev_bi, ev_var, List.getElem?_cons_zero, List.getElem?_cons_succ, sl_val, bd_ok, bi_len_lst, hL]
        exact it_rngN (hz l.length (by omega))) (fun k hk => ⟨_, rfl, by
        have hk' := List.mem_range.mp hk
        have e : ((l.length : Nat) : Int) - (k : Int) = ((l.length - k : Nat) : Int) := by omega
        have hm : (l.length - k) % l.length < (0 :: c).length := by rw [List.length_cons, hcl]; exact Nat.mod_lt _ (by omega)
        simp only [ev_idx, ev_bin, ev_bi, evs_cons, evs_nil, ev_var, List.set_cons_zero, List.set_cons_succ, wipe_cons, wipe_nil, slots_nm, List.getElem?_cons_zero, List.getElem?_cons_succ, sl_val, bd_ok, bi_len_lst, bin_sub, hL, e, bi_int, mod_natZ, if_pos hne, idx_lzD hm]⟩)
    have e3 : (List.range l.length).map (fun k => T.int ((0 :: c).getD ((l.length - k) % l.length) 0)) = (0 :: c.reverse).map T.int := by
      rw [← back_get, hcl, List.map_map]
      rfl
    rw [e3] at k3
    refine g_step (ρ' := [some (.par (tz l)), some (.val (.int (at0 l : Int))), some (.val (lz (0 :: c.reverse))), none, none]) (by simp only [ex_asg, k3, fl_ok]; rfl) ?_
    exact g_ret (t := tz (0 :: c.reverse)) (by simp) rfl
  · rw [if_neg hcm]
    refine g_ite (k := false) (by simp only [ev_cmp, ev_idx, ev_bin, ev_bi, evs_cons, evs_nil, ev_var, ev_int, List.getElem?_cons_zero, List.getElem?_cons_succ, sl_val, bd_ok, bi_len_lst, bin_sub, c1, c2, cmp_gt, truthR_bl]; simpa using hcm) (fun z => by cases z) (fun _ => ?_)
    exact g_ret (t := tz (0 :: c)) (by simp) rfl
/-! rows as plain data -/
theorem plainL_map {α : Type} (f : α → T) (l : List α) (h : ∀ x ∈ l, plainD (f x) = true) : plainL (l.map f) = true := by
  induction l with
  | nil => simp [plainL]
  | cons a l ih => simp only [List.map_cons, plainL, Bool.and_eq_true]; exact ⟨h a (by simp), ih fun x hx => h x (by simp [hx])⟩
theorem depL_map {α : Type} (f : α → T) (d : Nat) (l : List α) (h : ∀ x ∈ l, dep (f x) ≤ d) : depL (l.map f) ≤ d := by
  induction l with
  | nil => simp [depL]
  | cons a l ih => simp only [List.map_cons, depL]; exact Nat.max_le.mpr ⟨h a (by simp), ih fun x hx => h x (by simp [hx])⟩
theorem plain_tup {α : Type} (f : α → T) (l : List α) (hl : l.length ≤ 100000) (h : ∀ x ∈ l, plainD (f x) = true) : plainD (.tup (l.map f)) = true := by
  simp only [plainD, Bool.and_eq_true, decide_eq_true_eq, List.length_map]; exact ⟨hl, plainL_map f l h⟩
theorem plain_lst {α : Type} (f : α → T) (l : List α) (hl : l.length ≤ 100000) (h : ∀ x ∈ l, plainD (f x) = true) : plainD (.lst (l.map f)) = true := by
  simp only [plainD, Bool.and_eq_true, decide_eq_true_eq, List.length_map]; exact ⟨hl, plainL_map f l h⟩
theorem dep_tup {α : Type} (f : α → T) (d : Nat) (l : List α) (h : ∀ x ∈ l, dep (f x) ≤ d) : dep (.tup (l.map f)) ≤ d + 1 := by
  simp only [dep]; have := depL_map f d l h; omega
theorem dep_lst {α : Type} (f : α → T) (d : Nat) (l : List α) (h : ∀ x ∈ l, dep (f x) ≤ d) : dep (.lst (l.map f)) ≤ d + 1 := by
  simp only [dep]; have := depL_map f d l h; omega
theorem plain_int (x : Int) : plainD (.int x) = true := by simp [plainD]
theorem dep_int (x : Int) : dep (.int x) ≤ 0 := by simp [dep]
theorem plain_tz {l : List Int} (hl : l.length ≤ 100000) : plainD (tz l) = true := plain_tup _ l hl fun x _ => plain_int x
theorem dep_tz (l : List Int) : dep (tz l) ≤ 1 := dep_tup _ 0 l fun x _ => dep_int x
theorem plain_pz (e : Pr2) : plainD (pz e) = true := by simp [pz, plainD, plainL]
theorem dep_pz (e : Pr2) : dep (pz e) ≤ 1 := by simp [pz, dep, depL]
/-- the edges of a row, place by place -/
theorem rE_range (F : List Int) : (List.range F.length).map (fun k => ed (if k = 0 then lastD 0 F else F.getD (k - 1) 0) (F.getD k 0)) = rE F := by
  apply List.ext_getElem?
  intro k
  by_cases hk : k < F.length
  · rw [List.getElem?_map, List.getElem?_range hk]
    unfold rE
    rw [(pe_at _ F k hk).2]
    rfl
  · rw [List.getElem?_eq_none (by simp; omega), List.getElem?_eq_none (by unfold rE; rw [pe_len]; omega)]
end
end BV

/-! Graphs as rows of pairs; relabelling: plain Lean. -/
namespace BV
open PySem
def okE (n : Int) (e : Pr2) : Bool := decide (0 ≤ e.1 ∧ e.1 < n ∧ 0 ≤ e.2 ∧ e.2 < n ∧ e.1 ≠ e.2)
def edE (e : Pr2) : Pr2 := ed e.1 e.2
def mkG (n : Int) : List Pr2 → List Pr2 → Option (List Pr2)
  | [], f => some f
  | e :: es, f => if okE n e = true then (if f.contains (edE e) = true then none else mkG n es (f ++ [edE e])) else none
theorem mkG_ok {n : Int} : ∀ {es f : List Pr2}, (∀ e ∈ es, okE n e = true) → (f ++ es.map edE).Nodup → mkG n es f = some (f ++ es.map edE)
  | [], f, _, _ => by simp [mkG]
  | e :: es, f, h, hn => by
    have h1 := h e (by simp)
    have hn' : ((f ++ [edE e]) ++ es.map edE).Nodup := by simpa using hn
    have hc : f.contains (edE e) = false := by
      rw [← Bool.not_eq_true, List.contains_iff_mem]
      intro hm
      rw [List.nodup_append] at hn
      exact hn.2.2 _ hm _ (by simp) rfl
    simp only [mkG, h1, if_true, hc, Bool.false_eq_true, if_false]
    rw [mkG_ok (fun e' he => h e' (by simp [he])) hn']
    simp
theorem mkG_inv {n : Int} : ∀ {es f g : List Pr2}, f.Nodup → mkG n es f = some g → g = f ++ es.map edE ∧ (∀ e ∈ es, okE n e = true) ∧ g.Nodup
  | [], f, g, hf, h => by
    simp only [mkG, Option.some.injEq] at h
    subst h
    exact ⟨by simp, by simp, hf⟩
  | e :: es, f, g, hf, h => by
    simp only [mkG] at h
    split at h
    · rename_i h1
      split at h
      · cases h
      · rename_i h2
        have hn : (f ++ [edE e]).Nodup := by
          rw [List.nodup_append]
          refine ⟨hf, by simp, fun a ha b hb => ?_⟩
          rw [List.mem_singleton.mp hb]
          intro z
          rw [z] at ha
          exact h2 (List.contains_iff_mem.mpr ha)
        obtain ⟨k1, k2, k3⟩ := mkG_inv hn h
        refine ⟨by rw [k1]; simp, fun e' he => ?_, k3⟩
        rcases List.mem_cons.mp he with z | z
        · rw [z]; exact h1
        · exact k2 e' z
    · cases h
/-- the edges of a graph as the program keeps them -/
structure IsG (n : Int) (es : List Pr2) : Prop where
  ok : ∀ e ∈ es, 0 ≤ e.1 ∧ e.1 < e.2 ∧ e.2 < n
  nd : es.Nodup
  so : sortP es = es
theorem ed_lt {a b : Int} (h : a < b) : ed a b = (a, b) := by
  unfold ed mn mx
  rw [if_neg (by omega), if_pos (by omega)]
theorem ed_cases (a b : Int) : (ed a b = (a, b) ∧ a ≤ b) ∨ (ed a b = (b, a) ∧ b < a) := by
  unfold ed mn mx
  by_cases h : b < a
  · right; rw [if_pos h, if_neg (by omega)]; exact ⟨rfl, h⟩
  · left
    rw [if_neg h]
    by_cases h2 : b > a
    · rw [if_pos h2]; exact ⟨rfl, by omega⟩
    · rw [if_neg h2]; exact ⟨by rw [show a = b by omega], by omega⟩
theorem sortP_nd {l : List Pr2} (h : l.Nodup) : (sortP l).Nodup := (sortP_p l).nodup_iff.mpr h
theorem isG_of {n : Int} {es : List Pr2} (h : ∀ e ∈ es, okE n e = true) (hn : (es.map edE).Nodup) : IsG n (sortP (es.map edE)) := by
  refine ⟨fun e he => ?_, sortP_nd hn, sortP_idem _⟩
  have := (sortP_p _).mem_iff.mp he
  obtain ⟨e0, h0, rfl⟩ := List.mem_map.mp this
  have hk := h e0 h0
  simp only [okE, decide_eq_true_eq] at hk
  unfold edE
  rcases ed_cases e0.1 e0.2 with ⟨e, _⟩ | ⟨e, _⟩ <;> rw [e] <;> dsimp only <;> omega
theorem isG_mkG {n : Int} {es g : List Pr2} (h : mkG n es [] = some g) : IsG n (sortP g) := by
  obtain ⟨h1, h2, h3⟩ := mkG_inv (by simp) h
  rw [List.nil_append] at h1
  rw [h1] at h3 ⊢
  exact isG_of h2 h3
/-! relabelled by a row -/
def rg (r : List Int) (x : Int) : Int := r.getD x.toNat 0
def mvP (r : List Int) (e : Pr2) : Pr2 := (rg r e.1, rg r e.2)
def mvE (es : List Pr2) (r : List Int) : List Pr2 := sortP (es.map fun e => edE (mvP r e))
structure IsRow (n : Int) (r : List Int) : Prop where
  p : isP r = true
  l : (r.length : Int) = n
section
variable {n : Int} {r p q : List Int} {es : List Pr2}
theorem rg_at (h : IsRow n r) {x : Int} (hx : 0 ≤ x ∧ x < n) : ∃ hi : x.toNat < r.length, rg r x = r[x.toNat] := by
  have := h.l
  refine ⟨by omega, ?_⟩
  unfold rg
  rw [BV.getD_at (by omega)]
theorem rg_ran (h : IsRow n r) {x : Int} (hx : 0 ≤ x ∧ x < n) : 0 ≤ rg r x ∧ rg r x < n := by
  obtain ⟨hi, e⟩ := rg_at h hx
  rw [e, ← h.l]
  exact (isP_mem h.p).mp (List.getElem_mem hi)
theorem rg_inj (h : IsRow n r) {x y : Int} (hx : 0 ≤ x ∧ x < n) (hy : 0 ≤ y ∧ y < n) (e : rg r x = rg r y) : x = y := by
  obtain ⟨hi, e1⟩ := rg_at h hx
  obtain ⟨hj, e2⟩ := rg_at h hy
  rw [e1, e2] at e
  have hp := List.pairwise_iff_getElem.mp (List.nodup_iff_pairwise_ne.mp (isP_nodup h.p))
  by_cases hlt : x.toNat < y.toNat
  · exact absurd e (hp _ _ hi hj hlt)
  · by_cases hgt : y.toNat < x.toNat
    · exact absurd e.symm (hp _ _ hj hi hgt)
    · omega
theorem mv_ok (g : IsG n es) (h : IsRow n r) : ∀ e ∈ es.map (mvP r), okE n e = true := by
  intro e he
  obtain ⟨e0, h0, rfl⟩ := List.mem_map.mp he
  have := g.ok e0 h0
  have r1 := rg_ran h (x := e0.1) (by omega)
  have r2 := rg_ran h (x := e0.2) (by omega)
  have hz : rg r e0.1 ≠ rg r e0.2 := fun z => by
    have := rg_inj h (by omega) (by omega) z
    omega
  exact decide_eq_true (show 0 ≤ rg r e0.1 ∧ rg r e0.1 < n ∧ 0 ≤ rg r e0.2 ∧ rg r e0.2 < n ∧ rg r e0.1 ≠ rg r e0.2 from ⟨r1.1, r1.2, r2.1, r2.2, hz⟩)
theorem mv_inj (h : IsRow n r) {a b : Pr2} (ha : 0 ≤ a.1 ∧ a.1 < a.2 ∧ a.2 < n) (hb : 0 ≤ b.1 ∧ b.1 < b.2 ∧ b.2 < n) (e : edE (mvP r a) = edE (mvP r b)) : a = b := by
  unfold edE mvP at e
  dsimp only at e
  have i1 : ∀ {x y : Int}, (x = a.1 ∨ x = a.2) → (y = b.1 ∨ y = b.2) → rg r x = rg r y → x = y := fun hx hy z => rg_inj h (by omega) (by omega) z
  rcases ed_cases (rg r a.1) (rg r a.2) with ⟨e1, _⟩ | ⟨e1, _⟩ <;> rcases ed_cases (rg r b.1) (rg r b.2) with ⟨e2, _⟩ | ⟨e2, _⟩ <;> (rw [e1, e2] at e; have z1 := congrArg Prod.fst e; have z2 := congrArg Prod.snd e; dsimp only at z1 z2)
  · exact Prod.ext (i1 (.inl rfl) (.inl rfl) z1) (i1 (.inr rfl) (.inr rfl) z2)
  · have w1 := i1 (.inl rfl) (.inr rfl) z1
    have w2 := i1 (.inr rfl) (.inl rfl) z2
    omega
  · have w1 := i1 (.inr rfl) (.inl rfl) z1
    have w2 := i1 (.inl rfl) (.inr rfl) z2
    omega
  · exact Prod.ext (i1 (.inl rfl) (.inl rfl) z2) (i1 (.inr rfl) (.inr rfl) z1)
theorem nodup_map_on {α β : Type} {f : α → β} : ∀ {l : List α}, l.Nodup → (∀ a ∈ l, ∀ b ∈ l, f a = f b → a = b) → (l.map f).Nodup
  | [], _, _ => by simp
  | a :: l, hn, hi => by
    have h := List.nodup_cons.mp hn
    rw [List.map_cons, List.nodup_cons]
    refine ⟨fun hm => ?_, nodup_map_on h.2 fun x hx y hy => hi x (by simp [hx]) y (by simp [hy])⟩
    obtain ⟨b, hb, e⟩ := List.mem_map.mp hm
    have := hi b (by simp [hb]) a (by simp) e
    rw [this] at hb
    exact h.1 hb
theorem mv_nd (g : IsG n es) (h : IsRow n r) : ((es.map (mvP r)).map edE).Nodup := by
  rw [List.map_map]
  exact nodup_map_on g.nd fun a ha b hb e => mv_inj h (g.ok a ha) (g.ok b hb) e
theorem mv_mkG (g : IsG n es) (h : IsRow n r) : mkG n (es.map (mvP r)) [] = some (es.map fun e => edE (mvP r e)) := by
  rw [mkG_ok (mv_ok g h) (by simpa using mv_nd g h)]
  simp [Function.comp_def]
theorem mv_isG (g : IsG n es) (h : IsRow n r) : IsG n (mvE es r) := isG_mkG (mv_mkG g h)
theorem edE_mv (x : Pr2) : edE (mvP q (edE x)) = edE (mvP q x) := by
  unfold edE mvP
  rcases ed_cases x.1 x.2 with ⟨e, _⟩ | ⟨e, _⟩ <;> rw [e]
  exact ed_comm _ _
/-- by the first, then by the second -/
def com (a b : List Int) : List Int := a.map fun x => rg b x
theorem com_at (hp : IsRow n p) {x : Int} (hx : 0 ≤ x ∧ x < n) : rg (com p q) x = rg q (rg p x) := by
  obtain ⟨hi, e⟩ := rg_at hp hx
  rw [e]
  show (com p q).getD x.toNat 0 = _
  rw [BV.getD_at (by simp [com]; exact hi)]
  simp [com]
theorem mvE_com (g : IsG n es) (hp : IsRow n p) : mvE (mvE es p) q = mvE es (com p q) := by
  refine sortP_eq ?_
  refine ((sortP_p _).map _).trans ?_
  rw [List.map_map]
  refine List.Perm.of_eq (List.map_congr_left fun e he => ?_)
  have hk := g.ok e he
  simp only [Function.comp]
  rw [edE_mv]
  unfold mvP
  dsimp only
  rw [com_at hp (by omega), com_at hp (by omega)]
theorem com_row (hp : IsRow n p) (hq : IsRow n q) : IsRow n (com p q) := by
  have hl : (com p q).length = p.length := by simp [com]
  refine ⟨isP_intro (by rw [hl]; exact (perm_ints hp.p).1) ?_ fun x hx => ?_, by rw [hl]; exact hp.l⟩
  · refine nodup_map_on (isP_nodup hp.p) fun a ha b hb e => rg_inj hq ?_ ?_ e
    · have := (isP_mem hp.p).mp ha; have := hp.l; omega
    · have := (isP_mem hp.p).mp hb; have := hp.l; omega
  · obtain ⟨y, hy, rfl⟩ := List.mem_map.mp hx
    have h1 := (isP_mem hp.p).mp hy
    have h2 := rg_ran hq (x := y) (by have := hp.l; omega)
    have := hp.l
    rw [hl]
    omega
/-- the row undone, so far -/
def inv (l : List Int) : Nat → List Int
  | 0 => List.replicate l.length 0
  | k + 1 => (inv l k).set (l.getD k 0).toNat (k : Int)
theorem inv_len (l : List Int) : ∀ k, (inv l k).length = l.length
  | 0 => by simp [inv]
  | k + 1 => by simp [inv, inv_len l k]
def undo (l : List Int) : List Int := inv l l.length
theorem undo_len (l : List Int) : (undo l).length = l.length := inv_len l _
theorem inv_spec (h : isP r = true) : ∀ (k : Nat), k ≤ r.length → ∀ i, i < k → (inv r k).getD (r.getD i 0).toNat 0 = (i : Int)
  | 0, _, i, hi => by omega
  | k + 1, hk, i, hi => by
    obtain ⟨j, hj, e⟩ := perm_at h (show i < r.length by omega)
    obtain ⟨j2, hj2, e2⟩ := perm_at h (show k < r.length by omega)
    simp only [inv]
    rw [BV.getD_at (show i < r.length by omega), BV.getD_at (show k < r.length by omega), e, e2]
    simp only [Int.toNat_natCast]
    rw [List.getD_eq_getElem?_getD, List.getElem?_set]
    by_cases hik : i = k
    · subst hik
      rw [e] at e2
      have : j2 = j := by omega
      subst this
      rw [if_pos rfl, if_pos (by rw [inv_len]; exact hj)]
      rfl
    · have hne : j2 ≠ j := by
        intro z
        subst z
        have hp := List.pairwise_iff_getElem.mp (List.nodup_iff_pairwise_ne.mp (isP_nodup h)) i k (by omega) (by omega) (by omega)
        exact hp (by rw [e, e2])
      rw [if_neg hne]
      have := inv_spec h k (by omega) i (by omega)
      rw [BV.getD_at (show i < r.length by omega), e, Int.toNat_natCast, List.getD_eq_getElem?_getD] at this
      exact this
theorem undo_at (h : IsRow n r) {x : Int} (hx : 0 ≤ x ∧ x < n) : rg (undo r) (rg r x) = x := by
  have hl := h.l
  have := inv_spec h.p r.length (Nat.le_refl _) x.toNat (by omega)
  show (undo r).getD (rg r x).toNat 0 = x
  unfold rg undo
  rw [this]
  omega
theorem undo_row (h : IsRow n r) : IsRow n (undo r) := by
  have hl := h.l
  have onto : ∀ x, 0 ≤ x ∧ x < n → ∃ y, (0 ≤ y ∧ y < n) ∧ rg r y = x := fun x hx => by
    have : x ∈ r := (isP_mem h.p).mpr (by omega)
    obtain ⟨i, hi, e⟩ := List.mem_iff_getElem.mp this
    refine ⟨(i : Int), by omega, ?_⟩
    unfold rg
    rw [Int.toNat_natCast, BV.getD_at hi, e]
  have key : ∀ x, 0 ≤ x ∧ x < n → 0 ≤ rg (undo r) x ∧ rg (undo r) x < n ∧ rg r (rg (undo r) x) = x := fun x hx => by
    obtain ⟨y, hy, rfl⟩ := onto x hx
    rw [undo_at h hy]
    exact ⟨hy.1, hy.2, rfl⟩
  have at_ : ∀ (i : Nat) (hi : i < (undo r).length), (undo r)[i] = rg (undo r) (i : Int) := fun i hi => by
    unfold rg
    rw [Int.toNat_natCast, BV.getD_at hi]
  have ul := undo_len r
  refine ⟨isP_intro (by rw [ul]; exact (perm_ints h.p).1) ?_ fun x hx => ?_, by rw [ul]; exact hl⟩
  · rw [List.nodup_iff_pairwise_ne, List.pairwise_iff_getElem]
    intro i j hi hj hlt e
    rw [at_ i hi, at_ j hj] at e
    have k1 := (key (i : Int) (by omega)).2.2
    have k2 := (key (j : Int) (by omega)).2.2
    rw [e, k2] at k1
    omega
  · obtain ⟨i, hi, rfl⟩ := List.mem_iff_getElem.mp hx
    rw [at_ i hi]
    have := key (i : Int) (by omega)
    omega
theorem mvE_undo (g : IsG n es) (h : IsRow n r) : mvE (mvE es r) (undo r) = es := by
  rw [mvE_com g h]
  have e : es.map (fun e => edE (mvP (com r (undo r)) e)) = es := by
    have : ∀ e ∈ es, edE (mvP (com r (undo r)) e) = e := fun e he => by
      have hk := g.ok e he
      unfold mvP
      rw [com_at h (by omega), com_at h (by omega), undo_at h (by omega), undo_at h (by omega)]
      exact ed_lt hk.2.1
    rw [List.map_congr_left this]
    exact List.map_id' es
  unfold mvE
  rw [e]
  exact g.so
end
/-! all pairs of nodes -/
def pairsN (n : Nat) : List Pr2 := (List.range n).flatMap fun a => (List.range (n - (a + 1))).map fun j => ((a : Int), ((a + 1 + j : Nat) : Int))
theorem pairsN_mem {n : Nat} {e : Pr2} : e ∈ pairsN n ↔ 0 ≤ e.1 ∧ e.1 < e.2 ∧ e.2 < n := by
  unfold pairsN
  rw [List.mem_flatMap]
  constructor
  · rintro ⟨a, ha, h⟩
    obtain ⟨j, hj, rfl⟩ := List.mem_map.mp h
    have h1 := List.mem_range.mp ha
    have h2 := List.mem_range.mp hj
    dsimp only
    omega
  · rintro ⟨h1, h2, h3⟩
    refine ⟨e.1.toNat, List.mem_range.mpr (by omega), List.mem_map.mpr ⟨(e.2 - e.1 - 1).toNat, List.mem_range.mpr (by omega), Prod.ext ?_ ?_⟩⟩ <;> dsimp only <;> omega
theorem pairsN_nd (n : Nat) : (pairsN n).Nodup := by
  unfold pairsN
  rw [List.nodup_iff_pairwise_ne, List.pairwise_flatMap]
  refine ⟨fun a _ => ?_, ?_⟩
  · rw [List.pairwise_map]
    refine List.pairwise_lt_range.imp fun h e => ?_
    have := congrArg Prod.snd e
    dsimp only at this
    omega
  · refine List.pairwise_lt_range.imp fun h x hx y hy e => ?_
    obtain ⟨_, _, rfl⟩ := List.mem_map.mp hx
    obtain ⟨_, _, rfl⟩ := List.mem_map.mp hy
    have := congrArg Prod.fst e
    dsimp only at this
    omega
theorem pairsN_len {n : Nat} (h : n ≤ 6) : (pairsN n).length ≤ 15 := by
  have : n = 0 ∨ n = 1 ∨ n = 2 ∨ n = 3 ∨ n = 4 ∨ n = 5 ∨ n = 6 := by omega
  rcases this with rfl | rfl | rfl | rfl | rfl | rfl | rfl <;> decide
end BV

/-! Graphs: what the shared bodies compute. -/
namespace BV
open PySem
section
variable {cf cf' : CF} {i c0 c1 : Nat} {sb : Str → Str → Option Bool} {g0 g1 : Str} {s : IS} {ss : List IS} {ρ ρ' : Env} {v : Res T} {t : T}
/-- a loop that may raise -/
theorem g_forx {tg : Tg} {sk : Sk} {ses : List IE} {body : List IS} {xs : List T} (hi : (evs cf ses ρ).bd (itemsT sk) = .ok xs) (I : Nat → Env → Prop) (h0 : I 0 ρ) (hend : ∀ ρ, I xs.length ρ → (exs cf sb ss ρ).res = v)
    (hs : ∀ i ρ (h : i < xs.length), I i ρ → ∃ ρ1, tg.set xs[i] ρ = some ρ1 ∧ ((∃ ρ2, exs cf sb body ρ1 = .nx ρ2 ∧ I (i + 1) ρ2) ∨ (∃ t, exs cf sb body ρ1 = .rt t ∧ v = .ok t) ∨ ∃ c fs ρ2, exs cf sb body ρ1 = .ex c fs ρ2 ∧ v = .exc c fs)) :
    (exs cf sb (.for tg sk ses body :: ss) ρ).res = v := by
  have key := f_gen (cf := cf) (sb := sb) (tg := tg) (body := body) hi (fun r => (∃ ρ2, r = .nx ρ2 ∧ (exs cf sb ss ρ2).res = v) ∨ (∃ t, r = .rt t ∧ v = .ok t) ∨ ∃ c fs ρ2, r = .ex c fs ρ2 ∧ v = .exc c fs) I h0 (fun ρ h => .inl ⟨ρ, rfl, hend ρ h⟩) fun i ρ h hI => by
    obtain ⟨ρ1, e1, h1⟩ := hs i ρ h hI
    refine ⟨ρ1, e1, ?_⟩
    rcases h1 with ⟨ρ2, e2, h2⟩ | ⟨t, e2, h2⟩ | ⟨c, fs, ρ2, e2, h2⟩
    · exact .inl ⟨ρ2, .inl e2, h2⟩
    · exact .inr (.inr (.inl ⟨t, e2, .inr (.inl ⟨t, rfl, h2⟩)⟩))
    · exact .inr (.inr (.inr ⟨c, fs, ρ2, e2, .inr (.inr ⟨c, fs, ρ2, rfl, h2⟩)⟩))
  rcases key with ⟨ρ2, e, h⟩ | ⟨t, e, h⟩ | ⟨c, fs, ρ2, e, h⟩
  · exact g_step e h
  · exact g_ret e h
  · exact g_exc e h
theorem or_if (a b : Bool) : (if a = true then (Res.ok (T.bl true) : Res T) else .ok (.bl b)) = .ok (.bl (a || b)) := by cases a <;> rfl
theorem or_if' (a b : Bool) : (if a = true then (Res.ok (T.bl a) : Res T) else .ok (.bl b)) = .ok (.bl (a || b)) := by cases a <;> rfl
theorem and_if (a b : Bool) : (if a = true then (Res.ok (T.bl b) : Res T) else .ok (.bl false)) = .ok (.bl (a && b)) := by cases a <;> rfl
/-! rows of pairs -/
theorem toDL_pz (l : List Pr2) : toDL (l.map pz) = l.map fun e => PyData.tuple [.int e.1, .int e.2] := by
  induction l with
  | nil => rfl
  | cons a l ih => simp only [List.map_cons, toDL, pz_toD, ih]
theorem lay_pz (l : List Pr2) : PyData.canLayAll0 (l.map fun e => PyData.tuple [.int e.1, .int e.2]) = true := by
  induction l with
  | nil => rfl
  | cons a l ih => simp [PyData.canLayAll0, PyData.canLay0, ih]
theorem depth_pz (l : List Pr2) : PyData.depthAll (l.map fun e => PyData.tuple [.int e.1, .int e.2]) ≤ 1 := by
  induction l with
  | nil => simp [PyData.depthAll]
  | cons a l ih => simp only [List.map_cons, PyData.depthAll, PyData.depth]; exact Nat.max_le.mpr ⟨by decide, ih⟩
theorem shaped_lpz (l : List Pr2) : SeqAt.shaped (T.lst (l.map pz)).toD = true := by
  have := depth_pz l
  simp only [T.toD, toDL_pz, SeqAt.shaped, PyData.canLay0, PyData.depth, lay_pz, Bool.true_and, decide_eq_true_eq]
  omega
theorem shaped_tpz (l : List Pr2) : SeqAt.shaped (T.tup (l.map pz)).toD = true := by
  have := depth_pz l
  simp only [T.toD, toDL_pz, SeqAt.shaped, PyData.canLay0, PyData.depth, lay_pz, Bool.true_and, decide_eq_true_eq]
  omega
theorem eqv_pz (a b : Pr2) : PyData.eqv (.tuple [.int a.1, .int a.2]) (.tuple [.int b.1, .int b.2]) = (a == b) := by
  simp only [PyData.eqv, PyData.eqvAll, Bool.and_true]
  by_cases h : a = b
  · subst h; simp
  · have : ¬ (a.1 = b.1 ∧ a.2 = b.2) := fun z => h (Prod.ext z.1 z.2)
    have e : (a == b) = false := by simpa using h
    rw [e, ← Bool.not_eq_true, Bool.and_eq_true]
    simpa using this
theorem any_pz (e : Pr2) (l : List Pr2) : ((toDL (l.map pz)).any fun z => PyData.eqv z (pz e).toD) = l.contains e := by
  rw [toDL_pz, pz_toD]
  induction l with
  | nil => rfl
  | cons a l ih =>
    simp only [List.map_cons, List.any_cons, List.contains_cons, ih, eqv_pz]
    congr 1
    exact BEq.comm
@[simp] theorem in_lpz (e : Pr2) (l : List Pr2) : cmpT .In (pz e) (.lst (l.map pz)) = .ok (l.contains e) := by
  show inT (pz e) (.lst (l.map pz)) = _
  unfold inT
  rw [show listOf? (T.lst (l.map pz)) = some (l.map pz) from rfl]
  dsimp only
  rw [if_pos ⟨pz_shaped e, shaped_lpz l⟩, any_pz]
@[simp] theorem in_tpz (e : Pr2) (l : List Pr2) : cmpT .In (pz e) (.tup (l.map pz)) = .ok (l.contains e) := by
  show inT (pz e) (.tup (l.map pz)) = _
  unfold inT
  rw [show listOf? (T.tup (l.map pz)) = some (l.map pz) from rfl]
  dsimp only
  rw [if_pos ⟨pz_shaped e, shaped_tpz l⟩, any_pz]
theorem place_pz (e : Pr2) : ∀ l : List Pr2, placeT (pz e).toD (l.map pz) = l.findIdx? (· == e)
  | [] => rfl
  | a :: l => by
    unfold placeT
    rw [List.map_cons, List.findIdx?_cons, List.findIdx?_cons, pz_toD, pz_toD, eqv_pz]
    have ih := place_pz e l
    unfold placeT at ih
    rw [pz_toD] at ih
    rw [ih]
def plc (l : List Pr2) (e : Pr2) : Nat := l.findIdx (· == e)
theorem find_plc {l : List Pr2} {e : Pr2} (h : e ∈ l) : l.findIdx? (· == e) = some (plc l e) := by
  unfold plc
  rw [List.findIdx?_eq_some_iff_findIdx_eq]
  exact ⟨List.findIdx_lt_length_of_exists ⟨e, h, by simp⟩, rfl⟩
theorem ix_lpz {l : List Pr2} {e : Pr2} (h : e ∈ l) : meT .index (.lst (l.map pz)) [pz e] = .ok (.int (plc l e : Int)) := by
  simp only [meT]
  rw [if_pos ⟨pz_shaped e, shaped_lpz l⟩, place_pz, find_plc h]
theorem pz_fst (e : Pr2) : idxT (pz e) (.int 0) = .ok (.int e.1) := rfl
theorem pz_snd (e : Pr2) : idxT (pz e) (.int 1) = .ok (.int e.2) := rfl
/-- a graph -/
def gz (n : Int) (es : List Pr2) : T := .tup [.int n, .tup (es.map pz)]
theorem gz_fst (n : Int) (es : List Pr2) : idxT (gz n es) (.int 0) = .ok (.int n) := rfl
theorem gz_snd (n : Int) (es : List Pr2) : idxT (gz n es) (.int 1) = .ok (.tup (es.map pz)) := rfl
theorem flat_tpz (es : List Pr2) : (T.tup (es.map pz)).flat = true := by
  simp only [T.flat]; exact flatL_map _ _ fun e _ => pz_flat e
theorem flat_gz (n : Int) (es : List Pr2) : (gz n es).flat = true := by
  have := flat_tpz es
  simp only [gz, T.flat, flatL, Bool.and_true, Bool.true_and] at this ⊢
  exact this
def gr (n : Int) (es : List Pr2) : Res T := if 1 ≤ n ∧ n ≤ 6 then (match mkG n es [] with
  | some f => .ok (gz n (sortP f))
  | none => .exc "BadGraph" []) else .exc "BadGraph" []
def Sp_mkgraph (cf : CF) (i : Nat) : Prop := ∀ (n : Int) (es : List Pr2), es.length ≤ 1000 → cf i [.int n, .lst (es.map pz)] = gr n es
theorem mk_mkgraph (u : ∀ a b, cf' i [a, b] = (exs cf sb (B_make_graph g0) [some (.par a), some (.par b), none, none, none, none]).res) : Sp_mkgraph cf' i := fun n es hl => by
  rw [u]
  unfold gr
  by_cases hn : 1 ≤ n ∧ n ≤ 6
  · rw [if_pos hn]
    refine g_step (ρ' := [some (.par (.int n)), some (.par (.lst (es.map pz))), none, none, none, none]) ?_ ?_
    · have h1 : ¬ n < 1 := by omega
      have h2 : ¬ 6 < n := by omega
      simp [h1, h2]
    refine g_step (ρ' := [some (.par (.int n)), some (.par (.lst (es.map pz))), some (.own (([] : List Pr2).map pz)), none, none, none]) (by simp) ?_
    refine g_forx (xs := es.map pz) (by simp) (fun i ρ => ∃ f o o2 o3, ρ = [some (.par (.int n)), some (.par (.lst (es.map pz))), some (.own (f.map pz)), o, o2, o3] ∧ f.length = i ∧ mkG n (es.drop i) f = mkG n es []) ⟨[], _, _, _, rfl, rfl, rfl⟩ ?_ ?_
    · rintro ρ ⟨f, o, o2, o3, rfl, h1, h2⟩
      rw [List.length_map, List.drop_length] at h2
      simp only [mkG] at h2
      rw [← h2]
      dsimp only
      refine g_ret (t := gz n (sortP f)) ?_ rfl
      have := flat_gz n (sortP f)
      simp only [gz] at this
      simp [bi_sorted_pz, gz, this]
    · rintro i ρ hi ⟨f, o, o2, o3, rfl, h1, h2⟩
      have hi' : i < es.length := by simpa using hi
      rw [List.getElem_map]
      rw [List.drop_eq_getElem_cons hi'] at h2
      generalize es[i] = e at h2
      refine ⟨[some (.par (.int n)), some (.par (.lst (es.map pz))), some (.own (f.map pz)), some (.par (.int e.1)), some (.par (.int e.2)), o3], by simp [pz], ?_⟩
      have hc : okE n e = !(decide (e.1 < 0) || (decide (n ≤ e.1) || (decide (e.2 < 0) || (decide (n ≤ e.2) || decide (e.1 = e.2))))) := by
        unfold okE
        rw [Bool.eq_iff_iff]
        simp only [decide_eq_true_eq, Bool.not_eq_true', Bool.or_eq_false_iff, decide_eq_false_iff_not]
        omega
      have hw : ((decide (e.1 < 0) || (decide (n ≤ e.1) || (decide (e.2 < 0) || (decide (n ≤ e.2) || decide (e.1 = e.2))))) : Bool) = !okE n e := by rw [hc, Bool.not_not]
      have hcond : ∀ o3, ev cf (.or (.cmp .Lt (.var .par 3) (.int 0)) (.or (.cmp .GtE (.var .par 3) (.var .par 0)) (.or (.cmp .Lt (.var .par 4) (.int 0)) (.or (.cmp .GtE (.var .par 4) (.var .par 0)) (.cmp .Eq (.var .par 3) (.var .par 4)))))) [some (.par (.int n)), some (.par (.lst (es.map pz))), some (.own (f.map pz)), some (.par (.int e.1)), some (.par (.int e.2)), o3] = .ok (.bl (!okE n e)) := fun o3 => by
        simp only [ev_or, ev_cmp, ev_int, ev_var, List.getElem?_cons_zero, List.getElem?_cons_succ, sl_par, bd_ok, cmp_lt, cmp_ge, cmp_eq, truthR_bl, or_if', hw]
      simp only [mkG] at h2
      have hz : f.length < sizeLine := lt_line (by omega)
      have hp : (T.tup [.int (mn e.1 e.2), .int (mx e.1 e.2)]) = pz (edE e) := rfl
      by_cases hk : okE n e = true
      · rw [if_pos hk] at h2
        by_cases hd : f.contains (edE e) = true
        · rw [if_pos hd] at h2
          rw [← h2]
          refine .inr (.inr ⟨"BadGraph", [], [some (.par (.int n)), some (.par (.lst (es.map pz))), some (.own (f.map pz)), some (.par (.int e.1)), some (.par (.int e.2)), some (.val (pz (edE e)))], ?_, rfl⟩)
          refine x_step (ρ' := [some (.par (.int n)), some (.par (.lst (es.map pz))), some (.own (f.map pz)), some (.par (.int e.1)), some (.par (.int e.2)), o3]) (by simp only [ex_ite, hcond, hk, truthR_bl, fl_ok]; rfl) ?_
          refine x_step (ρ' := [some (.par (.int n)), some (.par (.lst (es.map pz))), some (.own (f.map pz)), some (.par (.int e.1)), some (.par (.int e.2)), some (.val (pz (edE e)))]) (by simp [bi_min, bi_max, hp]) ?_
          simp only [exs_cons, ex_ite, ev_cmp, ev_var, List.getElem?_cons_zero, List.getElem?_cons_succ, sl_val, sl_own, bd_ok, in_lpz, hd, truthR_bl, fl_ok, if_true, ex_raise]
        · rw [if_neg hd] at h2
          refine .inl ⟨[some (.par (.int n)), some (.par (.lst (es.map pz))), some (.own ((f ++ [edE e]).map pz)), some (.par (.int e.1)), some (.par (.int e.2)), some (.val (pz (edE e)))], ?_, _, _, _, _, rfl, by simp [h1], h2⟩
          refine x_step (ρ' := [some (.par (.int n)), some (.par (.lst (es.map pz))), some (.own (f.map pz)), some (.par (.int e.1)), some (.par (.int e.2)), o3]) (by simp only [ex_ite, hcond, hk, truthR_bl, fl_ok]; rfl) ?_
          refine x_step (ρ' := [some (.par (.int n)), some (.par (.lst (es.map pz))), some (.own (f.map pz)), some (.par (.int e.1)), some (.par (.int e.2)), some (.val (pz (edE e)))]) (by simp [bi_min, bi_max, hp]) ?_
          have hd' : f.contains (edE e) = false := by simpa using hd
          refine x_step (ρ' := [some (.par (.int n)), some (.par (.lst (es.map pz))), some (.own (f.map pz)), some (.par (.int e.1)), some (.par (.int e.2)), some (.val (pz (edE e)))]) (by
            simp only [ex_ite, ev_cmp, ev_var, List.getElem?_cons_zero, List.getElem?_cons_succ, sl_val, sl_own, bd_ok, in_lpz, hd', truthR_bl, fl_ok, Bool.false_eq_true, if_false, exs_nil]) ?_
          simp [ownAt, hz]
      · rw [if_neg hk] at h2
        rw [← h2]
        have hk' : okE n e = false := by simpa using hk
        refine .inr (.inr ⟨"BadGraph", [], [some (.par (.int n)), some (.par (.lst (es.map pz))), some (.own (f.map pz)), some (.par (.int e.1)), some (.par (.int e.2)), o3], ?_, rfl⟩)
        simp only [exs_cons, ex_ite, hcond, hk', truthR_bl, fl_ok]
        rfl
  · rw [if_neg hn]
    refine g_exc (ρ' := [some (.par (.int n)), some (.par (.lst (es.map pz))), none, none, none, none]) ?_ rfl
    by_cases h1 : n < 1
    · simp [h1]
    · have h2 : 6 < n := by omega
      simp [h1, h2]
def Sp_hasedge (cf : CF) (i : Nat) : Prop := ∀ (n : Int) (es : List Pr2) (a b : Int), cf i [gz n es, .int a, .int b] = .ok (.bl (es.contains (ed a b)))
theorem mk_hasedge (u : ∀ a b c, cf' i [a, b, c] = (exs cf sb B_has_edge [some (.par a), some (.par b), some (.par c)]).res) : Sp_hasedge cf' i := fun n es a b => by
  rw [u]
  have hp : (T.tup [.int (mn a b), .int (mx a b)]) = pz (ed a b) := rfl
  refine g_ret (t := .bl (es.contains (ed a b))) ?_ rfl
  simp only [ex_ret, ev_cmp, ev_tup, ev_idx, ev_bi, ev_int, evs_cons, evs_nil, ev_var, List.getElem?_cons_zero, List.getElem?_cons_succ, sl_par, bd_ok, bi_min, bi_max, hp, gz_snd, in_tpz, fl_ok]
theorem compJ_of {α : Type} {f : T → Res (List T)} (F : α → T) (g : α → List T) : ∀ {L : List α}, (∀ a ∈ L, f (F a) = .ok (g a)) → compJ f (L.map F) = .ok (L.flatMap g)
  | [], _ => rfl
  | a :: L, h => by
    simp only [List.map_cons, compJ, h a (by simp), bd_ok, compJ_of F g (L := L) fun b hb => h b (by simp [hb]), List.flatMap_cons]
theorem comp2_map {α β : Type} {ρ : Env} {tg tg2 : Tg} {elt : IE} {sk sk2 : Sk} {ses ses2 : List IE} (F : α → T) (L : List α) (F2 : α → β → T) (M : α → List β) (g : α → β → T) (hi : (evs cf ses ρ).bd (itemsT sk) = .ok (L.map F))
    (h : ∀ a ∈ L, ∃ ρ1, tg.set (F a) (wipeE ρ (tg.slots ++ tg2.slots)) = some ρ1 ∧ (evs cf ses2 ρ1).bd (itemsT sk2) = .ok ((M a).map (F2 a)) ∧ ∀ b ∈ M a, ∃ ρ2, tg2.set (F2 a b) (wipeE ρ1 tg2.slots) = some ρ2 ∧ ev cf elt ρ2 = .ok (g a b))
    (hz : (L.flatMap fun a => (M a).map (g a)).length ≤ sizeLine) : ev cf (.comp2 tg sk ses [] tg2 sk2 ses2 [] elt) ρ = .ok (.lst (L.flatMap fun a => (M a).map (g a))) := by
  simp only [ev_comp2]
  cases e : evs cf ses ρ with
  | stuck => rw [e] at hi; cases hi
  | exc c fs => rw [e] at hi; cases hi
  | ok ts =>
    rw [e] at hi
    simp only [bd_ok] at hi ⊢
    rw [hi]
    simp only [bd_ok]
    rw [compJ_of F (fun a => (M a).map (g a)) fun a ha => by
      obtain ⟨ρ1, h1, h2, h3⟩ := h a ha
      rw [h1]
      simp only [toSet_some, bd_ok, evAll_nil, if_true]
      cases e2 : evs cf ses2 ρ1 with
      | stuck => rw [e2] at h2; cases h2
      | exc c fs => rw [e2] at h2; cases h2
      | ok us =>
        rw [e2] at h2
        simp only [bd_ok] at h2 ⊢
        rw [h2]
        simp only [bd_ok]
        rw [compL_of (F2 a) (fun _ => true) (g a) fun b hb => by
          obtain ⟨ρ2, k1, k2⟩ := h3 b hb
          rw [k1]
          simp only [toSet_some, bd_ok, k2, if_true]]
        rw [List.filter_eq_self.mpr fun _ _ => rfl]]
    show (if _ then _ else _) = _
    rw [if_pos hz]
theorem it_rng2 {a b : Nat} (ha : a ≤ 100) (hb : b ≤ 100) : itemsT .rng2 [.int (a : Int), .int (b : Int)] = .ok ((List.range (b - a)).map fun (j : Nat) => T.int (((a + j : Nat)) : Int)) := by
  have hz := le_line (show b ≤ 16000000 by omega)
  simp only [itemsT]
  rw [if_pos (by refine ⟨by omega, by omega, by omega, by omega, by omega⟩)]
  have e : ((b : Int) - (a : Int)).toNat = b - a := by omega
  rw [e]
  unfold rangeL
  congr 1
end
end BV

/-! Graphs: what the shared bodies compute, further. -/
namespace BV
open PySem
section
variable {cf cf' : CF} {i c0 c1 : Nat} {sb : Str → Str → Option Bool} {g0 g1 : Str} {s : IS} {ss : List IS} {ρ ρ' : Env} {v : Res T} {t : T}
theorem its_of {e : Res (List T)} {ts xs : List T} {sk : Sk} (h : e = .ok ts) (h2 : itemsT sk ts = .ok xs) : e.bd (itemsT sk) = .ok xs := by rw [h]; exact h2
def Sp_pairs (cf : CF) (i : Nat) : Prop := ∀ n : Nat, n ≤ 6 → cf i [.int (n : Int)] = .ok (.lst ((pairsN n).map pz))
theorem pairsN_map (n : Nat) : (pairsN n).map pz = (List.range n).flatMap fun a => (List.range (n - (a + 1))).map fun j => pz ((a : Int), ((a + 1 + j : Nat) : Int)) := by
  unfold pairsN
  rw [List.map_flatMap]
  simp only [List.map_map]
  rfl
theorem mk_nodepairs (u : ∀ a, cf' i [a] = (exs cf sb B_node_pairs [some (.par a), none, none]).res) : Sp_pairs cf' i := fun n hn => by
  rw [u]
  have hz : ((pairsN n).map pz).length ≤ sizeLine := by rw [List.length_map]; have := pairsN_len hn; exact le_line (by omega)
  rw [pairsN_map] at hz ⊢
  have k := comp2_map (cf := cf) (ρ := [some (.par (.int (n : Int))), none, none]) (tg := .nm .val 1) (tg2 := .nm .val 2) (elt := .tup [.var .val 1, .var .val 2]) (sk := .rng1) (sk2 := .rng2) (ses := [.var .par 0]) (ses2 := [.bin .Add (.var .val 1) (.int 1), .var .par 0])
    (fun (k : Nat) => T.int (k : Int)) (List.range n) (fun (a : Nat) (j : Nat) => T.int ((a + 1 + j : Nat) : Int)) (fun a => List.range (n - (a + 1))) (fun a j => pz ((a : Int), ((a + 1 + j : Nat) : Int))) (by simp [it_rngN (show n ≤ 16000000 by omega)])
    (fun a ha => ⟨_, rfl, by
      have ha' := List.mem_range.mp ha
      have e : (a : Int) + 1 = ((a + 1 : Nat) : Int) := by omega
      refine its_of (ts := [.int ((a + 1 : Nat) : Int), .int (n : Int)]) ?_ (it_rng2 (by omega) (by omega))
      simp only [evs_cons, evs_nil, ev_bin, ev_var, ev_int, List.set_cons_zero, List.set_cons_succ, wipe_cons, wipe_nil, slots_nm, List.cons_append, List.nil_append, List.getElem?_cons_zero, List.getElem?_cons_succ, sl_val, sl_par, bd_ok, bin_add, e], fun j hj => ⟨_, rfl, by simp [pz]⟩⟩) hz
  exact g_ret (t := .lst _) (by simp only [ex_ret, k, fl_ok]) rfl
def Sp_pairplace (cf : CF) (i : Nat) : Prop := ∀ (n : Nat) (a b : Int), n ≤ 6 → ed a b ∈ pairsN n → cf i [.int (n : Int), .int a, .int b] = .ok (.int (plc (pairsN n) (ed a b) : Int))
theorem mk_pairplace (h0 : Sp_pairs cf c0) (u : ∀ a b c, cf' i [a, b, c] = (exs cf sb (B_pair_place c0) [some (.par a), some (.par b), some (.par c)]).res) : Sp_pairplace cf' i := fun n a b hn hm => by
  rw [u]
  have hp : (T.tup [.int (mn a b), .int (mx a b)]) = pz (ed a b) := rfl
  refine g_ret (t := .int _) ?_ rfl
  simp only [ex_ret, ev_meth, ev_call, ev_tup, ev_bi, evs_cons, evs_nil, ev_var, List.getElem?_cons_zero, List.getElem?_cons_succ, sl_par, bd_ok, h0 n hn, rv_lst, if_true, bi_min, bi_max, hp, ix_lpz hm, fl_ok]
def tabT (es ps : List Pr2) : T := .tup (ps.map fun p => T.int (if es.contains p = true then 1 else 0))
def Sp_edgetable (cf : CF) (i : Nat) : Prop := ∀ (n : Nat) (es : List Pr2), n ≤ 6 → cf i [gz (n : Int) es] = .ok (tabT es (pairsN n))
theorem bi_intb (b : Bool) : biT .toInt [.bl b] = .ok (.int (if b = true then 1 else 0)) := by cases b <;> rfl
theorem mk_edgetable (h0 : Sp_pairs cf c0) (u : ∀ a, cf' i [a] = (exs cf sb (B_edge_table c0) [some (.par a), none]).res) : Sp_edgetable cf' i := fun n es hn => by
  rw [u]
  have k := comp_map (cf := cf) (ρ := [some (.par (gz (n : Int) es)), none]) (tg := .nm .val 1) (elt := (.bi .toInt [(.cmp .In (.var .val 1) (.idx (.var .par 0) (.int 1)))])) (sk := .plain) (ses := [(.call c0 [(.idx (.var .par 0) (.int 0))])]) pz (pairsN n) (fun p => T.int (if es.contains p = true then 1 else 0))
    (by simp only [evs_cons, evs_nil, ev_call, ev_idx, ev_int, ev_var, List.getElem?_cons_zero, sl_par, bd_ok, gz_fst, h0 n hn, it_lst])
    (fun p hp => ⟨_, rfl, by simp only [ev_cmp, ev_idx, ev_bi, ev_int, evs_cons, evs_nil, ev_var, List.set_cons_zero, List.set_cons_succ, wipe_cons, wipe_nil, slots_nm, List.getElem?_cons_zero, List.getElem?_cons_succ, sl_par, sl_val, bd_ok, gz_snd, in_tpz, bi_intb]⟩)
  exact g_ret (t := tabT es (pairsN n)) (by simp only [ex_ret, ev_bi, evs_cons, evs_nil, k, bd_ok, bi_tup_lst, fl_ok, tabT]) rfl
theorem idx_rg {r : List Int} {n x : Int} (h : IsRow n r) (hx : 0 ≤ x ∧ x < n) : idxT (tz r) (.int x) = .ok (.int (rg r x)) := by
  have hl := h.l
  have := idx_tzD (l := r) (i := x.toNat) (by omega)
  rw [Int.toNat_of_nonneg hx.1] at this
  exact this
theorem idx_rgl {r : List Int} {n x : Int} (h : IsRow n r) (hx : 0 ≤ x ∧ x < n) : idxT (lz r) (.int x) = .ok (.int (rg r x)) := by
  have hl := h.l
  have := idx_lzD (l := r) (i := x.toNat) (by omega)
  rw [Int.toNat_of_nonneg hx.1] at this
  exact this
def Sp_relabel (cf : CF) (i : Nat) : Prop := ∀ (n : Int) (es : List Pr2) (r : List Int), (IsG n es → es.length ≤ 1000 → 1 ≤ n → n ≤ 6 → IsRow n r → cf i [gz n es, tz r] = .ok (gz n (mvE es r))) ∧ (¬ IsRow n r → cf i [gz n es, tz r] = .exc "BadPermutation" [])
theorem mk_relabel (h0 : Sp_isperm cf c0) (h1 : Sp_mkgraph cf c1) (u : ∀ a b, cf' i [a, b] = (exs cf sb (B_relabel c0 c1) [some (.par a), some (.par b), none, none]).res) : Sp_relabel cf' i := fun n es r => by
  constructor
  · intro g hl hn1 hn6 h
    rw [u]
    have e1 : decide ((r.length : Int) = n) = true := decide_eq_true h.l
    refine g_step (ρ' := [some (.par (gz n es)), some (.par (tz r)), none, none]) (by
      simp only [ex_ite, ev_or, ev_not, ev_cmp, ev_idx, ev_bi, ev_call, ev_int, evs_cons, evs_nil, ev_var, List.getElem?_cons_zero, List.getElem?_cons_succ, sl_par, bd_ok, gz_fst, bi_len_tup, List.length_map, cmp_ne, e1, truthR_bl, h0 r, h.p, fl_ok]
      rfl) ?_
    have k := comp_map (cf := cf) (ρ := [some (.par (gz n es)), some (.par (tz r)), none, none]) (tg := (.tp [(.nm .par 2), (.nm .par 3)])) (elt := (.chk (.tup [(.idx (.var .par 1) (.var .par 2)), (.idx (.var .par 1) (.var .par 3))]))) (sk := .plain) (ses := [(.idx (.var .par 0) (.int 1))]) pz es (fun e => pz (mvP r e))
      (by simp only [evs_cons, evs_nil, ev_idx, ev_int, ev_var, List.getElem?_cons_zero, sl_par, bd_ok, gz_snd, it_tup])
      (fun e he => ⟨[some (.par (gz n es)), some (.par (tz r)), some (.par (.int e.1)), some (.par (.int e.2))], by simp [pz], by
        have hk := g.ok e he
        have i1 := idx_rg h (x := e.1) (by omega)
        have i2 := idx_rg h (x := e.2) (by omega)
        have hf := pz_flat (mvP r e)
        simp only [pz, mvP] at hf
        simp only [ev_chk, ev_tup, ev_idx, evs_cons, evs_nil, ev_var, List.getElem?_cons_zero, List.getElem?_cons_succ, sl_par, bd_ok, i1, i2, hf, if_true, pz, mvP]⟩)
    have e2 : (es.map fun e => pz (mvP r e)) = (es.map (mvP r)).map pz := by rw [List.map_map]; rfl
    rw [e2] at k
    have k1 := h1 n (es.map (mvP r)) (by rw [List.length_map]; exact hl)
    unfold gr at k1
    rw [if_pos ⟨hn1, hn6⟩, mv_mkG g h] at k1
    refine g_ret (t := gz n (mvE es r)) ?_ rfl
    simp only [ex_ret, ev_call, ev_idx, ev_int, evs_cons, evs_nil, k, ev_var, List.getElem?_cons_zero, sl_par, bd_ok, gz_fst, k1, fl_ok]
    rfl
  · intro h
    rw [u]
    refine g_exc (ρ' := [some (.par (gz n es)), some (.par (tz r)), none, none]) ?_ rfl
    by_cases e1 : (r.length : Int) = n
    · have e2 : isP r = false := by
        rw [← Bool.not_eq_true]
        exact fun z => h ⟨z, e1⟩
      simp only [ex_ite, ev_or, ev_not, ev_cmp, ev_idx, ev_bi, ev_call, ev_int, evs_cons, evs_nil, ev_var, List.getElem?_cons_zero, List.getElem?_cons_succ, sl_par, bd_ok, gz_fst, bi_len_tup, List.length_map, cmp_ne, decide_eq_true e1, truthR_bl, h0 r, e2, fl_ok]
      rfl
    · simp only [ex_ite, ev_or, ev_not, ev_cmp, ev_idx, ev_bi, ev_call, ev_int, evs_cons, evs_nil, ev_var, List.getElem?_cons_zero, List.getElem?_cons_succ, sl_par, bd_ok, gz_fst, bi_len_tup, List.length_map, cmp_ne, decide_eq_false e1, truthR_bl, fl_ok]
      rfl
/-! undone, composed -/
theorem rep0 (n : Nat) : (List.replicate n [T.int 0]).flatten = (List.replicate n (0 : Int)).map T.int := by
  induction n with
  | zero => rfl
  | succ n ih => simp [List.replicate_succ, ih]
theorem inv_step {l : List Int} (h : isP l = true) {i : Nat} (hi : i < l.length) : setT ((inv l i).map T.int) (.int l[i]) (.int (i : Int)) = .ok ((inv l (i + 1)).map T.int) := by
  obtain ⟨j, hj, e⟩ := perm_at h hi
  unfold setT
  rw [e]
  dsimp only
  rw [ix_nat (by simp [inv_len]; exact hj)]
  simp [inv, hi, e]
def Sp_inverse (cf : CF) (i : Nat) : Prop := ∀ l : List Int, isP l = true → cf i [tz l] = .ok (tz (undo l))
theorem mk_inverse (h0 : Sp_checkperm cf c0) (u : ∀ a, cf' i [a] = (exs cf sb (B_inverse c0) [some (.par a), none, none, none]).res) : Sp_inverse cf' i := fun l h => by
  have hl := (perm_ints h).1
  rw [u]
  refine g_step (ρ' := [some (.par (tz l)), none, none, none]) (by simp [h0 l, h]) ?_
  refine g_step (ρ' := [some (.par (tz l)), some (.own ((inv l 0).map .int)), none, none]) ?_ ?_
  · have h1 : l.length ≤ sizeLine := le_line (by omega)
    have h2 : repOk (l.length : Int) := rep_small (by omega)
    simp [h1, h2, rep0, inv]
  refine g_for (xs := enumL (l.map .int)) (by simp) (fun i ρ => ∃ o o2, ρ = [some (.par (tz l)), some (.own ((inv l i).map .int)), o, o2]) ⟨_, _, rfl⟩ ?_ ?_
  · rintro ρ ⟨o, o2, rfl⟩
    simp [enumL_length, undo]
  · rintro i ρ hi ⟨o, o2, rfl⟩
    obtain ⟨hi', e⟩ := enum_at hi
    rw [e]
    refine ⟨[some (.par (tz l)), some (.own ((inv l i).map .int)), some (.par (.int (i : Int))), some (.par (.int l[i]))], by simp, .inl ⟨[some (.par (tz l)), some (.own ((inv l (i + 1)).map .int)), some (.par (.int (i : Int))), some (.par (.int l[i]))], ?_, _, _, rfl⟩⟩
    refine x_step (ρ' := [some (.par (tz l)), some (.own ((inv l (i + 1)).map .int)), some (.par (.int (i : Int))), some (.par (.int l[i]))]) ?_ (x_end rfl)
    simp [ownAt, inv_step h hi']
theorem com_ev {a b : List Int} {n : Int} {ρ : Env} {k1 : K3} {j : Nat} {elt : IE} {ses : List IE} (ha : IsRow n a) (hi : (evs cf ses ρ).bd (itemsT .plain) = .ok (a.map .int))
    (he : ∀ x : Int, 0 ≤ x ∧ x < n → ∃ ρ', (Tg.nm k1 j).set (.int x) (wipeE ρ (Tg.nm k1 j).slots) = some ρ' ∧ ev cf elt ρ' = .ok (.int (rg b x))) : ev cf (.comp (.nm k1 j) elt .plain ses []) ρ = .ok (lz (com a b)) := by
  have hl := ha.l
  rw [comp_map T.int a (fun x => T.int (rg b x)) hi fun x hx => he x (by have := (isP_mem ha.p).mp hx; omega)]
  simp [com]
def Sp_compose (cf : CF) (i : Nat) : Prop := ∀ (n : Int) (a b : List Int), IsRow n a → IsRow n b → cf i [tz a, tz b] = .ok (tz (com a b))
theorem mk_compose (h0 : Sp_checkperm cf c0) (u : ∀ a b, cf' i [a, b] = (exs cf sb (B_compose c0) [some (.par a), some (.par b), none]).res) : Sp_compose cf' i := fun n a b ha hb => by
  rw [u]
  have hl : a.length = b.length := by have := ha.l; have := hb.l; omega
  refine g_step (ρ' := [some (.par (tz a)), some (.par (tz b)), none]) (by simp [h0 a, ha.p]) ?_
  refine g_step (ρ' := [some (.par (tz a)), some (.par (tz b)), none]) (by simp [h0 b, hb.p]) ?_
  refine g_step (ρ' := [some (.par (tz a)), some (.par (tz b)), none]) (by simp [hl]) ?_
  have hc := com_ev (cf := cf) (ρ := [some (.par (tz a)), some (.par (tz b)), none]) (a := a) (b := b) (k1 := .par) (j := 2) (elt := .chk (.idx (.var .par 1) (.var .par 2))) (ses := [.var .par 0]) ha (by simp) (fun x hx => ⟨_, rfl, by
    have := idx_rg hb hx
    simp [this]⟩)
  refine g_ret (t := tz (com a b)) ?_ rfl
  simp only [ex, ev_bi, evs_cons, evs_nil, hc]
  simp
def Sp_after (cf : CF) (i : Nat) : Prop := ∀ (n : Int) (a b : List Int), IsRow n a → IsRow n b → cf i [tz a, tz b] = .ok (lz (com a b))
theorem mk_after (u : ∀ a b, cf' i [a, b] = (exs cf sb B_law_after [some (.par a), some (.par b), none]).res) : Sp_after cf' i := fun n a b ha hb => by
  rw [u]
  have hc := com_ev (cf := cf) (ρ := [some (.par (tz a)), some (.par (tz b)), none]) (a := a) (b := b) (k1 := .par) (j := 2) (elt := .chk (.idx (.var .par 1) (.var .par 2))) (ses := [.var .par 0]) ha (by simp) (fun x hx => ⟨_, rfl, by
    have := idx_rg hb hx
    simp [this]⟩)
  exact g_ret (t := lz (com a b)) (by simp only [ex_ret, hc, fl_ok]) rfl
theorem mk_lpairs (u : ∀ a, cf' i [a] = (exs cf sb B_law_pairs [some (.par a), none, none, none]).res) : Sp_pairs cf' i := fun n hn => by
  rw [u]
  let P : Nat → List Pr2 := fun k => (List.range k).flatMap fun a => (List.range (n - (a + 1))).map fun j => ((a : Int), ((a + 1 + j : Nat) : Int))
  have hP : P n = pairsN n := rfl
  have hlen : ∀ k, k ≤ n → (P k).length ≤ k * 6 := by
    intro k
    induction k with
    | zero => intro _; simp [P]
    | succ k ih =>
      intro hk
      have := ih (by omega)
      show ((List.range (k + 1)).flatMap _).length ≤ _
      rw [List.range_succ, List.flatMap_append, List.length_append]
      simp only [List.flatMap_cons, List.flatMap_nil, List.append_nil, List.length_map, List.length_range]
      have h2 : ((List.range k).flatMap fun a => (List.range (n - (a + 1))).map fun j => ((a : Int), ((a + 1 + j : Nat) : Int))).length ≤ k * 6 := this
      omega
  refine g_step (ρ' := [some (.par (.int (n : Int))), some (.own ((P 0).map pz)), none, none]) (by simp [P]) ?_
  refine g_for (xs := (rng n).map .int) (by simp [it_rng1 (show n ≤ 16000000 by omega)]) (fun k ρ => ∃ o o2, ρ = [some (.par (.int (n : Int))), some (.own ((P k).map pz)), o, o2]) ⟨_, _, rfl⟩ ?_ ?_
  · rintro ρ ⟨o, o2, rfl⟩
    rw [List.length_map, length_rng, hP]
    exact g_ret (t := .lst ((pairsN n).map pz)) (by simp [ownAt]) rfl
  · rintro k ρ hk ⟨o, o2, rfl⟩
    have hk' : k < n := by simpa [length_rng] using hk
    rw [rng_at]
    have e : (k : Int) + 1 = ((k + 1 : Nat) : Int) := by omega
    let Q : Nat → List Pr2 := fun m => P k ++ (List.range m).map fun j => ((k : Int), ((k + 1 + j : Nat) : Int))
    have hQ : Q (n - (k + 1)) = P (k + 1) := by
      show _ = (List.range (k + 1)).flatMap _
      rw [List.range_succ, List.flatMap_append]
      simp only [List.flatMap_cons, List.flatMap_nil, List.append_nil]
      rfl
    obtain ⟨ρ2, e2, o3, rfl⟩ := f_run (cf := cf) (sb := sb) (ρ := [some (.par (.int (n : Int))), some (.own ((P k).map pz)), some (.val (.int (k : Int))), o2]) (tg := .nm .val 3) (sk := .rng2) (ses := [(.bin .Add (.var .val 2) (.int 1)), (.var .par 0)]) (body := [.app 1 (.tup [(.var .val 2), (.var .val 3)])])
      (xs := (List.range (n - (k + 1))).map fun (j : Nat) => T.int (((k + 1 + j : Nat)) : Int)) (by
        refine its_of (ts := [.int ((k + 1 : Nat) : Int), .int (n : Int)]) ?_ (it_rng2 (by omega) (by omega))
        simp only [evs_cons, evs_nil, ev_bin, ev_var, ev_int, List.getElem?_cons_zero, List.getElem?_cons_succ, sl_val, sl_par, bd_ok, bin_add, e]) (fun m ρ => ∃ o3, ρ = [some (.par (.int (n : Int))), some (.own ((Q m).map pz)), some (.val (.int (k : Int))), o3]) ⟨o2, by simp [Q]⟩ (by
        rintro m ρ hm ⟨o3, rfl⟩
        have hm' : m < n - (k + 1) := by simpa using hm
        rw [List.getElem_map, List.getElem_range]
        have hz : (Q m).length < sizeLine := by
          refine lt_line ?_
          have := hlen k (by omega)
          simp only [Q, List.length_append, List.length_map, List.length_range]
          omega
        refine ⟨_, rfl, [some (.par (.int (n : Int))), some (.own ((Q (m + 1)).map pz)), some (.val (.int (k : Int))), some (.val (.int ((k + 1 + m : Nat) : Int)))], ?_, _, rfl⟩
        have eQ : (Q (m + 1)).map pz = (Q m).map pz ++ [pz ((k : Int), ((k + 1 + m : Nat) : Int))] := by
          simp only [Q]
          rw [List.range_succ]
          simp
        rw [eQ]
        simp only [exs_cons, exs_nil, ex_app, ev_tup, evs_cons, evs_nil, ev_var, List.getElem?_cons_zero, List.getElem?_cons_succ, List.set_cons_zero, List.set_cons_succ, sl_val, bd_ok, fl_ok, ownAt, List.length_map, hz, if_true]
        rfl)
    refine ⟨_, rfl, .inl ⟨[some (.par (.int (n : Int))), some (.own ((P (k + 1)).map pz)), some (.val (.int (k : Int))), o3], ?_, _, _, rfl⟩⟩
    rw [List.length_map, List.length_range, hQ] at e2
    exact x_step e2 (x_end rfl)
def Sp_moved (cf : CF) (i : Nat) : Prop := ∀ (n : Int) (es : List Pr2) (r : List Int), (∀ e ∈ es, 0 ≤ e.1 ∧ e.1 < e.2 ∧ e.2 < n) → IsRow n r → cf i [.tup (es.map pz), tz r] = .ok (.tup ((mvE es r).map pz)) ∧ cf i [.tup (es.map pz), lz r] = .ok (.tup ((mvE es r).map pz))
theorem mk_moved (h0 : Sp_edge cf c0) (u : ∀ a b, cf' i [a, b] = (exs cf sb (B_law_moved c0) [some (.par a), some (.par b), none]).res) : Sp_moved cf' i := fun n es r g h => by
  have key : ∀ R : T, (∀ x : Int, 0 ≤ x ∧ x < n → idxT R (.int x) = .ok (.int (rg r x))) → cf' i [.tup (es.map pz), R] = .ok (.tup ((mvE es r).map pz)) := fun R hR => by
    rw [u]
    have k := comp_map (cf := cf) (ρ := [some (.par (.tup (es.map pz))), some (.par R), none]) (tg := .nm .par 2) (elt := (.call c0 [(.idx (.var .par 1) (.idx (.var .par 2) (.int 0))), (.idx (.var .par 1) (.idx (.var .par 2) (.int 1)))])) (sk := .plain) (ses := [.var .par 0]) pz es (fun e => pz (edE (mvP r e))) (by simp)
      (fun e he => ⟨_, rfl, by
        have hk := g e he
        have i1 := hR e.1 (by omega)
        have i2 := hR e.2 (by omega)
        simp only [ev_call, ev_idx, ev_int, evs_cons, evs_nil, ev_var, List.set_cons_zero, List.set_cons_succ, wipe_cons, wipe_nil, slots_nm, List.getElem?_cons_zero, List.getElem?_cons_succ, sl_par, bd_ok, pz_fst, pz_snd, i1, i2]
        exact h0 _ _⟩)
    have e2 : (es.map fun e => pz (edE (mvP r e))) = (es.map fun e => edE (mvP r e)).map pz := by rw [List.map_map]; rfl
    rw [e2] at k
    exact g_ret (t := .tup ((mvE es r).map pz)) (by simp only [ex_ret, ev_bi, evs_cons, evs_nil, k, bd_ok, bi_sorted_pz, bi_tup_lst, fl_ok, mvE]) rfl
  exact ⟨key _ fun x hx => idx_rg h hx, key _ fun x hx => idx_rgl h hx⟩
end
end BV

/-! law_k03: what the defs compute, in plain Lean. -/
namespace Law
open PySem BV
theorem S0 (n : Nat) : Sp_isperm (callF G (n + 1)) 0 := mk_isperm (u0 n)
theorem S1 (n : Nat) : Sp_checkperm (callF G (n + 2)) 1 := mk_checkperm (S0 n) (u1 (n + 1))
theorem S2 (n : Nat) : Sp_inverse (callF G (n + 3)) 2 := mk_inverse (S1 n) (u2 (n + 2))
theorem S3 (n : Nat) : Sp_compose (callF G (n + 3)) 3 := mk_compose (S1 n) (u3 (n + 2))
theorem S4 (n : Nat) : Sp_mkgraph (callF G (n + 1)) 4 := mk_mkgraph (u4 n)
theorem S5 (n : Nat) : Sp_hasedge (callF G (n + 1)) 5 := mk_hasedge (u5 n)
theorem S6 (n : Nat) : Sp_pairs (callF G (n + 1)) 6 := mk_nodepairs (u6 n)
theorem S7 (n : Nat) : Sp_pairplace (callF G (n + 2)) 7 := mk_pairplace (S6 n) (u7 (n + 1))
theorem S8 (n : Nat) : Sp_edgetable (callF G (n + 2)) 8 := mk_edgetable (S6 n) (u8 (n + 1))
theorem S9 (n : Nat) : Sp_relabel (callF G (n + 2)) 9 := mk_relabel (S0 n) (S4 n) (u9 (n + 1))
theorem S10 (n : Nat) : Sp_cell (callF G (n + 1)) 10 := mk_cell (u10 n)
theorem S11 (n : Nat) : Sp_numbers (callF G (n + 1)) 11 := mk_numbers (u11 n)
theorem S12 : ∀ (d n : Nat), Sp_same d (callF G (n + d + 1)) 12
  | 0, n => mk_same 0 (fun t d' e => by omega) (u12 n)
  | d + 1, n => mk_same (d + 1) (fun t d' e hp hd => by
      cases e
      exact S12 d n t hp hd) (u12 (n + d + 1))
theorem S13 (n : Nat) : Sp_fact (callF G (n + 1)) 13 := mk_fact (u13 n)
theorem S14 (n : Nat) : Sp_lperm (callF G (n + 2)) 14 := mk_lperm (S13 n) (u14 (n + 1))
theorem S15 (n : Nat) : Sp_after (callF G (n + 1)) 15 := mk_after (u15 n)
theorem S16 (n : Nat) : Sp_pairs (callF G (n + 1)) 16 := mk_lpairs (u16 n)
theorem S17 (n : Nat) : Sp_edge (callF G (n + 1)) 17 := mk_edge (u17 n)
theorem S18 (n : Nat) : Sp_moved (callF G (n + 2)) 18 := mk_moved (S17 n) (u18 (n + 1))
/-! told triples -/
abbrev Tr := Int × Int × Pr2
def t3 (x : Tr) : T := .tup [.int x.1, .int x.2.1, pz x.2.2]
theorem t3_toD (x : Tr) : (t3 x).toD = .tuple [.int x.1, .int x.2.1, .tuple [.int x.2.2.1, .int x.2.2.2]] := by simp [t3, T.toD, toDL, pz_toD]
theorem t3_sortOk (l : List Tr) : sortOk (l.map t3) = true := by
  unfold sortOk
  rw [Bool.and_eq_true, List.all_eq_true, List.all_eq_true]
  refine ⟨fun x hx => ?_, fun x hx => ?_⟩
  · obtain ⟨e, _, rfl⟩ := List.mem_map.mp hx
    have h1 : (t3 e).flat = true := by simp [t3, T.flat, flatL, pz_flat]
    have h2 : SeqAt.shaped (t3 e).toD = true := by
      rw [t3_toD]
      simp [SeqAt.shaped, PyData.canLay0, PyData.canLayAll0, PyData.depth, PyData.depthAll]
    rw [h1, h2, Bool.true_and, Bool.true_and, List.all_eq_true]
    intro y hy
    obtain ⟨e', _, rfl⟩ := List.mem_map.mp hy
    simp [t3_toD, PySem.W.alike, PySem.W.alikeAll]
  · obtain ⟨e, _, rfl⟩ := List.mem_map.mp hx
    rfl
theorem t3_sorted (l : List Tr) : ∃ m : List Tr, m.Perm l ∧ biT .sorted [.lst (l.map t3)] = .ok (.lst (m.map t3)) := by
  cases l with
  | nil => exact ⟨[], List.Perm.refl _, by simp [biT, listOf?, ints?, sortInt]⟩
  | cons e l =>
    have h : ints? ((e :: l).map t3) = none := by simp [ints?, t3]
    have hm : (((e :: l) : List Tr).mergeSort fun a b => PySem.W.dataLe false T.toD (t3 a) (t3 b)).map t3 = sortT ((e :: l).map t3) := List.map_mergeSort fun a _ b _ => rfl
    exact ⟨_, List.mergeSort_perm _ _, by simp only [biT, listOf?, Option.bind_some, h, t3_sortOk, if_true]; rw [← hm]⟩
def ent (x : Tr) : Pr2 := if x.2.1 = 1 then (x.2.2.2, x.2.2.1) else x.2.2
theorem edE_ent {n : Nat} {x : Tr} (h : x.2.2 ∈ pairsN n) : edE (ent x) = x.2.2 := by
  have hk := pairsN_mem.mp h
  unfold ent edE
  split
  · rw [ed_comm]; exact ed_lt hk.2.1
  · exact ed_lt hk.2.1
theorem ok_ent {n : Nat} {x : Tr} (h : x.2.2 ∈ pairsN n) : okE n (ent x) = true := by
  have hk := pairsN_mem.mp h
  unfold ent okE
  split <;> (rw [decide_eq_true_eq]; omega)
theorem f19 (k n : Nat) (c lev : Int) (hn : n ≤ 6) : ∃ es : List Pr2, (∀ e ∈ es, okE n e = true) ∧ (es.map edE).Nodup ∧ es.length ≤ 15 ∧ callF G (k + 2) 19 [.int c, .int (n : Int), .int lev] = .ok (.lst (es.map pz)) := by
  have hpl := pairsN_len hn
  obtain ⟨N, hNl, hNr, hN⟩ := S11 k c (pairsN n).length (by omega)
  have g16 := S16 k n hn
  -- the told
  obtain ⟨ρ2, e2, Tl, o6, rfl, hsub⟩ := f_run (cf := callF G (k + 1)) (sb := sub? subs) (ρ := [some (.par (.int c)), some (.par (.int (n : Int))), some (.par (.int lev)), some (.val (.lst ((pairsN n).map pz))), some (.val (lz N)), some (.own (([] : List Tr).map t3)), none, none, none, none]) (tg := .nm .val 6) (sk := .rng1) (ses := [(.bi .len [(.var .val 3)])])
    (body := [.ite (.cmp .Lt (.bin .Mod (.bi .toInt [(.idx (.var .val 4) (.var .val 6))]) (.int 3)) (.var .par 2)) [.app 5 (.tup [(.bin .FloorDiv (.bi .toInt [(.idx (.var .val 4) (.var .val 6))]) (.int 6)), (.bin .Mod (.bi .toInt [(.bin .FloorDiv (.idx (.var .val 4) (.var .val 6)) (.int 3))]) (.int 2)), (.idx (.var .val 3) (.var .val 6))])] []])
    (xs := (rng (pairsN n).length).map .int) (by
      refine its_of (ts := [.int ((pairsN n).length : Int)]) ?_ (it_rng1 (by omega))
      simp) (fun i ρ => ∃ (Tl : List Tr) (o6 : Option Sl), ρ = [some (.par (.int c)), some (.par (.int (n : Int))), some (.par (.int lev)), some (.val (.lst ((pairsN n).map pz))), some (.val (lz N)), some (.own (Tl.map t3)), o6, none, none, none] ∧ (Tl.map fun x => x.2.2).Sublist ((pairsN n).take i)) ⟨[], none, rfl, by simp⟩ (by
      rintro i ρ hi ⟨Tl, o6, rfl, hs⟩
      have hi' : i < (pairsN n).length := by simpa [length_rng] using hi
      rw [rng_at]
      have ix := idx_lz (l := N) (i := i) (by omega)
      have ip : idxT (.lst ((pairsN n).map pz)) (.int (i : Int)) = .ok (pz (pairsN n)[i]) := by
        rw [idx_lst, at_nat (by simpa using hi')]
        simp
      have hz : Tl.length < sizeLine := by
        have := hs.length_le
        rw [List.length_map, List.length_take] at this
        exact lt_line (by omega)
      have ht : (pairsN n).take (i + 1) = (pairsN n).take i ++ [(pairsN n)[i]] := by
        rw [List.take_add_one]
        simp [hi']
      refine ⟨_, rfl, ?_⟩
      by_cases hlt : Int.fmod N[i] 3 < lev
      · refine ⟨[some (.par (.int c)), some (.par (.int (n : Int))), some (.par (.int lev)), some (.val (.lst ((pairsN n).map pz))), some (.val (lz N)), some (.own ((Tl ++ [(Int.fdiv N[i] 6, Int.fmod (Int.fdiv N[i] 3) 2, (pairsN n)[i])]).map t3)), some (.val (.int (i : Int))), none, none, none], ?_, _, _, rfl, ?_⟩
        · refine x_step ?_ (x_end rfl)
          simp [ix, ip, hlt, ownAt, hz, t3]
        · rw [ht, List.map_append]
          exact List.Sublist.append hs (List.Sublist.refl _)
      · refine ⟨[some (.par (.int c)), some (.par (.int (n : Int))), some (.par (.int lev)), some (.val (.lst ((pairsN n).map pz))), some (.val (lz N)), some (.own (Tl.map t3)), some (.val (.int (i : Int))), none, none, none], ?_, _, _, rfl, ?_⟩
        · refine x_step ?_ (x_end rfl)
          simp [ix, hlt]
        · rw [ht]
          exact hs.trans (List.sublist_append_left _ _))
  rw [List.length_map, length_rng, List.take_length] at hsub
  obtain ⟨Sl', hperm, hsort⟩ := t3_sorted Tl
  have hmem : ∀ x ∈ Sl', x.2.2 ∈ pairsN n := fun x hx => hsub.subset (List.mem_map.mpr ⟨x, hperm.mem_iff.mp hx, rfl⟩)
  have hlen : Sl'.length ≤ 15 := by
    have := hsub.length_le
    rw [List.length_map] at this
    rw [hperm.length_eq]
    omega
  refine ⟨Sl'.map ent, ?_, ?_, by simpa using hlen, ?_⟩
  · intro e he
    obtain ⟨x, hx, rfl⟩ := List.mem_map.mp he
    exact ok_ent (hmem x hx)
  · have em : (Sl'.map ent).map edE = Sl'.map fun x : Tr => x.2.2 := by
      rw [List.map_map]
      exact List.map_congr_left fun x hx => edE_ent (hmem x hx)
    rw [em]
    exact ((hperm.map _).nodup_iff).mpr (hsub.nodup (pairsN_nd n))
  · rw [u19]
    refine g_step (ρ' := [some (.par (.int c)), some (.par (.int (n : Int))), some (.par (.int lev)), some (.val (.lst ((pairsN n).map pz))), none, none, none, none, none, none]) (by simp [g16]) ?_
    refine g_step (ρ' := [some (.par (.int c)), some (.par (.int (n : Int))), some (.par (.int lev)), some (.val (.lst ((pairsN n).map pz))), some (.val (lz N)), none, none, none, none, none]) (by simp [hN]) ?_
    refine g_step (ρ' := [some (.par (.int c)), some (.par (.int (n : Int))), some (.par (.int lev)), some (.val (.lst ((pairsN n).map pz))), some (.val (lz N)), some (.own (([] : List Tr).map t3)), none, none, none, none]) (by simp) ?_
    refine g_step e2 ?_
    refine g_step (ρ' := [some (.par (.int c)), some (.par (.int (n : Int))), some (.par (.int lev)), some (.val (.lst ((pairsN n).map pz))), some (.val (lz N)), some (.own (Tl.map t3)), o6, some (.own (((Sl'.map ent).take 0).map pz)), none, none]) (by simp) ?_
    refine g_for (xs := Sl'.map t3) (by
      refine its_of (ts := [.lst (Sl'.map t3)]) ?_ rfl
      simp only [evs_cons, evs_nil, ev_bi, ev_var, List.getElem?_cons_zero, List.getElem?_cons_succ, sl_own, bd_ok, hsort]) (fun i ρ => ∃ o8 o9, ρ = [some (.par (.int c)), some (.par (.int (n : Int))), some (.par (.int lev)), some (.val (.lst ((pairsN n).map pz))), some (.val (lz N)), some (.own (Tl.map t3)), o6, some (.own (((Sl'.map ent).take i).map pz)), o8, o9]) ⟨_, _, rfl⟩ ?_ ?_
    · rintro ρ ⟨o8, o9, rfl⟩
      rw [List.length_map, List.take_of_length_le (by simp)]
      exact g_ret (t := .lst ((Sl'.map ent).map pz)) (by simp [ownAt]) rfl
    · rintro i ρ hi ⟨o8, o9, rfl⟩
      have hi' : i < Sl'.length := by simpa using hi
      rw [List.getElem_map]
      have ht : (Sl'.map ent).take (i + 1) = (Sl'.map ent).take i ++ [ent Sl'[i]] := by
        rw [List.take_add_one]
        simp [hi']
      rw [ht]
      generalize Sl'[i] = x
      have hz : ((Sl'.map ent).take i).length < sizeLine := by
        refine lt_line ?_
        rw [List.length_take, List.length_map]
        omega
      have i1 : idxT (t3 x) (.int 1) = .ok (.int x.2.1) := rfl
      have i2 : idxT (t3 x) (.int 2) = .ok (pz x.2.2) := rfl
      refine ⟨_, rfl, .inl ⟨[some (.par (.int c)), some (.par (.int (n : Int))), some (.par (.int lev)), some (.val (.lst ((pairsN n).map pz))), some (.val (lz N)), some (.own (Tl.map t3)), o6, some (.own (((Sl'.map ent).take i ++ [ent x]).map pz)), some (.val (t3 x)), some (.val (pz (ent x)))], ?_, _, _, rfl⟩⟩
      refine x_step (ρ' := [some (.par (.int c)), some (.par (.int (n : Int))), some (.par (.int lev)), some (.val (.lst ((pairsN n).map pz))), some (.val (lz N)), some (.own (Tl.map t3)), o6, some (.own (((Sl'.map ent).take i).map pz)), some (.val (t3 x)), some (.val (pz x.2.2))]) (by simp [i2]) ?_
      refine x_step (ρ' := [some (.par (.int c)), some (.par (.int (n : Int))), some (.par (.int lev)), some (.val (.lst ((pairsN n).map pz))), some (.val (lz N)), some (.own (Tl.map t3)), o6, some (.own (((Sl'.map ent).take i).map pz)), some (.val (t3 x)), some (.val (pz (ent x)))]) ?_ (x_step ?_ (x_end rfl))
      · by_cases h1 : x.2.1 = 1
        · have : pz (ent x) = .tup [.int x.2.2.2, .int x.2.2.1] := by simp [ent, h1, pz]
          simp [i1, h1, this, pz_fst, pz_snd]
        · have : ent x = x.2.2 := by simp [ent, h1]
          simp [i1, h1, this]
      · simp only [List.length_take, List.length_map] at hz
        simp [ownAt, hz]
theorem md (x : Int) {k : Nat} (h : 0 < k) : ∃ j : Nat, j < k ∧ binT .Mod (.int x) (.int (k : Int)) = .ok (.int (j : Int)) := by
  obtain ⟨j, hj, e⟩ := mod_small x h
  exact ⟨j, hj, by rw [bin_mod, if_pos (by omega), e]⟩
theorem row_at {r : List Int} {k : Nat} (h : k < r.length) : ∃ x : Int, idxT (lz r) (.int (k : Int)) = .ok (.int x) := ⟨_, idx_lz h⟩
theorem pzs_at {es : List Pr2} {k : Nat} (h : k < es.length) : ∃ e : Pr2, idxT (.lst (es.map pz)) (.int (k : Int)) = .ok (pz e) := ⟨es[k], by rw [idx_lst, at_nat (by simpa using h)]; simp⟩
theorem f20 (k : Nat) (n : Nat) (hn : 0 < n) (es : List Pr2) (hl : es.length ≤ 1000) (r : List Int) (hr : r.length = 5) : ∃ es' : List Pr2, es'.length = es.length + 1 ∧ callF G (k + 1) 20 [.lst (es.map pz), .int (n : Int), lz r] = .ok (.lst (es'.map pz)) := by
  obtain ⟨x0, r0⟩ := row_at (r := r) (k := 0) (by omega)
  obtain ⟨x1, r1⟩ := row_at (r := r) (k := 1) (by omega)
  obtain ⟨x2, r2⟩ := row_at (r := r) (k := 2) (by omega)
  obtain ⟨x3, r3⟩ := row_at (r := r) (k := 3) (by omega)
  obtain ⟨x4, r4⟩ := row_at (r := r) (k := 4) (by omega)
  obtain ⟨m1, _, hm1⟩ := md x1 hn
  obtain ⟨m2, hm2', hm2⟩ := md x2 (show 0 < 5 by decide)
  obtain ⟨pl, hpl, hp⟩ := md x4 (show 0 < es.length + 1 by omega)
  simp only [Int.natCast_zero, Int.natCast_one, Int.cast_ofNat_Int] at r0 r1 r2 r3 r4 hm2
  have hL : ((es.length : Nat) : Int) + 1 = ((es.length + 1 : Nat) : Int) := by omega
  generalize hR : lz r = R at *
  generalize hE : T.lst (es.map pz) = E at *
  have hlen : biT .len [E] = .ok (.int (es.length : Int)) := by rw [← hE, bi_len_lst, List.length_map]
  -- the bad edge
  have h5 : ∃ (e : Pr2) (o6 : Option Sl), ex (callF G k) (sub? subs) (b20.getD 3 .pass) [some (.par E), some (.par (.int (n : Int))), some (.par R), some (.val (.int (Int.fmod x0 4))), some (.val (.int (m1 : Int))), some (.val (pz ((m1 : Int), (m1 : Int)))), none, none] = .nx [some (.par E), some (.par (.int (n : Int))), some (.par R), some (.val (.int (Int.fmod x0 4))), some (.val (.int (m1 : Int))), some (.val (pz e)), o6, none] := by
    let O : List Int := [(n : Int), -1, (n : Int) + 1, 99, -6]
    obtain ⟨y, hy⟩ := row_at (r := O) (k := m2) hm2'
    by_cases hc : Int.fmod x0 4 = 0 ∨ (1 < Int.fmod x0 4 ∧ es.length = 0)
    · refine ⟨((m1 : Int), y), some (.val (lz O)), ?_⟩
      have hcond : (ev (callF G k) (.or (.cmp .Eq (.var .val 3) (.int 0)) (.and (.cmp .Gt (.var .val 3) (.int 1)) (.cmp .Eq (.bi .len [(.var .par 0)]) (.int 0)))) [some (.par E), some (.par (.int (n : Int))), some (.par R), some (.val (.int (Int.fmod x0 4))), some (.val (.int (m1 : Int))), some (.val (pz ((m1 : Int), (m1 : Int)))), none, none]) = .ok (.bl true) := by
        rcases hc with h | ⟨h, h2⟩
        · simp [h]
        · have h3 : ¬ Int.fmod x0 4 = 0 := by omega
          simp [h3, h, hlen, h2]
      show ex _ _ (.ite _ _ _) _ = _
      simp only [ex_ite, hcond, truthR_bl, fl_ok, if_true]
      refine x_step (ρ' := [some (.par E), some (.par (.int (n : Int))), some (.par R), some (.val (.int (Int.fmod x0 4))), some (.val (.int (m1 : Int))), some (.val (pz ((m1 : Int), (m1 : Int)))), some (.val (lz O)), none]) (by simp [O, T.flat, freshE, flatI, flatL]) (x_step ?_ (x_end rfl))
      simp only [ex_asg, ev_tup, ev_idx, ev_bin, ev_bi, ev_int, evs_cons, evs_nil, ev_var, List.getElem?_cons_zero, List.getElem?_cons_succ, List.set_cons_zero, List.set_cons_succ, sl_par, sl_val, bd_ok, r2, bi_int, hm2, hy, fl_ok, pz]
    · have hcond : (ev (callF G k) (.or (.cmp .Eq (.var .val 3) (.int 0)) (.and (.cmp .Gt (.var .val 3) (.int 1)) (.cmp .Eq (.bi .len [(.var .par 0)]) (.int 0)))) [some (.par E), some (.par (.int (n : Int))), some (.par R), some (.val (.int (Int.fmod x0 4))), some (.val (.int (m1 : Int))), some (.val (pz ((m1 : Int), (m1 : Int)))), none, none]) = .ok (.bl false) := by
        have h3 : ¬ Int.fmod x0 4 = 0 := fun z => hc (.inl z)
        by_cases h1 : 1 < Int.fmod x0 4
        · have h2 : ¬ (es.length = 0) := fun z => hc (.inr ⟨h1, z⟩)
          simp [h3, h1, hlen, h2]
        · simp [h3, h1]
      by_cases h1 : 1 < Int.fmod x0 4
      · have h2 : 0 < es.length := by
          by_cases h : es.length = 0
          · exact absurd (.inr ⟨h1, h⟩) hc
          · omega
        obtain ⟨j, hj, ej⟩ := md x2 h2
        obtain ⟨e, he⟩ := pzs_at hj
        rw [hE] at he
        refine ⟨e, none, ?_⟩
        show ex _ _ (.ite _ _ _) _ = _
        simp only [ex_ite, hcond, truthR_bl, fl_ok, Bool.false_eq_true, if_false, exs_cons, exs_nil]
        simp [h1, r2, hlen, ej, he, pz_flat]
      · refine ⟨((m1 : Int), (m1 : Int)), none, ?_⟩
        show ex _ _ (.ite _ _ _) _ = _
        simp only [ex_ite, hcond, truthR_bl, fl_ok, Bool.false_eq_true, if_false, exs_cons, exs_nil]
        simp [h1]
  obtain ⟨e, o6, h5⟩ := h5
  have h6 : ∃ e' : Pr2, ex (callF G k) (sub? subs) (b20.getD 4 .pass) [some (.par E), some (.par (.int (n : Int))), some (.par R), some (.val (.int (Int.fmod x0 4))), some (.val (.int (m1 : Int))), some (.val (pz e)), o6, none] = .nx [some (.par E), some (.par (.int (n : Int))), some (.par R), some (.val (.int (Int.fmod x0 4))), some (.val (.int (m1 : Int))), some (.val (pz e')), o6, none] := by
    by_cases hc : Int.fmod x3 2 = 1
    · refine ⟨(e.2, e.1), ?_⟩
      show ex _ _ (.ite _ _ _) _ = _
      simp [r3, hc, pz_fst, pz_snd]
      simp [pz]
    · refine ⟨e, ?_⟩
      show ex _ _ (.ite _ _ _) _ = _
      simp [r3, hc]
  obtain ⟨e', h6⟩ := h6
  refine ⟨es.take pl ++ [e'] ++ es.drop pl, by simp; omega, ?_⟩
  rw [u20]
  refine g_step (ρ' := [some (.par E), some (.par (.int (n : Int))), some (.par R), some (.val (.int (Int.fmod x0 4))), none, none, none, none]) (by simp [r0]) ?_
  refine g_step (ρ' := [some (.par E), some (.par (.int (n : Int))), some (.par R), some (.val (.int (Int.fmod x0 4))), some (.val (.int (m1 : Int))), none, none, none]) (by simp only [ex_asg, ev_chk, ev_idx, ev_bin, ev_bi, ev_int, evs_cons, evs_nil, ev_var, List.getElem?_cons_zero, List.getElem?_cons_succ, List.set_cons_zero, List.set_cons_succ, sl_par, bd_ok, r1, bi_int, hm1, fl_ok]; rfl) ?_
  refine g_step (ρ' := [some (.par E), some (.par (.int (n : Int))), some (.par R), some (.val (.int (Int.fmod x0 4))), some (.val (.int (m1 : Int))), some (.val (pz ((m1 : Int), (m1 : Int)))), none, none]) (by simp [pz]) ?_
  refine g_step h5 ?_
  refine g_step h6 ?_
  refine g_step (ρ' := [some (.par E), some (.par (.int (n : Int))), some (.par R), some (.val (.int (Int.fmod x0 4))), some (.val (.int (m1 : Int))), some (.val (pz e')), o6, some (.val (.int (pl : Int)))]) (by simp only [ex_asg, ev_idx, ev_bin, ev_bi, ev_int, evs_cons, evs_nil, ev_var, List.getElem?_cons_zero, List.getElem?_cons_succ, List.set_cons_zero, List.set_cons_succ, sl_par, bd_ok, r4, bi_int, hlen, bin_add, hL, hp, fl_ok]) ?_
  have c1 := cut_to (es.map pz) pl
  have c2 := cut_from (es.map pz) pl
  have hz : ∀ xs : List T, xs.length ≤ 2000 → xs.length ≤ sizeLine := fun xs h => le_line (by omega)
  have hfl : flatI (.lst ((es.take pl ++ [e'] ++ es.drop pl).map pz)) = true := flatL_map _ _ fun e _ => pz_flat e
  refine g_ret (t := .lst ((es.take pl ++ [e'] ++ es.drop pl).map pz)) ?_ rfl
  rw [← hE]
  simp only [ex_ret, ev_chk, ev_bin, ev_slice, ev_lst, evs_cons, evs_nil, ev_var, List.getElem?_cons_zero, List.getElem?_cons_succ, sl_par, sl_val, bd_ok, opt_nil, opt_one, slice_lst, c1, c2, bin_cat]
  rw [if_pos (hz _ (by simp; omega))]
  simp only [bd_ok, bin_cat]
  rw [if_pos (hz _ (by simp; omega))]
  have et : List.take pl (es.map pz) ++ [pz e'] ++ List.drop pl (es.map pz) = (es.take pl ++ [e'] ++ es.drop pl).map pz := by
    rw [← List.map_take, ← List.map_drop]
    simp
  rw [et]
  have hfl2 : (T.lst ((es.take pl ++ [e'] ++ es.drop pl).map pz)).flat = false := by simp [T.flat]
  simp only [bd_ok, hfl, hfl2, freshE, Bool.and_self, Bool.true_and, if_true, Bool.false_eq_true, if_false, fl_ok]
theorem f21 (k : Nat) (x : Int) (n : Nat) (hn : 0 < n) : ∃ y : Int, callF G (k + 1) 21 [.int x, .int (n : Int)] = .ok (.int y) := by
  obtain ⟨m1, h1, e1⟩ := md (Int.fdiv x 30) (show 0 < 4 by decide)
  obtain ⟨m2, h2, e2⟩ := md (Int.fdiv x 30) hn
  let O : List Int := [-1, (n : Int), (n : Int) + 1, 99]
  obtain ⟨y, hy⟩ := row_at (r := O) (k := m1) h1
  simp only [Int.cast_ofNat_Int] at e1
  have hd : binT .FloorDiv (.int x) (.int 30) = .ok (.int (Int.fdiv x 30)) := by rw [bin_div, if_pos (by decide)]
  rw [u21]
  by_cases hc : Int.fmod x 30 = 0
  · refine ⟨y, ?_⟩
    refine g_step (ρ' := [some (.par (.int x)), some (.par (.int (n : Int))), some (.val (lz O))]) (by simp [O, T.flat, freshE, flatI, flatL]) ?_
    refine g_ite (k := true) (by simp [hc]) (fun _ => ?_) (fun z => by cases z)
    refine g_ret (t := .int y) ?_ rfl
    simp only [ex_ret, ev_idx, ev_bin, ev_bi, ev_int, evs_cons, evs_nil, ev_var, List.getElem?_cons_zero, List.getElem?_cons_succ, sl_par, sl_val, bd_ok, hd, bi_int, e1, hy, fl_ok]
  · refine ⟨(m2 : Int), ?_⟩
    refine g_step (ρ' := [some (.par (.int x)), some (.par (.int (n : Int))), some (.val (lz O))]) (by simp [O, T.flat, freshE, flatI, flatL]) ?_
    refine g_ite (k := false) (by simp [hc]) (fun z => by cases z) (fun _ => ?_)
    refine g_ret (t := .int (m2 : Int)) ?_ rfl
    simp only [ex_ret, ev_chk, ev_idx, ev_bin, ev_bi, ev_int, evs_cons, evs_nil, ev_var, List.getElem?_cons_zero, List.getElem?_cons_succ, sl_par, sl_val, bd_ok, hd, bi_int, e2, flat_int, if_true, fl_ok]
theorem f22 (k : Nat) (c : Int) (n : Nat) (hn : 0 < n) : ∃ es : List Pr2, es.length ≤ 6 ∧ callF G (k + 2) 22 [.int c, .int (n : Int)] = .ok (.lst (es.map pz)) := by
  obtain ⟨N, hNl, hNr, hN⟩ := S11 k c 13 (by omega)
  simp only [Int.cast_ofNat_Int] at hN
  obtain ⟨x0, i0⟩ := row_at (r := N) (k := 0) (by omega)
  obtain ⟨m, hm, em⟩ := md x0 (show 0 < 7 by decide)
  simp only [Int.natCast_zero, Int.cast_ofNat_Int] at i0 em
  obtain ⟨ρ2, e2, es, o, rfl, hl⟩ := f_run (cf := callF G (k + 1)) (sb := sub? subs) (ρ := [some (.par (.int c)), some (.par (.int (n : Int))), some (.val (lz N)), some (.own (([] : List Pr2).map pz)), none]) (tg := .nm .val 4) (sk := .rng1) (ses := [(.bin .Mod (.bi .toInt [(.idx (.var .val 2) (.int 0))]) (.int 7))])
    (body := [.app 3 (.tup [(.call 21 [(.idx (.var .val 2) (.bin .Add (.int 1) (.bin .Mult (.int 2) (.var .val 4)))), (.var .par 1)]), (.call 21 [(.idx (.var .val 2) (.bin .Add (.int 2) (.bin .Mult (.int 2) (.var .val 4)))), (.var .par 1)])])])
    (xs := (rng m).map .int) (its_of (ts := [.int (m : Int)]) (by
      simp only [ev_idx, ev_bin, ev_bi, ev_int, evs_cons, evs_nil, ev_var, List.getElem?_cons_zero, List.getElem?_cons_succ, sl_val, bd_ok, i0, bi_int, em]) (it_rng1 (by omega)))
    (fun i ρ => ∃ (es : List Pr2) (o : Option Sl), ρ = [some (.par (.int c)), some (.par (.int (n : Int))), some (.val (lz N)), some (.own (es.map pz)), o] ∧ es.length = i) ⟨[], none, rfl, rfl⟩ (by
      rintro i ρ hi ⟨es, o, rfl, hl⟩
      have hi' : i < m := by simpa [length_rng] using hi
      rw [rng_at]
      obtain ⟨x1, i1⟩ := row_at (r := N) (k := 1 + 2 * i) (by omega)
      obtain ⟨x2, i2⟩ := row_at (r := N) (k := 2 + 2 * i) (by omega)
      have q1 : (1 : Int) + 2 * (i : Int) = ((1 + 2 * i : Nat) : Int) := by omega
      have q2 : (2 : Int) + 2 * (i : Int) = ((2 + 2 * i : Nat) : Int) := by omega
      obtain ⟨y1, j1⟩ := f21 k x1 n hn
      obtain ⟨y2, j2⟩ := f21 k x2 n hn
      have hz : es.length < sizeLine := lt_line (by omega)
      have hmu : mulOk 2 (i : Int) := mul_small' (by omega)
      refine ⟨_, rfl, [some (.par (.int c)), some (.par (.int (n : Int))), some (.val (lz N)), some (.own ((es ++ [(y1, y2)]).map pz)), some (.val (.int (i : Int)))], ?_, _, _, rfl, by simp [hl]⟩
      refine x_step ?_ (x_end rfl)
      have hmul : binT .Mult (.int 2) (.int (i : Int)) = .ok (.int (2 * (i : Int))) := by rw [bin_mul, if_pos hmu]
      simp only [ex_app, ownAt, ev_tup, ev_call, ev_idx, ev_bin, ev_bi, ev_int, evs_cons, evs_nil, ev_var, List.getElem?_cons_zero, List.getElem?_cons_succ, List.set_cons_zero, List.set_cons_succ, sl_par, sl_val, bd_ok, hmul, bin_add, q1, q2, i1, i2, j1, j2, fl_ok, List.length_map, hz, if_true, List.map_append, List.map_cons, List.map_nil, pz])
  rw [List.length_map, length_rng] at hl
  refine ⟨es, by omega, ?_⟩
  rw [u22]
  refine g_step (ρ' := [some (.par (.int c)), some (.par (.int (n : Int))), some (.val (lz N)), none, none]) (by simp [hN]) ?_
  refine g_step (ρ' := [some (.par (.int c)), some (.par (.int (n : Int))), some (.val (lz N)), some (.own (([] : List Pr2).map pz)), none]) (by simp) ?_
  refine g_step e2 ?_
  exact g_ret (t := .lst (es.map pz)) (by simp [ownAt]) rfl
def due (n : Int) (es : List Pr2) : T := match mkG n es [] with
  | some f => gz n (sortP f)
  | none => .non
theorem f23 (k : Nat) (n : Int) (es : List Pr2) (hl : es.length ≤ 1000) : callF G (k + 2) 23 [.int n, .lst (es.map pz)] = .ok (due n es) := by
  rw [u23]
  unfold due
  refine g_step (ρ' := [some (.par (.int n)), some (.par (.lst (es.map pz))), some (.own (([] : List Pr2).map pz)), none, none]) (by simp) ?_
  refine g_for (xs := es.map pz) (by simp) (fun i ρ => ∃ f o o2, ρ = [some (.par (.int n)), some (.par (.lst (es.map pz))), some (.own (f.map pz)), o, o2] ∧ f.length = i ∧ mkG n (es.drop i) f = mkG n es []) ⟨[], _, _, rfl, rfl, rfl⟩ ?_ ?_
  · rintro ρ ⟨f, o, o2, rfl, h1, h2⟩
    rw [List.length_map, List.drop_length] at h2
    simp only [mkG] at h2
    rw [← h2]
    dsimp only
    refine g_ret (t := gz n (sortP f)) ?_ rfl
    have := flat_gz n (sortP f)
    simp only [gz] at this
    simp [bi_sorted_pz, gz, this]
  · rintro i ρ hi ⟨f, o, o2, rfl, h1, h2⟩
    have hi' : i < es.length := by simpa using hi
    rw [List.getElem_map]
    rw [List.drop_eq_getElem_cons hi'] at h2
    generalize es[i] = e at h2
    have hz : f.length < sizeLine := lt_line (by omega)
    have hw : (decide ((edE e).1 = (edE e).2) || (decide ((edE e).1 < 0) || (decide (n ≤ (edE e).2) || f.contains (edE e)))) = !(okE n e && !f.contains (edE e)) := by
      have : okE n e = !(decide ((edE e).1 = (edE e).2) || (decide ((edE e).1 < 0) || decide (n ≤ (edE e).2))) := by
        unfold okE edE
        rw [Bool.eq_iff_iff]
        simp only [decide_eq_true_eq, Bool.not_eq_true', Bool.or_eq_false_iff, decide_eq_false_iff_not]
        rcases ed_cases e.1 e.2 with ⟨q, _⟩ | ⟨q, _⟩ <;> rw [q] <;> dsimp only <;> omega
      rw [this]
      cases decide ((edE e).1 = (edE e).2) <;> cases decide ((edE e).1 < 0) <;> cases decide (n ≤ (edE e).2) <;> cases f.contains (edE e) <;> rfl
    have hcond : ev (callF G (k + 1)) (.or (.cmp .Eq (.idx (.var .val 4) (.int 0)) (.idx (.var .val 4) (.int 1))) (.or (.cmp .Lt (.idx (.var .val 4) (.int 0)) (.int 0)) (.or (.cmp .GtE (.idx (.var .val 4) (.int 1)) (.var .par 0)) (.cmp .In (.var .val 4) (.var .own 2))))) [some (.par (.int n)), some (.par (.lst (es.map pz))), some (.own (f.map pz)), some (.par (pz e)), some (.val (pz (edE e)))] = .ok (.bl (!(okE n e && !f.contains (edE e)))) := by
      simp only [ev_or, ev_cmp, ev_idx, ev_int, ev_var, List.getElem?_cons_zero, List.getElem?_cons_succ, sl_par, sl_val, sl_own, bd_ok, pz_fst, pz_snd, cmp_lt, cmp_ge, cmp_eq, in_lpz, truthR_bl, or_if', hw]
    have h17 := S17 k e.1 e.2
    simp only [mkG] at h2
    refine ⟨_, rfl, ?_⟩
    have st1 : ex (callF G (k + 1)) (sub? subs) (.asg 4 (.call 17 [(.idx (.var .par 3) (.int 0)), (.idx (.var .par 3) (.int 1))])) [some (.par (.int n)), some (.par (.lst (es.map pz))), some (.own (f.map pz)), some (.par (pz e)), o2] = .nx [some (.par (.int n)), some (.par (.lst (es.map pz))), some (.own (f.map pz)), some (.par (pz e)), some (.val (pz (edE e)))] := by
      simp only [ex_asg, ev_call, ev_idx, ev_int, evs_cons, evs_nil, ev_var, List.getElem?_cons_zero, List.getElem?_cons_succ, List.set_cons_zero, List.set_cons_succ, sl_par, bd_ok, pz_fst, pz_snd, h17, fl_ok, edE]
    by_cases hc : (okE n e && !f.contains (edE e)) = true
    · have hc' := hc
      rw [Bool.and_eq_true, Bool.not_eq_true'] at hc'
      rw [if_pos hc'.1, if_neg (by rw [hc'.2]; decide)] at h2
      refine .inl ⟨[some (.par (.int n)), some (.par (.lst (es.map pz))), some (.own ((f ++ [edE e]).map pz)), some (.par (pz e)), some (.val (pz (edE e)))], ?_, _, _, _, rfl, by simp [h1], h2⟩
      refine x_step st1 ?_
      refine x_step (ρ' := [some (.par (.int n)), some (.par (.lst (es.map pz))), some (.own (f.map pz)), some (.par (pz e)), some (.val (pz (edE e)))]) (by simp only [ex_ite, hcond, hc, truthR_bl, fl_ok]; rfl) ?_
      simp [ownAt, hz]
    · have hn : mkG n es [] = none := by
        rw [← h2]
        by_cases h3 : okE n e = true
        · rw [if_pos h3]
          rw [h3, Bool.true_and] at hc
          rw [if_pos (by simpa using hc)]
        · rw [if_neg h3]
      rw [hn]
      refine .inr ⟨.non, ?_, rfl⟩
      have hc' : (okE n e && !f.contains (edE e)) = false := by simpa using hc
      have st2 : ex (callF G (k + 1)) (sub? subs) (.ite (.or (.cmp .Eq (.idx (.var .val 4) (.int 0)) (.idx (.var .val 4) (.int 1))) (.or (.cmp .Lt (.idx (.var .val 4) (.int 0)) (.int 0)) (.or (.cmp .GtE (.idx (.var .val 4) (.int 1)) (.var .par 0)) (.cmp .In (.var .val 4) (.var .own 2))))) [.ret .non] []) [some (.par (.int n)), some (.par (.lst (es.map pz))), some (.own (f.map pz)), some (.par (pz e)), some (.val (pz (edE e)))] = .rt .non := by
        simp only [ex_ite, hcond, hc', truthR_bl, fl_ok]
        rfl
      refine x_step st1 ?_
      simp only [exs_cons, st2]
theorem hsg : sub? subs "BadGraph" "BadGraph" = some true := by decide +kernel
theorem hsp : sub? subs "BadPermutation" "BadPermutation" = some true := by decide +kernel
theorem f24 (k : Nat) (n : Int) (es : List Pr2) (hl : es.length ≤ 1000) (h : gr n es = .exc "BadGraph" []) : callF G (k + 2) 24 [.int n, .lst (es.map pz)] = .ok (.bl true) := by
  rw [u24]
  have := S4 k n es hl
  rw [h] at this
  simp [b24, this, ca_ex, hsg]
theorem f27 (k : Nat) (n : Int) (es : List Pr2) (r : List Int) (h : ¬ IsRow n r) : callF G (k + 3) 27 [gz n es, tz r] = .ok (.bl true) := by
  rw [u27]
  have := (S9 k n es r).2 h
  simp [b27, this, ca_ex, hsp]
theorem plain_gz (n : Int) {es : List Pr2} (h : es.length ≤ 1000) : plainD (gz n es) = true := by
  have h1 : plainD (.tup (es.map pz)) = true := plain_tup _ es (by omega) fun x _ => plain_pz x
  rw [gz, plainD, plainL, plainL, plainL, h1, plain_int]
  rfl
theorem dep_gz (n : Int) (es : List Pr2) : dep (gz n es) ≤ 3 := by
  have h1 := dep_tup pz 1 es fun x _ => dep_pz x
  have h2 := dep_int n
  rw [gz, dep, depL, depL, depL]
  omega
theorem same_gz (k : Nat) (n : Int) {es : List Pr2} (h : es.length ≤ 1000) : callF G (k + 4) 12 [gz n es, gz n es] = .ok (.bl true) := S12 3 k _ (plain_gz n h) (dep_gz n es)
theorem same_bl (k : Nat) (b : Bool) : callF G (k + 1) 12 [.bl b, .bl b] = .ok (.bl true) := S12 0 k (.bl b) rfl (by simp [dep])
theorem same_int (k : Nat) (b : Int) : callF G (k + 1) 12 [.int b, .int b] = .ok (.bl true) := S12 0 k (.int b) (plain_int b) (dep_int b)
theorem same_lpz (k : Nat) {es : List Pr2} (h : es.length ≤ 1000) : callF G (k + 3) 12 [.lst (es.map pz), .lst (es.map pz)] = .ok (.bl true) := S12 2 k _ (plain_lst _ es (by omega) fun x _ => plain_pz x) (dep_lst _ 1 es fun x _ => dep_pz x)
theorem same_tab (k : Nat) (es ps : List Pr2) (h : ps.length ≤ 1000) : callF G (k + 2) 12 [tabT es ps, tabT es ps] = .ok (.bl true) := S12 1 k _ (plain_tup _ ps (by omega) fun x _ => plain_int _) (dep_tup _ 0 ps fun x _ => dep_int _)
theorem f25 (k n : Nat) (hn : n ≤ 6) (es : List Pr2) : callF G (k + 4) 25 [gz (n : Int) es, gz (n : Int) es] = .ok (.bl true) := by
  rw [u25]
  have hpl := pairsN_len hn
  have g16 := S16 (k + 2) n hn
  have g6 := S6 (k + 2) n hn
  have gs := same_lpz k (es := pairsN n) (by omega)
  have g8 := S8 (k + 1) n es hn
  have hz : (pairsN n).length < sizeLine := lt_line (by omega)
  have gfst := gz_fst (n : Int) es
  have gsnd := gz_snd (n : Int) es
  have g5 := S5 (k + 2) (n : Int) es
  generalize hg : gz (n : Int) es = g at *
  let W : List T := ((pairsN n ++ [((0 : Int), (n : Int))]).map pz).reverse
  refine g_step (ρ' := [some (.par g), some (.par g), some (.val (.int (n : Int))), none, none, none, none, none]) (by simp [gfst]) ?_
  refine g_step (ρ' := [some (.par g), some (.par g), some (.val (.int (n : Int))), some (.val (.lst ((pairsN n).map pz))), none, none, none, none]) (by simp [g16]) ?_
  refine g_step (ρ' := [some (.par g), some (.par g), some (.val (.int (n : Int))), some (.val (.lst ((pairsN n).map pz))), some (.own ((pairsN n).map pz)), none, none, none]) (by simp [g6]) ?_
  refine g_step (ρ' := [some (.par g), some (.par g), some (.val (.int (n : Int))), some (.val (.lst ((pairsN n).map pz))), some (.own ((pairsN n).map pz)), none, none, none]) (by simp [gs]) ?_
  refine g_step (ρ' := [some (.par g), some (.par g), some (.val (.int (n : Int))), some (.val (.lst ((pairsN n).map pz))), some (.own ((pairsN n ++ [((0 : Int), (n : Int))]).map pz)), none, none, none]) (by simp [ownAt, hz, pz]) ?_
  refine g_step (ρ' := [some (.par g), some (.par g), some (.val (.int (n : Int))), some (.val (.lst ((pairsN n).map pz))), some (.own W), none, none, none]) (by simp [ownAt, W]) ?_
  refine g_step (ρ' := [some (.par g), some (.par g), some (.val (.int (n : Int))), some (.val (.lst ((pairsN n).map pz))), some (.own W), none, none, none]) (by simp [g6, gs]) ?_
  refine g_for (xs := (rng n).map .int) (its_of (ts := [.int (n : Int)]) (by simp) (it_rng1 (by omega))) (fun i ρ => ∃ o5 o6, ρ = [some (.par g), some (.par g), some (.val (.int (n : Int))), some (.val (.lst ((pairsN n).map pz))), some (.own W), o5, o6, none]) ⟨_, _, rfl⟩ ?_ ?_
  · rintro ρ ⟨o5, o6, rfl⟩
    have hc := comp_map (cf := callF G (k + 3)) (ρ := [some (.par g), some (.par g), some (.val (.int (n : Int))), some (.val (.lst ((pairsN n).map pz))), some (.own W), o5, o6, none]) (tg := .nm .val 7) (elt := (.bi .toInt [(.cmp .In (.var .val 7) (.idx (.var .par 1) (.int 1)))])) (sk := .plain) (ses := [(.var .val 3)]) pz (pairsN n) (fun p => T.int (if es.contains p = true then 1 else 0)) (by simp)
      (fun p hp => ⟨_, rfl, by simp only [ev_cmp, ev_idx, ev_bi, ev_int, evs_cons, evs_nil, ev_var, List.set_cons_zero, List.set_cons_succ, wipe_cons, wipe_nil, slots_nm, List.getElem?_cons_zero, List.getElem?_cons_succ, sl_par, sl_val, bd_ok, gsnd, in_tpz, bi_intb]⟩)
    have gt := same_tab (k + 1) es (pairsN n) (by omega)
    refine g_ret (t := .bl true) ?_ rfl
    simp only [tabT] at gt g8
    simp only [ex_ret, ev_call, ev_bi, evs_cons, evs_nil, hc, ev_var, List.getElem?_cons_zero, List.getElem?_cons_succ, sl_par, bd_ok, g8, bi_tup_lst, gt, fl_ok]
  · rintro i ρ hi ⟨o5, o6, rfl⟩
    have hi' : i < n := by simpa [length_rng] using hi
    rw [rng_at]
    obtain ⟨ρ2, e2, o6', rfl⟩ := f_run (cf := callF G (k + 3)) (sb := sub? subs) (ρ := [some (.par g), some (.par g), some (.val (.int (n : Int))), some (.val (.lst ((pairsN n).map pz))), some (.own W), some (.val (.int (i : Int))), o6, none]) (tg := .nm .val 6) (sk := .rng1) (ses := [(.var .val 2)])
      (body := [.ite (.not (.call 12 [(.call 5 [(.var .par 0), (.var .val 5), (.var .val 6)]), (.cmp .In (.call 17 [(.var .val 5), (.var .val 6)]) (.idx (.var .par 1) (.int 1)))])) [.ret (.bl false)] [], .ite (.and (.cmp .NotEq (.var .val 5) (.var .val 6)) (.not (.call 12 [(.call 7 [(.var .val 2), (.var .val 5), (.var .val 6)]), (.meth .index (.var .val 3) [(.call 17 [(.var .val 5), (.var .val 6)])])]))) [.ret (.bl false)] []])
      (xs := (rng n).map .int) (its_of (ts := [.int (n : Int)]) (by simp) (it_rng1 (by omega))) (fun _ ρ => ∃ o6, ρ = [some (.par g), some (.par g), some (.val (.int (n : Int))), some (.val (.lst ((pairsN n).map pz))), some (.own W), some (.val (.int (i : Int))), o6, none]) ⟨o6, rfl⟩ (by
        rintro j ρ hj ⟨o6, rfl⟩
        have hj' : j < n := by simpa [length_rng] using hj
        rw [rng_at]
        have h17 := S17 (k + 2) (i : Int) (j : Int)
        have sb := same_bl (k + 2) (es.contains (ed (i : Int) (j : Int)))
        refine ⟨_, rfl, [some (.par g), some (.par g), some (.val (.int (n : Int))), some (.val (.lst ((pairsN n).map pz))), some (.own W), some (.val (.int (i : Int))), some (.val (.int (j : Int))), none], ?_, _, rfl⟩
        refine x_step (ρ' := [some (.par g), some (.par g), some (.val (.int (n : Int))), some (.val (.lst ((pairsN n).map pz))), some (.own W), some (.val (.int (i : Int))), some (.val (.int (j : Int))), none]) (by
          simp only [ex_ite, ev_not, ev_cmp, ev_call, ev_idx, ev_int, evs_cons, evs_nil, ev_var, List.set_cons_zero, List.set_cons_succ, List.getElem?_cons_zero, List.getElem?_cons_succ, sl_par, sl_val, bd_ok, g5, h17, gsnd, in_tpz, sb, truthR_bl, fl_ok]
          rfl) (x_step ?_ (x_end rfl))
        by_cases hij : (i : Int) = (j : Int)
        · simp only [ex_ite, ev_and, ev_not, ev_cmp, ev_var, List.set_cons_zero, List.set_cons_succ, List.getElem?_cons_zero, List.getElem?_cons_succ, sl_par, sl_val, bd_ok, cmp_ne, decide_eq_true hij, truthR_bl, fl_ok]
          rfl
        · have hm : ed (i : Int) (j : Int) ∈ pairsN n := by
            rw [pairsN_mem]
            rcases ed_cases (i : Int) (j : Int) with ⟨q, _⟩ | ⟨q, _⟩ <;> rw [q] <;> dsimp only <;> omega
          have h7 := S7 (k + 1) n (i : Int) (j : Int) hn hm
          have si := same_int (k + 2) (plc (pairsN n) (ed (i : Int) (j : Int)) : Int)
          simp only [ex_ite, ev_and, ev_not, ev_cmp, ev_call, ev_meth, evs_cons, evs_nil, ev_var, List.set_cons_zero, List.set_cons_succ, List.getElem?_cons_zero, List.getElem?_cons_succ, sl_par, sl_val, bd_ok, cmp_ne, decide_eq_false hij, truthR_bl, h7, h17, rv_lst, ix_lpz hm, Bool.not_false, if_true, si, fl_ok]
          rfl)
    exact ⟨_, rfl, .inl ⟨_, x_step e2 (x_end rfl), _, _, rfl⟩⟩
theorem due_len {n : Int} {es f : List Pr2} (h : mkG n es [] = some f) : (sortP f).length = es.length := by
  obtain ⟨h1, _, _⟩ := mkG_inv (by simp) h
  rw [(sortP_p f).length_eq, h1]
  simp
theorem f26 (k n : Nat) (h1 : 1 ≤ n) (hn : n ≤ 6) (es : List Pr2) (hl : es.length ≤ 1000) : callF G (k + 5) 26 [.int (n : Int), .lst (es.map pz)] = .ok (.bl true) := by
  rw [u26]
  have g23 := f23 (k + 2) (n : Int) es hl
  have gs := same_lpz (k + 1) hl
  have g4 := S4 (k + 3) (n : Int) es hl
  unfold gr at g4
  rw [if_pos ⟨by omega, by omega⟩] at g4
  have hc := comp_map (cf := callF G (k + 4)) (ρ := [some (.par (.int (n : Int))), some (.par (.lst (es.map pz))), some (.val (due n es)), none, none, none]) (tg := .nm .par 5) (elt := (.chk (.var .par 5))) (sk := .plain) (ses := [(.var .par 1)]) pz es pz (by simp) (fun p hp => ⟨_, rfl, by simp [pz_flat]⟩)
  refine g_step (ρ' := [some (.par (.int (n : Int))), some (.par (.lst (es.map pz))), some (.val (due n es)), none, none, none]) (by simp [g23]) ?_
  refine g_step (ρ' := [some (.par (.int (n : Int))), some (.par (.lst (es.map pz))), some (.val (due n es)), some (.val (.lst (es.map pz))), none, none]) (by simp only [ex_asg, hc, fl_ok]; rfl) ?_
  cases hm : mkG (n : Int) es [] with
  | none =>
    have hd : due (n : Int) es = .non := by unfold due; rw [hm]
    have g24 := f24 (k + 2) (n : Int) es hl (by unfold gr; rw [if_pos ⟨by omega, by omega⟩, hm])
    rw [hd]
    refine g_step (ρ' := [some (.par (.int (n : Int))), some (.par (.lst (es.map pz))), some (.val .non), some (.val (.lst (es.map pz))), none, none]) (by simp [cmpT, isNone, g24]) ?_
    exact g_ret (t := .bl true) (by simp [gs]) rfl
  | some f =>
    have hd : due (n : Int) es = gz n (sortP f) := by unfold due; rw [hm]
    rw [hm] at g4
    dsimp only at g4
    have hlen := due_len hm
    have gg := same_gz k (n : Int) (es := sortP f) (by omega)
    have g25 := f25 k n hn (sortP f)
    rw [hd]
    have hcond : cmpT .Is (gz (n : Int) (sortP f)) .non = .ok false := rfl
    refine g_step (ρ' := [some (.par (.int (n : Int))), some (.par (.lst (es.map pz))), some (.val (gz n (sortP f))), some (.val (.lst (es.map pz))), some (.val (gz n (sortP f))), none]) ?_ ?_
    · simp only [ex_ite, ev_cmp, ev_non, ev_var, List.getElem?_cons_zero, List.getElem?_cons_succ, sl_val, bd_ok, hcond, truthR_bl, fl_ok, Bool.false_eq_true, if_false]
      refine x_step (ρ' := [some (.par (.int (n : Int))), some (.par (.lst (es.map pz))), some (.val (gz n (sortP f))), some (.val (.lst (es.map pz))), some (.val (gz n (sortP f))), none]) (by simp [g4]) (x_step ?_ (x_end rfl))
      simp [gg, g25]
    · exact g_ret (t := .bl true) (by simp [gs]) rfl
theorem row_of {s m : Nat} (hs : s ≤ 6) (hm : m < fN s) : IsRow (s : Int) (unr s (rng s) m) := ⟨unr_isP hs hm, by rw [unr_len]⟩
theorem f28 (k n : Nat) (h1 : 1 ≤ n) (hn : n ≤ 6) (es : List Pr2) (hl : es.length ≤ 1000) (g : IsG (n : Int) es) (r : List Int) (hr : r.length = 5) : callF G (k + 6) 28 [gz (n : Int) es, gz (n : Int) es, lz r] = .ok (.bl true) := by
  obtain ⟨x0, r0⟩ := row_at (r := r) (k := 0) (by omega)
  obtain ⟨x1, r1⟩ := row_at (r := r) (k := 1) (by omega)
  obtain ⟨x2, r2⟩ := row_at (r := r) (k := 2) (by omega)
  obtain ⟨x3, r3⟩ := row_at (r := r) (k := 3) (by omega)
  simp only [Int.natCast_zero, Int.natCast_one, Int.cast_ofNat_Int] at r0 r1 r2 r3
  have hp := fN_pos n
  obtain ⟨m0, h0, e0⟩ := md x0 hp
  obtain ⟨m1, h1', e1⟩ := md x1 hp
  obtain ⟨at', hat, e2⟩ := md x2 (show 0 < n by omega)
  obtain ⟨m3, h3, e3⟩ := md x3 (show 0 < 5 by decide)
  simp only [Int.cast_ofNat_Int] at e3
  have g13 := S13 (k + 4) n (by omega)
  have gp := S14 (k + 3) n m0 (by omega) h0
  have gq := S14 (k + 3) n m1 (by omega) h1'
  have hrp := row_of hn h0
  have hrq := row_of hn h1'
  have hpl : (unr n (rng n) m0).length = n := unr_len n _ m0
  generalize unr n (rng n) m0 = p at *
  generalize unr n (rng n) m1 = q at *
  have hrc := com_row hrp hrq
  have gE := mv_isG g hrp
  have lE : ∀ {es : List Pr2} {r : List Int}, (mvE es r).length = es.length := fun {es r} => by
    unfold mvE
    rw [(sortP_p _).length_eq, List.length_map]
  have i1 : 1 ≤ (n : Int) := by omega
  have i6 : (n : Int) ≤ 6 := by omega
  have k18 := S18 (k + 3) (n : Int) es
  have m1' := (k18 p g.ok hrp).1
  have m2' := (k18 (com p q) g.ok hrc).2
  have m3' := (k18 q g.ok hrq).1
  have g15 := S15 (k + 4) (n : Int) p q hrp hrq
  have g9 := fun es r => S9 (k + 3) (n : Int) es r
  have t1 := (g9 es p).1 g hl i1 i6 hrp
  have t2 := (g9 (mvE es p) q).1 gE (by rw [lE]; exact hl) i1 i6 hrq
  rw [mvE_com g hrp] at t2
  have t3 := (g9 es (com p q)).1 g hl i1 i6 hrc
  have t4 := (g9 (mvE es p) (undo p)).1 gE (by rw [lE]; exact hl) i1 i6 (undo_row hrp)
  rw [mvE_undo g hrp] at t4
  have t5 := (g9 es q).1 g hl i1 i6 hrq
  have g3 := S3 (k + 2) (n : Int) p q hrp hrq
  have g2 := S2 (k + 2) p hrp.p
  have sg := fun es (h : es.length ≤ 1000) => same_gz (k + 1) (n : Int) (es := es) h
  have s1 := sg (mvE es p) (by rw [lE]; exact hl)
  have s2 := sg (mvE es (com p q)) (by rw [lE]; exact hl)
  have s3 := sg es hl
  have s4 := sg (mvE es q) (by rw [lE]; exact hl)
  have w1 := f25 (k + 1) n hn (mvE es p)
  have g27 := fun r (h : ¬ IsRow (n : Int) r) => f27 (k + 2) (n : Int) es r h
  have z1 : T.tup [.int (n : Int), .tup ((mvE es p).map pz)] = gz (n : Int) (mvE es p) := rfl
  have z2 : T.tup [.int (n : Int), .tup ((mvE es (com p q)).map pz)] = gz (n : Int) (mvE es (com p q)) := rfl
  have z3 : T.tup [.int (n : Int), .tup ((mvE es q).map pz)] = gz (n : Int) (mvE es q) := rfl
  have gfst := gz_fst (n : Int) es
  have gsnd := gz_snd (n : Int) es
  generalize gz (n : Int) es = D at *
  generalize gz (n : Int) (mvE es p) = D1 at *
  generalize gz (n : Int) (mvE es (com p q)) = D2 at *
  generalize gz (n : Int) (mvE es q) = D3 at *
  rw [u28]
  refine g_step (ρ' := [some (.par D), some (.par D), some (.par (lz r)), some (.val (.int (n : Int))), none, none, none, none, none, none, none, none, none]) (by simp [gfst]) ?_
  refine g_step (ρ' := [some (.par D), some (.par D), some (.par (lz r)), some (.val (.int (n : Int))), some (.val (tz p)), none, none, none, none, none, none, none, none]) (by
    simp only [ex_asg, ev_idx, ev_call, ev_bin, ev_bi, evs_cons, evs_nil, ev_var, ev_int, List.set_cons_zero, List.set_cons_succ, List.getElem?_cons_zero, List.getElem?_cons_succ, sl_val, sl_par, bd_ok, r0, bi_int, g13, e0, gp, bi_tup_lst, fl_ok]) ?_
  refine g_step (ρ' := [some (.par D), some (.par D), some (.par (lz r)), some (.val (.int (n : Int))), some (.val (tz p)), some (.val (tz q)), none, none, none, none, none, none, none]) (by
    simp only [ex_asg, ev_idx, ev_call, ev_bin, ev_bi, evs_cons, evs_nil, ev_var, ev_int, List.set_cons_zero, List.set_cons_succ, List.getElem?_cons_zero, List.getElem?_cons_succ, sl_val, sl_par, bd_ok, r1, bi_int, g13, e1, gq, bi_tup_lst, fl_ok]) ?_
  refine g_step (ρ' := [some (.par D), some (.par D), some (.par (lz r)), some (.val (.int (n : Int))), some (.val (tz p)), some (.val (tz q)), some (.val D1), none, none, none, none, none, none]) (by
    simp only [ex_asg, ev_tup, ev_idx, ev_call, evs_cons, evs_nil, ev_var, ev_int, List.set_cons_zero, List.set_cons_succ, List.getElem?_cons_zero, List.getElem?_cons_succ, sl_val, sl_par, bd_ok, gsnd, m1', z1, fl_ok]) ?_
  refine g_step (ρ' := [some (.par D), some (.par D), some (.par (lz r)), some (.val (.int (n : Int))), some (.val (tz p)), some (.val (tz q)), some (.val D1), some (.val D2), none, none, none, none, none]) (by
    simp only [ex_asg, ev_tup, ev_idx, ev_call, evs_cons, evs_nil, ev_var, ev_int, List.set_cons_zero, List.set_cons_succ, List.getElem?_cons_zero, List.getElem?_cons_succ, sl_val, sl_par, bd_ok, gsnd, g15, m2', z2, fl_ok]) ?_
  refine g_step (ρ' := [some (.par D), some (.par D), some (.par (lz r)), some (.val (.int (n : Int))), some (.val (tz p)), some (.val (tz q)), some (.val D1), some (.val D2), some (.val D1), none, none, none, none]) (by
    simp only [ex_asg, ev_call, evs_cons, evs_nil, ev_var, List.set_cons_zero, List.set_cons_succ, List.getElem?_cons_zero, List.getElem?_cons_succ, sl_val, sl_par, bd_ok, t1, fl_ok]) ?_
  refine g_step (ρ' := [some (.par D), some (.par D), some (.par (lz r)), some (.val (.int (n : Int))), some (.val (tz p)), some (.val (tz q)), some (.val D1), some (.val D2), some (.val D1), none, none, none, none]) (by
    simp [s1, w1]) ?_
  refine g_step (ρ' := [some (.par D), some (.par D), some (.par (lz r)), some (.val (.int (n : Int))), some (.val (tz p)), some (.val (tz q)), some (.val D1), some (.val D2), some (.val D1), none, none, none, none]) (by
    simp [t2, g3, t3, s2]) ?_
  refine g_step (ρ' := [some (.par D), some (.par D), some (.par (lz r)), some (.val (.int (n : Int))), some (.val (tz p)), some (.val (tz q)), some (.val D1), some (.val D2), some (.val D1), none, none, none, none]) (by
    simp [g2, t4, s3]) ?_
  refine g_step (ρ' := [some (.par D), some (.par D), some (.par (lz r)), some (.val (.int (n : Int))), some (.val (tz p)), some (.val (tz q)), some (.val D1), some (.val D2), some (.val D1), some (.val (.int (at' : Int))), none, none, none]) (by
    simp only [ex_asg, ev_idx, ev_bin, ev_bi, evs_cons, evs_nil, ev_var, ev_int, List.set_cons_zero, List.set_cons_succ, List.getElem?_cons_zero, List.getElem?_cons_succ, sl_val, sl_par, bd_ok, r2, bi_int, e2, fl_ok]) ?_
  have hatp : at' < p.length := by omega
  have ip := idx_tzD hatp
  obtain ⟨m4, h4, e4⟩ := md (p.getD at' 0 + 1) (show 0 < n by omega)
  let O : List Int := [-1, (n : Int), 99, (m4 : Int), -2]
  obtain ⟨w, hw⟩ := row_at (r := O) (k := m3) h3
  refine g_step (ρ' := [some (.par D), some (.par D), some (.par (lz r)), some (.val (.int (n : Int))), some (.val (tz p)), some (.val (tz q)), some (.val D1), some (.val D2), some (.val D1), some (.val (.int (at' : Int))), some (.val (lz O)), none, none]) (by
    simp only [ex_asg, ev_lst, ev_idx, ev_bin, ev_bi, evs_cons, evs_nil, ev_var, ev_int, List.set_cons_zero, List.set_cons_succ, List.getElem?_cons_zero, List.getElem?_cons_succ, sl_val, sl_par, bd_ok, bin_sub, bin_add, ip, bi_int, e4, fl_ok]
    rfl) ?_
  generalize lz O = OT at *
  refine g_step (ρ' := [some (.par D), some (.par D), some (.par (lz r)), some (.val (.int (n : Int))), some (.val (tz p)), some (.val (tz q)), some (.val D1), some (.val D2), some (.val D1), some (.val (.int (at' : Int))), some (.val OT), some (.val (.int w)), none]) (by
    simp only [ex_asg, ev_idx, ev_bin, ev_bi, evs_cons, evs_nil, ev_var, ev_int, List.set_cons_zero, List.set_cons_succ, List.getElem?_cons_zero, List.getElem?_cons_succ, sl_val, sl_par, bd_ok, r3, bi_int, e3, hw, fl_ok]) ?_
  have hx : p.getD at' 0 < n := by
    have := (isP_mem hrp.p).mp (List.getElem_mem hatp)
    rw [BV.getD_at hatp]
    omega
  have hw2 : ∃ w2 : Int, w2 ≠ p.getD at' 0 ∧ ex (callF G (k + 5)) (sub? subs) (.ite (.cmp .Eq (.var .val 11) (.idx (.var .val 4) (.var .val 9))) [.asg 11 (.bin .Add (.var .val 3) (.int 1))] []) [some (.par D), some (.par D), some (.par (lz r)), some (.val (.int (n : Int))), some (.val (tz p)), some (.val (tz q)), some (.val D1), some (.val D2), some (.val D1), some (.val (.int (at' : Int))), some (.val OT), some (.val (.int w)), none] =
      .nx [some (.par D), some (.par D), some (.par (lz r)), some (.val (.int (n : Int))), some (.val (tz p)), some (.val (tz q)), some (.val D1), some (.val D2), some (.val D1), some (.val (.int (at' : Int))), some (.val OT), some (.val (.int w2)), none] := by
    by_cases hq : w = p.getD at' 0
    · refine ⟨(n : Int) + 1, by omega, ?_⟩
      simp only [ex_ite, ev_cmp, ev_idx, ev_var, List.getElem?_cons_zero, List.getElem?_cons_succ, sl_val, bd_ok, ip, cmp_eq, decide_eq_true hq, truthR_bl, fl_ok, if_true]
      simp
    · refine ⟨w, hq, ?_⟩
      simp only [ex_ite, ev_cmp, ev_idx, ev_var, List.getElem?_cons_zero, List.getElem?_cons_succ, sl_val, bd_ok, ip, cmp_eq, decide_eq_false hq, truthR_bl, fl_ok, Bool.false_eq_true, if_false]
      simp
  obtain ⟨w2, hne, st⟩ := hw2
  refine g_step st ?_
  -- the bad rows
  have esp : p = p.take at' ++ p.getD at' 0 :: p.drop (at' + 1) := by
    rw [BV.getD_at hatp, List.getElem_cons_drop, List.take_append_drop]
  let B : List (List Int) := [p.take at' ++ [w2] ++ p.drop (at' + 1), p ++ [(n : Int)], p.take at' ++ p.drop (at' + 1), p ++ p, []]
  have hB : ∀ b ∈ B, ¬ IsRow (n : Int) b := by
    intro b hb hrow
    have hl' := hrow.l
    simp only [B, List.mem_cons, List.not_mem_nil, or_false] at hb
    rcases hb with rfl | rfl | rfl | rfl | rfl
    · have h2 := isP_changed (by rw [← esp]; exact hrp.p) hne
      have h3' := hrow.p
      rw [List.append_assoc, List.singleton_append, h2] at h3'
      cases h3'
    · simp at hl'; omega
    · simp at hl'; omega
    · simp at hl'; omega
    · simp at hl'; omega
  have c1 := cut_to (p.map T.int) at'
  have c2 := cut_from (p.map T.int) (at' + 1)
  have ea : (at' : Int) + 1 = ((at' + 1 : Nat) : Int) := by omega
  have hz : ∀ xs : List T, xs.length ≤ 20 → xs.length ≤ sizeLine := fun xs h => le_line (by omega)
  rw [← List.map_take] at c1
  rw [← List.map_drop] at c2
  have lt1 : (p.take at').length ≤ 6 := by rw [List.length_take]; omega
  have lt2 : (p.drop (at' + 1)).length ≤ 6 := by rw [List.length_drop]; omega
  have ct : ∀ a b : List Int, a.length ≤ 8 → b.length ≤ 8 → binT .Add (tz a) (tz b) = .ok (tz (a ++ b)) := fun a b h1 h2 => by
    show binT .Add (.tup _) (.tup _) = _
    rw [bin_catT, if_pos (hz _ (by simp; omega))]
    show Res.ok (T.tup _) = Res.ok (T.tup _)
    rw [List.map_append]
  have sl1 : sliceT (tz p) none (some (at' : Int)) = .ok (tz (p.take at')) := by
    show sliceT (.tup _) _ _ = _
    rw [slice_tup, c1]
  have sl2 : sliceT (tz p) (some ((at' + 1 : Nat) : Int)) none = .ok (tz (p.drop (at' + 1))) := by
    show sliceT (.tup _) _ _ = _
    rw [slice_tup, c2]
  have tw : T.tup [.int w2] = tz [w2] := rfl
  have tn : T.tup [.int (n : Int)] = tz [(n : Int)] := rfl
  have tnil : T.tup [] = tz [] := rfl
  have k1 := ct (p.take at') [w2] (by omega) (by simp)
  have k2 := ct (p.take at' ++ [w2]) (p.drop (at' + 1)) (by simp; omega) (by omega)
  have k3 := ct p [(n : Int)] (by omega) (by simp)
  have k4 := ct (p.take at') (p.drop (at' + 1)) (by omega) (by omega)
  have k5 := ct p p (by omega) (by omega)
  refine g_for (xs := B.map fun b => tz b) ?_ (fun i ρ => ∃ o12, ρ = [some (.par D), some (.par D), some (.par (lz r)), some (.val (.int (n : Int))), some (.val (tz p)), some (.val (tz q)), some (.val D1), some (.val D2), some (.val D1), some (.val (.int (at' : Int))), some (.val OT), some (.val (.int w2)), o12]) ⟨_, rfl⟩ ?_ ?_
  · refine its_of (ts := [.lst (B.map fun b => tz b)]) ?_ rfl
    simp only [evs_cons, evs_nil, ev_lst, ev_tup, ev_slice, ev_bin, ev_var, ev_int, List.getElem?_cons_zero, List.getElem?_cons_succ, sl_val, bd_ok, opt_nil, opt_one, bin_add, ea, tw, tn, tnil]
    simp only [sl1, sl2, bd_ok, k1, k2, k3, k4, k5, tnil]
    rfl
  · rintro ρ ⟨o12, rfl⟩
    refine g_ret (t := .bl true) ?_ rfl
    simp only [ex_ret, ev_tup, ev_idx, ev_call, evs_cons, evs_nil, ev_var, ev_int, List.getElem?_cons_zero, List.getElem?_cons_succ, sl_val, sl_par, bd_ok, gsnd, t5, m3', z3, s4, fl_ok]
  · rintro i ρ hi ⟨o12, rfl⟩
    rw [List.getElem_map]
    have hm := hB (B[i]'(by simpa using hi)) (List.getElem_mem _)
    generalize B[i]'(by simpa using hi) = b at hm
    exact ⟨_, rfl, .inl ⟨[some (.par D), some (.par D), some (.par (lz r)), some (.val (.int (n : Int))), some (.val (tz p)), some (.val (tz q)), some (.val D1), some (.val D2), some (.val D1), some (.val (.int (at' : Int))), some (.val OT), some (.val (.int w2)), some (.val (tz b))], by simp [g27 b hm], _, rfl⟩⟩
def fuel : Nat := 20
theorem law_true (ns : List Int) (_ : ns.length ≤ 63) (_ : ∀ z ∈ ns, Builtin.Int.intBits z ≤ 1048576) : callF G (fuel + 1) 29 [.scr (ns.map T.int)] = .ok (.bl true) := by
  show callF G 21 29 _ = _
  obtain ⟨c0, hc0⟩ := S10 19 ns 0 (by omega)
  obtain ⟨c1, hc1⟩ := S10 19 ns 1 (by omega)
  obtain ⟨c2, hc2⟩ := S10 19 ns 2 (by omega)
  obtain ⟨c3, hc3⟩ := S10 19 ns 3 (by omega)
  obtain ⟨c4, hc4⟩ := S10 19 ns 4 (by omega)
  obtain ⟨N, hNl, hNr, hN⟩ := S11 19 c0 14 (by omega)
  obtain ⟨N5, hN5l, _, hN5⟩ := S11 19 c4 5 (by omega)
  rw [u29]
  generalize hscr : T.scr (ns.map T.int) = scr at *
  obtain ⟨x0, n0⟩ := row_at (r := N) (k := 0) (by omega)
  obtain ⟨x1, n1⟩ := row_at (r := N) (k := 1) (by omega)
  obtain ⟨x7, n7⟩ := row_at (r := N) (k := 7) (by omega)
  obtain ⟨x8, n8⟩ := row_at (r := N) (k := 8) (by omega)
  obtain ⟨x13, n13⟩ := row_at (r := N) (k := 13) (by omega)
  obtain ⟨m0, hm0, e0⟩ := md x0 (show 0 < 6 by decide)
  obtain ⟨m1, hm1, e1⟩ := md x1 (show 0 < 6 by decide)
  obtain ⟨m7, hm7, e7⟩ := md x7 (show 0 < 5 by decide)
  obtain ⟨m8, hm8, e8⟩ := md x8 (show 0 < 90 by decide)
  obtain ⟨m13, hm13, e13⟩ := md x13 (show 0 < 6 by decide)
  simp only [Int.natCast_zero, Int.natCast_one, Int.cast_ofNat_Int] at n0 n1 n7 n8 n13 e0 e1 e7 e8 e13 hc0 hc1 hc2 hc3 hc4 hN hN5
  let LV : List Int := [0, 1, 1, 2, 2, 3]
  obtain ⟨lev, hlev⟩ := row_at (r := LV) (k := m1) hm1
  have en : (1 : Int) + (m0 : Int) = ((1 + m0 : Nat) : Int) := by omega
  have en2 : (1 : Int) + (m13 : Int) = ((1 + m13 : Nat) : Int) := by omega
  obtain ⟨n, hn⟩ : ∃ n : Nat, n = 1 + m0 := ⟨_, rfl⟩
  obtain ⟨n', hn'⟩ : ∃ n : Nat, n = 1 + m13 := ⟨_, rfl⟩
  rw [← hn] at en
  rw [← hn'] at en2
  have b1 : 1 ≤ n := by omega
  have b6 : n ≤ 6 := by omega
  have b1' : 1 ≤ n' := by omega
  have b6' : n' ≤ 6 := by omega
  obtain ⟨es, hok, hnd, hel, hes⟩ := f19 18 n c1 lev b6
  obtain ⟨sp, hspl, hsp⟩ := f20 19 n b1 es (by omega) ((N.drop 2).take 5) (by rw [List.length_take, List.length_drop]; omega)
  obtain ⟨ag, hagl, hag⟩ := f20 19 n b1 es (by omega) N5 (by omega)
  obtain ⟨rw_, hrwl, hrw⟩ := f22 18 c2 n b1
  obtain ⟨ot, hotl, hot⟩ := f22 18 c3 n' b1'
  have g26 := fun (es : List Pr2) (h : es.length ≤ 1000) => f26 15 n b1 b6 es h
  have g26' := f26 15 n' b1' b6' ot (by omega)
  have hE := isG_of (n := (n : Int)) hok hnd
  have hmk : mkG (n : Int) es [] = some (es.map edE) := mkG_ok hok (by simpa using hnd)
  have g4 := S4 19 (n : Int) es (by omega)
  unfold gr at g4
  rw [if_pos ⟨by omega, by omega⟩, hmk] at g4
  dsimp only at g4
  have g23 := f23 18 (n : Int) es (by omega)
  unfold due at g23
  rw [hmk] at g23
  dsimp only at g23
  have hEl : (sortP (es.map edE)).length ≤ 1000 := by rw [(sortP_p _).length_eq, List.length_map]; omega
  have g28 := f28 14 n b1 b6 _ hEl hE (N.drop 9) (by rw [List.length_drop]; omega)
  have g25 := f25 16 n b6 (sortP (es.map edE))
  have gg := same_gz 16 (n : Int) hEl
  have g24 := fun (w : Int) (h : w < 1 ∨ 6 < w) (es : List Pr2) (hl : es.length ≤ 1000) => f24 18 w es hl (by unfold gr; rw [if_neg (by omega)])
  generalize gz (n : Int) (sortP (es.map edE)) = D at *
  have cn := cut_nat (N.map T.int) 2 7
  have cf9 := cut_from (N.map T.int) 9
  simp only [Int.cast_ofNat_Int] at cn cf9
  have sl1 : sliceT (lz N) (some 2) (some 7) = .ok (lz ((N.drop 2).take 5)) := by
    show sliceT (.lst _) _ _ = _
    rw [slice_lst, cn]
    show Res.ok (T.lst _) = Res.ok (T.lst _)
    rw [List.map_take, List.map_drop]
  have sl2 : sliceT (lz N) (some 9) none = .ok (lz (N.drop 9)) := by
    show sliceT (.lst _) _ _ = _
    rw [slice_lst, cf9]
    show Res.ok (T.lst _) = Res.ok (T.lst _)
    rw [List.map_drop]
  have nil1 : T.lst [] = .lst (([] : List Pr2).map pz) := rfl
  refine g_step (ρ' := [some (.par scr), some (.val (lz N)), none, none, none, none, none, none, none, none, none, none, none]) (by simp [hc0, hN]) ?_
  refine g_step (ρ' := [some (.par scr), some (.val (lz N)), some (.val (.int (n : Int))), none, none, none, none, none, none, none, none, none, none]) (by
    simp only [ex_asg, ev_idx, ev_bin, ev_bi, evs_cons, evs_nil, ev_var, ev_int, List.set_cons_zero, List.set_cons_succ, List.getElem?_cons_zero, List.getElem?_cons_succ, sl_val, bd_ok, n0, bi_int, e0, bin_add, en, fl_ok]) ?_
  refine g_step (ρ' := [some (.par scr), some (.val (lz N)), some (.val (.int (n : Int))), some (.val (lz LV)), none, none, none, none, none, none, none, none, none]) (by simp [LV]) ?_
  generalize lz LV = LT at *
  refine g_step (ρ' := [some (.par scr), some (.val (lz N)), some (.val (.int (n : Int))), some (.val LT), some (.val (.lst (es.map pz))), none, none, none, none, none, none, none, none]) (by
    simp only [ex_asg, ev_call, ev_idx, ev_bin, ev_bi, evs_cons, evs_nil, ev_var, ev_int, List.set_cons_zero, List.set_cons_succ, List.getElem?_cons_zero, List.getElem?_cons_succ, sl_par, sl_val, bd_ok, hc1, n1, bi_int, e1, hlev, hes, fl_ok]) ?_
  refine g_step (ρ' := [some (.par scr), some (.val (lz N)), some (.val (.int (n : Int))), some (.val LT), some (.val (.lst (es.map pz))), some (.val (.lst (sp.map pz))), none, none, none, none, none, none, none]) (by
    simp only [ex_asg, ev_call, ev_slice, evs_cons, evs_nil, ev_var, ev_int, List.set_cons_zero, List.set_cons_succ, List.getElem?_cons_zero, List.getElem?_cons_succ, sl_val, bd_ok, opt_one, sl1, hsp, fl_ok]) ?_
  refine g_step (ρ' := [some (.par scr), some (.val (lz N)), some (.val (.int (n : Int))), some (.val LT), some (.val (.lst (es.map pz))), some (.val (.lst (sp.map pz))), some (.val (.lst (ag.map pz))), none, none, none, none, none, none]) (by
    simp only [ex_asg, ev_call, evs_cons, evs_nil, ev_var, ev_int, List.set_cons_zero, List.set_cons_succ, List.getElem?_cons_zero, List.getElem?_cons_succ, sl_par, sl_val, bd_ok, hc4, hN5, hag, fl_ok]) ?_
  have hL : ∀ l ∈ [es, sp, ag, rw_], l.length ≤ 1000 := by
    intro l hl
    simp only [List.mem_cons, List.not_mem_nil, or_false] at hl
    rcases hl with rfl | rfl | rfl | rfl <;> omega
  refine g_for (xs := [es, sp, ag, rw_].map fun l => T.lst (l.map pz)) (by
    refine its_of (ts := [.lst ([es, sp, ag, rw_].map fun l => T.lst (l.map pz))]) ?_ rfl
    simp only [evs_cons, evs_nil, ev_lst, ev_call, ev_var, ev_int, List.getElem?_cons_zero, List.getElem?_cons_succ, sl_par, sl_val, bd_ok, hc2, hrw]
    rfl) (fun i ρ => ∃ o7, ρ = [some (.par scr), some (.val (lz N)), some (.val (.int (n : Int))), some (.val LT), some (.val (.lst (es.map pz))), some (.val (.lst (sp.map pz))), some (.val (.lst (ag.map pz))), o7, none, none, none, none, none]) ⟨_, rfl⟩ ?_ ?_
  · rintro ρ ⟨o7, rfl⟩
    have ce := fun o8 => comp_map (cf := callF G 20) (ρ := [some (.par scr), some (.val (lz N)), some (.val (.int (n : Int))), some (.val LT), some (.val (.lst (es.map pz))), some (.val (.lst (sp.map pz))), some (.val (.lst (ag.map pz))), o7, o8, none, none, none, none]) (tg := .nm .val 12) (elt := (.var .val 12)) (sk := .plain) (ses := [(.var .val 4)]) pz es pz (by simp) (fun p hp => ⟨_, rfl, by simp⟩)
    let WS : List Int := [0, 7, -1 - (m7 : Int), 8 + (m8 : Int)]
    have hW : ∀ w ∈ WS, w < 1 ∨ 6 < w := by
      intro w hw
      simp only [WS, List.mem_cons, List.not_mem_nil, or_false] at hw
      omega
    refine g_for (xs := WS.map .int) (by
      refine its_of (ts := [lz WS]) ?_ rfl
      simp only [evs_cons, evs_nil, ev_lst, ev_idx, ev_bin, ev_bi, ev_var, ev_int, List.getElem?_cons_zero, List.getElem?_cons_succ, sl_par, sl_val, bd_ok, n7, n8, bi_int, e7, e8, bin_sub, bin_add]
      rfl) (fun i ρ => ∃ o8, ρ = [some (.par scr), some (.val (lz N)), some (.val (.int (n : Int))), some (.val LT), some (.val (.lst (es.map pz))), some (.val (.lst (sp.map pz))), some (.val (.lst (ag.map pz))), o7, o8, none, none, none, none]) ⟨_, rfl⟩ ?_ ?_
    · rintro ρ ⟨o8, rfl⟩
      refine g_step (ρ' := [some (.par scr), some (.val (lz N)), some (.val (.int (n : Int))), some (.val LT), some (.val (.lst (es.map pz))), some (.val (.lst (sp.map pz))), some (.val (.lst (ag.map pz))), o7, o8, some (.val D), none, none, none]) (by
        simp only [ex_asg, ev_call, evs_cons, evs_nil, ce, ev_var, List.set_cons_zero, List.set_cons_succ, List.getElem?_cons_zero, List.getElem?_cons_succ, sl_val, bd_ok, g4, fl_ok]) ?_
      refine g_step (ρ' := [some (.par scr), some (.val (lz N)), some (.val (.int (n : Int))), some (.val LT), some (.val (.lst (es.map pz))), some (.val (.lst (sp.map pz))), some (.val (.lst (ag.map pz))), o7, o8, some (.val D), some (.val D), none, none]) (by
        simp only [ex_asg, ev_call, evs_cons, evs_nil, ev_var, List.set_cons_zero, List.set_cons_succ, List.getElem?_cons_zero, List.getElem?_cons_succ, sl_val, bd_ok, g23, fl_ok]) ?_
      refine g_step (ρ' := [some (.par scr), some (.val (lz N)), some (.val (.int (n : Int))), some (.val LT), some (.val (.lst (es.map pz))), some (.val (.lst (sp.map pz))), some (.val (.lst (ag.map pz))), o7, o8, some (.val D), some (.val D), none, none]) (by
        simp only [ex_ite, ev_not, ev_call, ev_slice, evs_cons, evs_nil, ev_var, ev_int, List.getElem?_cons_zero, List.getElem?_cons_succ, sl_val, bd_ok, opt_one, opt_nil, sl2, g28, truthR_bl, fl_ok]
        rfl) ?_
      refine g_step (ρ' := [some (.par scr), some (.val (lz N)), some (.val (.int (n : Int))), some (.val LT), some (.val (.lst (es.map pz))), some (.val (.lst (sp.map pz))), some (.val (.lst (ag.map pz))), o7, o8, some (.val D), some (.val D), some (.val (.lst (ot.map pz))), none]) (by
        simp only [ex_asg, ev_call, ev_idx, ev_bin, ev_bi, evs_cons, evs_nil, ev_var, ev_int, List.set_cons_zero, List.set_cons_succ, List.getElem?_cons_zero, List.getElem?_cons_succ, sl_par, sl_val, bd_ok, hc3, n13, bi_int, e13, bin_add, en2, hot, fl_ok]) ?_
      refine g_step (ρ' := [some (.par scr), some (.val (lz N)), some (.val (.int (n : Int))), some (.val LT), some (.val (.lst (es.map pz))), some (.val (.lst (sp.map pz))), some (.val (.lst (ag.map pz))), o7, o8, some (.val D), some (.val D), some (.val (.lst (ot.map pz))), none]) (by
        simp only [ex_ite, ev_not, ev_call, ev_idx, ev_bin, ev_bi, evs_cons, evs_nil, ev_var, ev_int, List.getElem?_cons_zero, List.getElem?_cons_succ, sl_par, sl_val, bd_ok, n13, bi_int, e13, bin_add, en2, g26', truthR_bl, fl_ok]
        rfl) ?_
      exact g_ret (t := .bl true) (by simp [gg, g25]) rfl
    · rintro i ρ hi ⟨o8, rfl⟩
      rw [List.getElem_map]
      have hm := hW (WS[i]'(by simpa using hi)) (List.getElem_mem _)
      generalize WS[i]'(by simpa using hi) = w at hm
      have q1 := g24 w hm es (by omega)
      have q2 := g24 w hm [] (by simp)
      simp only [List.map_nil] at q2
      refine ⟨_, rfl, .inl ⟨[some (.par scr), some (.val (lz N)), some (.val (.int (n : Int))), some (.val LT), some (.val (.lst (es.map pz))), some (.val (.lst (sp.map pz))), some (.val (.lst (ag.map pz))), o7, some (.val (.int w)), none, none, none, none], ?_, _, rfl⟩⟩
      refine x_step ?_ (x_end rfl)
      simp only [ex_ite, ev_or, ev_not, ev_call, ev_lst, evs_cons, evs_nil, ev_var, List.set_cons_zero, List.set_cons_succ, ce, List.getElem?_cons_zero, List.getElem?_cons_succ, sl_val, bd_ok, q1, q2, truthR_bl, fl_ok]
      rfl
  · rintro i ρ hi ⟨o7, rfl⟩
    rw [List.getElem_map]
    have hm := hL ([es, sp, ag, rw_][i]'(by simpa using hi)) (List.getElem_mem _)
    generalize [es, sp, ag, rw_][i]'(by simpa using hi) = l at hm
    exact ⟨_, rfl, .inl ⟨[some (.par scr), some (.val (lz N)), some (.val (.int (n : Int))), some (.val LT), some (.val (.lst (es.map pz))), some (.val (.lst (sp.map pz))), some (.val (.lst (ag.map pz))), some (.val (.lst (l.map pz))), none, none, none, none, none], by simp [g26 l hm], _, rfl⟩⟩
end Law

namespace Law
open PySem BV L2 PySem.W
set_option maxHeartbeats 0 in
theorem all_mk {P : Program} {w : World} {K : Frag} {h : Heap} {mg : Str → Option Value} {fa : Addr} (X : K.In h) (Gn : h.Ns mainGlobals mg) (hfa : mg "law" = some (.ref fa))
    {f0 : Addr} {od0 an0 : Option Addr} {sl0 : Array (Option Value)} {oc0 kV0 dc0 pm0 cd0 ct0 : Value}
    {f1 : Addr} {od1 an1 : Option Addr} {sl1 : Array (Option Value)} {oc1 kV1 dc1 pm1 cd1 ct1 : Value}
    {f2 : Addr} {od2 an2 : Option Addr} {sl2 : Array (Option Value)} {oc2 kV2 dc2 pm2 cd2 ct2 : Value}
    {f3 : Addr} {od3 an3 : Option Addr} {sl3 : Array (Option Value)} {oc3 kV3 dc3 pm3 cd3 ct3 : Value}
    {f4 : Addr} {od4 an4 : Option Addr} {sl4 : Array (Option Value)} {oc4 kV4 dc4 pm4 cd4 ct4 : Value}
    {f5 : Addr} {od5 an5 : Option Addr} {sl5 : Array (Option Value)} {oc5 kV5 dc5 pm5 cd5 ct5 : Value}
    {f6 : Addr} {od6 an6 : Option Addr} {sl6 : Array (Option Value)} {oc6 kV6 dc6 pm6 cd6 ct6 : Value}
    {f7 : Addr} {od7 an7 : Option Addr} {sl7 : Array (Option Value)} {oc7 kV7 dc7 pm7 cd7 ct7 : Value}
    {f8 : Addr} {od8 an8 : Option Addr} {sl8 : Array (Option Value)} {oc8 kV8 dc8 pm8 cd8 ct8 : Value}
    {f9 : Addr} {od9 an9 : Option Addr} {sl9 : Array (Option Value)} {oc9 kV9 dc9 pm9 cd9 ct9 : Value}
    {f10 : Addr} {od10 an10 : Option Addr} {sl10 : Array (Option Value)} {oc10 kV10 dc10 pm10 cd10 ct10 : Value}
    {f11 : Addr} {od11 an11 : Option Addr} {sl11 : Array (Option Value)} {oc11 kV11 dc11 pm11 cd11 ct11 : Value}
    {f12 : Addr} {od12 an12 : Option Addr} {sl12 : Array (Option Value)} {oc12 kV12 dc12 pm12 cd12 ct12 : Value}
    {f13 : Addr} {od13 an13 : Option Addr} {sl13 : Array (Option Value)} {oc13 kV13 dc13 pm13 cd13 ct13 : Value}
    {f14 : Addr} {od14 an14 : Option Addr} {sl14 : Array (Option Value)} {oc14 kV14 dc14 pm14 cd14 ct14 : Value}
    {f15 : Addr} {od15 an15 : Option Addr} {sl15 : Array (Option Value)} {oc15 kV15 dc15 pm15 cd15 ct15 : Value}
    {f16 : Addr} {od16 an16 : Option Addr} {sl16 : Array (Option Value)} {oc16 kV16 dc16 pm16 cd16 ct16 : Value}
    {f17 : Addr} {od17 an17 : Option Addr} {sl17 : Array (Option Value)} {oc17 kV17 dc17 pm17 cd17 ct17 : Value}
    {f18 : Addr} {od18 an18 : Option Addr} {sl18 : Array (Option Value)} {oc18 kV18 dc18 pm18 cd18 ct18 : Value}
    {f19 : Addr} {od19 an19 : Option Addr} {sl19 : Array (Option Value)} {oc19 kV19 dc19 pm19 cd19 ct19 : Value}
    {f20 : Addr} {od20 an20 : Option Addr} {sl20 : Array (Option Value)} {oc20 kV20 dc20 pm20 cd20 ct20 : Value}
    {f21 : Addr} {od21 an21 : Option Addr} {sl21 : Array (Option Value)} {oc21 kV21 dc21 pm21 cd21 ct21 : Value}
    {f22 : Addr} {od22 an22 : Option Addr} {sl22 : Array (Option Value)} {oc22 kV22 dc22 pm22 cd22 ct22 : Value}
    {f23 : Addr} {od23 an23 : Option Addr} {sl23 : Array (Option Value)} {oc23 kV23 dc23 pm23 cd23 ct23 : Value}
    {f24 : Addr} {od24 an24 : Option Addr} {sl24 : Array (Option Value)} {oc24 kV24 dc24 pm24 cd24 ct24 : Value}
    {f25 : Addr} {od25 an25 : Option Addr} {sl25 : Array (Option Value)} {oc25 kV25 dc25 pm25 cd25 ct25 : Value}
    {f26 : Addr} {od26 an26 : Option Addr} {sl26 : Array (Option Value)} {oc26 kV26 dc26 pm26 cd26 ct26 : Value}
    {f27 : Addr} {od27 an27 : Option Addr} {sl27 : Array (Option Value)} {oc27 kV27 dc27 pm27 cd27 ct27 : Value}
    {f28 : Addr} {od28 an28 : Option Addr} {sl28 : Array (Option Value)} {oc28 kV28 dc28 pm28 cd28 ct28 : Value}
    {f29 : Addr} {od29 an29 : Option Addr} {sl29 : Array (Option Value)} {oc29 kV29 dc29 pm29 cd29 ct29 : Value}
    {C0 : Addr}
    {C1 : Addr}
    {C2 : Addr}
    {C3 : Addr}
    {C4 : Addr}
    {cv0 : Nat}
    {cv1 : Nat}
    (a0 : nsIn K mainGlobals "is_permutation" = some (some (.ref f0)))
    (l0 : K.lookup f0 = some ⟨oc0, od0, .func (fnOf "is_permutation" "is_permutation" (defArgs (top 8)) (defBody (top 8)) (defScope (top 8)) .none kV0 dc0 pm0 an0 cd0 ct0), sl0⟩)
    (e0 : codeIn K cd0 "is_permutation" = true)
    (k0 : keepIn K (.ref f0) = true)
    (a1 : nsIn K mainGlobals "check_permutation" = some (some (.ref f1)))
    (l1 : K.lookup f1 = some ⟨oc1, od1, .func (fnOf "check_permutation" "check_permutation" (defArgs (top 9)) (defBody (top 9)) (defScope (top 9)) .none kV1 dc1 pm1 an1 cd1 ct1), sl1⟩)
    (e1 : codeIn K cd1 "check_permutation" = true)
    (k1 : keepIn K (.ref f1) = true)
    (a2 : nsIn K mainGlobals "inverse" = some (some (.ref f2)))
    (l2 : K.lookup f2 = some ⟨oc2, od2, .func (fnOf "inverse" "inverse" (defArgs (top 10)) (defBody (top 10)) (defScope (top 10)) .none kV2 dc2 pm2 an2 cd2 ct2), sl2⟩)
    (e2 : codeIn K cd2 "inverse" = true)
    (k2 : keepIn K (.ref f2) = true)
    (a3 : nsIn K mainGlobals "compose" = some (some (.ref f3)))
    (l3 : K.lookup f3 = some ⟨oc3, od3, .func (fnOf "compose" "compose" (defArgs (top 11)) (defBody (top 11)) (defScope (top 11)) .none kV3 dc3 pm3 an3 cd3 ct3), sl3⟩)
    (e3 : codeIn K cd3 "compose" = true)
    (k3 : keepIn K (.ref f3) = true)
    (a4 : nsIn K mainGlobals "make_graph" = some (some (.ref f4)))
    (l4 : K.lookup f4 = some ⟨oc4, od4, .func (fnOf "make_graph" "make_graph" (defArgs (top 14)) (defBody (top 14)) (defScope (top 14)) .none kV4 dc4 pm4 an4 cd4 ct4), sl4⟩)
    (e4 : codeIn K cd4 "make_graph" = true)
    (k4 : keepIn K (.ref f4) = true)
    (a5 : nsIn K mainGlobals "has_edge" = some (some (.ref f5)))
    (l5 : K.lookup f5 = some ⟨oc5, od5, .func (fnOf "has_edge" "has_edge" (defArgs (top 15)) (defBody (top 15)) (defScope (top 15)) .none kV5 dc5 pm5 an5 cd5 ct5), sl5⟩)
    (e5 : codeIn K cd5 "has_edge" = true)
    (k5 : keepIn K (.ref f5) = true)
    (a6 : nsIn K mainGlobals "node_pairs" = some (some (.ref f6)))
    (l6 : K.lookup f6 = some ⟨oc6, od6, .func (fnOf "node_pairs" "node_pairs" (defArgs (top 16)) (defBody (top 16)) (defScope (top 16)) .none kV6 dc6 pm6 an6 cd6 ct6), sl6⟩)
    (e6 : codeIn K cd6 "node_pairs" = true)
    (k6 : keepIn K (.ref f6) = true)
    (a7 : nsIn K mainGlobals "pair_place" = some (some (.ref f7)))
    (l7 : K.lookup f7 = some ⟨oc7, od7, .func (fnOf "pair_place" "pair_place" (defArgs (top 17)) (defBody (top 17)) (defScope (top 17)) .none kV7 dc7 pm7 an7 cd7 ct7), sl7⟩)
    (e7 : codeIn K cd7 "pair_place" = true)
    (k7 : keepIn K (.ref f7) = true)
    (a8 : nsIn K mainGlobals "edge_table" = some (some (.ref f8)))
    (l8 : K.lookup f8 = some ⟨oc8, od8, .func (fnOf "edge_table" "edge_table" (defArgs (top 18)) (defBody (top 18)) (defScope (top 18)) .none kV8 dc8 pm8 an8 cd8 ct8), sl8⟩)
    (e8 : codeIn K cd8 "edge_table" = true)
    (k8 : keepIn K (.ref f8) = true)
    (a9 : nsIn K mainGlobals "relabel" = some (some (.ref f9)))
    (l9 : K.lookup f9 = some ⟨oc9, od9, .func (fnOf "relabel" "relabel" (defArgs (top 19)) (defBody (top 19)) (defScope (top 19)) .none kV9 dc9 pm9 an9 cd9 ct9), sl9⟩)
    (e9 : codeIn K cd9 "relabel" = true)
    (k9 : keepIn K (.ref f9) = true)
    (a10 : nsIn K mainGlobals "_law_cell" = some (some (.ref f10)))
    (l10 : K.lookup f10 = some ⟨oc10, od10, .func (fnOf "_law_cell" "_law_cell" (defArgs (top 21)) (defBody (top 21)) (defScope (top 21)) .none kV10 dc10 pm10 an10 cd10 ct10), sl10⟩)
    (e10 : codeIn K cd10 "_law_cell" = true)
    (k10 : keepIn K (.ref f10) = true)
    (a11 : nsIn K mainGlobals "_law_numbers" = some (some (.ref f11)))
    (l11 : K.lookup f11 = some ⟨oc11, od11, .func (fnOf "_law_numbers" "_law_numbers" (defArgs (top 22)) (defBody (top 22)) (defScope (top 22)) .none kV11 dc11 pm11 an11 cd11 ct11), sl11⟩)
    (e11 : codeIn K cd11 "_law_numbers" = true)
    (k11 : keepIn K (.ref f11) = true)
    (a12 : nsIn K mainGlobals "_law_same" = some (some (.ref f12)))
    (l12 : K.lookup f12 = some ⟨oc12, od12, .func (fnOf "_law_same" "_law_same" (defArgs (top 23)) (defBody (top 23)) (defScope (top 23)) .none kV12 dc12 pm12 an12 cd12 ct12), sl12⟩)
    (e12 : codeIn K cd12 "_law_same" = true)
    (k12 : keepIn K (.ref f12) = true)
    (a13 : nsIn K mainGlobals "_law_factorial" = some (some (.ref f13)))
    (l13 : K.lookup f13 = some ⟨oc13, od13, .func (fnOf "_law_factorial" "_law_factorial" (defArgs (top 24)) (defBody (top 24)) (defScope (top 24)) .none kV13 dc13 pm13 an13 cd13 ct13), sl13⟩)
    (e13 : codeIn K cd13 "_law_factorial" = true)
    (k13 : keepIn K (.ref f13) = true)
    (a14 : nsIn K mainGlobals "_law_permutation" = some (some (.ref f14)))
    (l14 : K.lookup f14 = some ⟨oc14, od14, .func (fnOf "_law_permutation" "_law_permutation" (defArgs (top 25)) (defBody (top 25)) (defScope (top 25)) .none kV14 dc14 pm14 an14 cd14 ct14), sl14⟩)
    (e14 : codeIn K cd14 "_law_permutation" = true)
    (k14 : keepIn K (.ref f14) = true)
    (a15 : nsIn K mainGlobals "_law_after" = some (some (.ref f15)))
    (l15 : K.lookup f15 = some ⟨oc15, od15, .func (fnOf "_law_after" "_law_after" (defArgs (top 26)) (defBody (top 26)) (defScope (top 26)) .none kV15 dc15 pm15 an15 cd15 ct15), sl15⟩)
    (e15 : codeIn K cd15 "_law_after" = true)
    (k15 : keepIn K (.ref f15) = true)
    (a16 : nsIn K mainGlobals "_law_pairs" = some (some (.ref f16)))
    (l16 : K.lookup f16 = some ⟨oc16, od16, .func (fnOf "_law_pairs" "_law_pairs" (defArgs (top 27)) (defBody (top 27)) (defScope (top 27)) .none kV16 dc16 pm16 an16 cd16 ct16), sl16⟩)
    (e16 : codeIn K cd16 "_law_pairs" = true)
    (k16 : keepIn K (.ref f16) = true)
    (a17 : nsIn K mainGlobals "_law_edge" = some (some (.ref f17)))
    (l17 : K.lookup f17 = some ⟨oc17, od17, .func (fnOf "_law_edge" "_law_edge" (defArgs (top 28)) (defBody (top 28)) (defScope (top 28)) .none kV17 dc17 pm17 an17 cd17 ct17), sl17⟩)
    (e17 : codeIn K cd17 "_law_edge" = true)
    (k17 : keepIn K (.ref f17) = true)
    (a18 : nsIn K mainGlobals "_law_moved" = some (some (.ref f18)))
    (l18 : K.lookup f18 = some ⟨oc18, od18, .func (fnOf "_law_moved" "_law_moved" (defArgs (top 29)) (defBody (top 29)) (defScope (top 29)) .none kV18 dc18 pm18 an18 cd18 ct18), sl18⟩)
    (e18 : codeIn K cd18 "_law_moved" = true)
    (k18 : keepIn K (.ref f18) = true)
    (a19 : nsIn K mainGlobals "_law_listed" = some (some (.ref f19)))
    (l19 : K.lookup f19 = some ⟨oc19, od19, .func (fnOf "_law_listed" "_law_listed" (defArgs (top 30)) (defBody (top 30)) (defScope (top 30)) .none kV19 dc19 pm19 an19 cd19 ct19), sl19⟩)
    (e19 : codeIn K cd19 "_law_listed" = true)
    (k19 : keepIn K (.ref f19) = true)
    (a20 : nsIn K mainGlobals "_law_spoilt" = some (some (.ref f20)))
    (l20 : K.lookup f20 = some ⟨oc20, od20, .func (fnOf "_law_spoilt" "_law_spoilt" (defArgs (top 31)) (defBody (top 31)) (defScope (top 31)) .none kV20 dc20 pm20 an20 cd20 ct20), sl20⟩)
    (e20 : codeIn K cd20 "_law_spoilt" = true)
    (k20 : keepIn K (.ref f20) = true)
    (a21 : nsIn K mainGlobals "_law_end" = some (some (.ref f21)))
    (l21 : K.lookup f21 = some ⟨oc21, od21, .func (fnOf "_law_end" "_law_end" (defArgs (top 32)) (defBody (top 32)) (defScope (top 32)) .none kV21 dc21 pm21 an21 cd21 ct21), sl21⟩)
    (e21 : codeIn K cd21 "_law_end" = true)
    (k21 : keepIn K (.ref f21) = true)
    (a22 : nsIn K mainGlobals "_law_raw" = some (some (.ref f22)))
    (l22 : K.lookup f22 = some ⟨oc22, od22, .func (fnOf "_law_raw" "_law_raw" (defArgs (top 33)) (defBody (top 33)) (defScope (top 33)) .none kV22 dc22 pm22 an22 cd22 ct22), sl22⟩)
    (e22 : codeIn K cd22 "_law_raw" = true)
    (k22 : keepIn K (.ref f22) = true)
    (a23 : nsIn K mainGlobals "_law_graph" = some (some (.ref f23)))
    (l23 : K.lookup f23 = some ⟨oc23, od23, .func (fnOf "_law_graph" "_law_graph" (defArgs (top 34)) (defBody (top 34)) (defScope (top 34)) .none kV23 dc23 pm23 an23 cd23 ct23), sl23⟩)
    (e23 : codeIn K cd23 "_law_graph" = true)
    (k23 : keepIn K (.ref f23) = true)
    (a24 : nsIn K mainGlobals "_law_no_graph" = some (some (.ref f24)))
    (l24 : K.lookup f24 = some ⟨oc24, od24, .func (fnOf "_law_no_graph" "_law_no_graph" (defArgs (top 35)) (defBody (top 35)) (defScope (top 35)) .none kV24 dc24 pm24 an24 cd24 ct24), sl24⟩)
    (e24 : codeIn K cd24 "_law_no_graph" = true)
    (k24 : keepIn K (.ref f24) = true)
    (a25 : nsIn K mainGlobals "_law_walked" = some (some (.ref f25)))
    (l25 : K.lookup f25 = some ⟨oc25, od25, .func (fnOf "_law_walked" "_law_walked" (defArgs (top 36)) (defBody (top 36)) (defScope (top 36)) .none kV25 dc25 pm25 an25 cd25 ct25), sl25⟩)
    (e25 : codeIn K cd25 "_law_walked" = true)
    (k25 : keepIn K (.ref f25) = true)
    (a26 : nsIn K mainGlobals "_law_made" = some (some (.ref f26)))
    (l26 : K.lookup f26 = some ⟨oc26, od26, .func (fnOf "_law_made" "_law_made" (defArgs (top 37)) (defBody (top 37)) (defScope (top 37)) .none kV26 dc26 pm26 an26 cd26 ct26), sl26⟩)
    (e26 : codeIn K cd26 "_law_made" = true)
    (k26 : keepIn K (.ref f26) = true)
    (a27 : nsIn K mainGlobals "_law_no_row" = some (some (.ref f27)))
    (l27 : K.lookup f27 = some ⟨oc27, od27, .func (fnOf "_law_no_row" "_law_no_row" (defArgs (top 38)) (defBody (top 38)) (defScope (top 38)) .none kV27 dc27 pm27 an27 cd27 ct27), sl27⟩)
    (e27 : codeIn K cd27 "_law_no_row" = true)
    (k27 : keepIn K (.ref f27) = true)
    (a28 : nsIn K mainGlobals "_law_relabelled" = some (some (.ref f28)))
    (l28 : K.lookup f28 = some ⟨oc28, od28, .func (fnOf "_law_relabelled" "_law_relabelled" (defArgs (top 39)) (defBody (top 39)) (defScope (top 39)) .none kV28 dc28 pm28 an28 cd28 ct28), sl28⟩)
    (e28 : codeIn K cd28 "_law_relabelled" = true)
    (k28 : keepIn K (.ref f28) = true)
    (a29 : nsIn K mainGlobals "law" = some (some (.ref f29)))
    (l29 : K.lookup f29 = some ⟨oc29, od29, .func (fnOf "law" "law" (defArgs (top 40)) (defBody (top 40)) (defScope (top 40)) .none kV29 dc29 pm29 an29 cd29 ct29), sl29⟩)
    (e29 : codeIn K cd29 "law" = true)
    (k29 : keepIn K (.ref f29) = true)
    (ca0 : nsIn K mainGlobals "BadDraw" = some (some (.ref C0)))
    (cg0 : findIn K (.ref C0) "__getattribute__" = some (some (.builtin "BaseException.__getattribute__")))
    (ch0 : findIn K (.ref C0) "__getattr__" = some none)
    (cb0 : subIn K (.ref C0) (.type "BaseException") = some true)
    (cd_0 : hasDictIn K C0 = true)
    (cc0 : findIn K (.ref C0) "__class__" = some (some (.builtin "object.__class__")))
    (cm0 : mroIn K C0 (.type "object") = some true)
    (ct_0 : typeIn K (.ref C0) = some (.type "type"))
    (cs0 : subIn K (.ref C0) (.ref C0) = some true)
    (ca1 : nsIn K mainGlobals "BadGraph" = some (some (.ref C1)))
    (cg1 : findIn K (.ref C1) "__getattribute__" = some (some (.builtin "BaseException.__getattribute__")))
    (ch1 : findIn K (.ref C1) "__getattr__" = some none)
    (cb1 : subIn K (.ref C1) (.type "BaseException") = some true)
    (cd_1 : hasDictIn K C1 = true)
    (cc1 : findIn K (.ref C1) "__class__" = some (some (.builtin "object.__class__")))
    (cm1 : mroIn K C1 (.type "object") = some true)
    (ct_1 : typeIn K (.ref C1) = some (.type "type"))
    (cs1 : subIn K (.ref C1) (.ref C1) = some true)
    (cx1 : excIn K C1 [.type "ValueError", .type "Exception", .type "BaseException", .type "object"] "ValueError.__new__" = true)
    (ck1 : keepIn K (.ref C1) = true)
    (ca2 : nsIn K mainGlobals "BadPermutation" = some (some (.ref C2)))
    (cg2 : findIn K (.ref C2) "__getattribute__" = some (some (.builtin "BaseException.__getattribute__")))
    (ch2 : findIn K (.ref C2) "__getattr__" = some none)
    (cb2 : subIn K (.ref C2) (.type "BaseException") = some true)
    (cd_2 : hasDictIn K C2 = true)
    (cc2 : findIn K (.ref C2) "__class__" = some (some (.builtin "object.__class__")))
    (cm2 : mroIn K C2 (.type "object") = some true)
    (ct_2 : typeIn K (.ref C2) = some (.type "type"))
    (cs2 : subIn K (.ref C2) (.ref C2) = some true)
    (cx2 : excIn K C2 [.type "ValueError", .type "Exception", .type "BaseException", .type "object"] "ValueError.__new__" = true)
    (ck2 : keepIn K (.ref C2) = true)
    (ca3 : nsIn K mainGlobals "BadStatement" = some (some (.ref C3)))
    (cg3 : findIn K (.ref C3) "__getattribute__" = some (some (.builtin "BaseException.__getattribute__")))
    (ch3 : findIn K (.ref C3) "__getattr__" = some none)
    (cb3 : subIn K (.ref C3) (.type "BaseException") = some true)
    (cd_3 : hasDictIn K C3 = true)
    (cc3 : findIn K (.ref C3) "__class__" = some (some (.builtin "object.__class__")))
    (cm3 : mroIn K C3 (.type "object") = some true)
    (ct_3 : typeIn K (.ref C3) = some (.type "type"))
    (cs3 : subIn K (.ref C3) (.ref C3) = some true)
    (ca4 : nsIn K mainGlobals "UnseenError" = some (some (.ref C4)))
    (cg4 : findIn K (.ref C4) "__getattribute__" = some (some (.builtin "BaseException.__getattribute__")))
    (ch4 : findIn K (.ref C4) "__getattr__" = some none)
    (cb4 : subIn K (.ref C4) (.type "BaseException") = some true)
    (cd_4 : hasDictIn K C4 = true)
    (cc4 : findIn K (.ref C4) "__class__" = some (some (.builtin "object.__class__")))
    (cm4 : mroIn K C4 (.type "object") = some true)
    (ct_4 : typeIn K (.ref C4) = some (.type "type"))
    (cs4 : subIn K (.ref C4) (.ref C4) = some true)
    (qn : specialIn K (.builtin "object.__class__") "__get__" = some (some (.builtin "getset_descriptor.__get__")))
    (qt : takesIn K (.builtin "object.__class__") = some true)
    (u0 : subIn K (.ref C1) (.ref C0) = some false)
    (u1 : subIn K (.ref C1) (.ref C1) = some true)
    (u2 : subIn K (.ref C1) (.ref C2) = some false)
    (u3 : subIn K (.ref C1) (.ref C3) = some false)
    (u4 : subIn K (.ref C1) (.ref C4) = some true)
    (u5 : subIn K (.ref C1) (.type "ValueError") = some true)
    (u6 : subIn K (.ref C2) (.ref C0) = some false)
    (u7 : subIn K (.ref C2) (.ref C1) = some false)
    (u8 : subIn K (.ref C2) (.ref C2) = some true)
    (u9 : subIn K (.ref C2) (.ref C3) = some false)
    (u10 : subIn K (.ref C2) (.ref C4) = some true)
    (u11 : subIn K (.ref C2) (.type "ValueError") = some true)
    (yg0 : nsIn K mainGlobals "MOST_NODES" = some (some (.int 6 cv0)))
    (yg1 : nsIn K mainGlobals "MOST_SIZE" = some (some (.int 6 cv1)))
    (z0 : nsIn K mainGlobals "ValueError" = some none)
    (z1 : nsIn K mainGlobals "abs" = some none)
    (z2 : nsIn K mainGlobals "bool" = some none)
    (z3 : nsIn K mainGlobals "enumerate" = some none)
    (z4 : nsIn K mainGlobals "int" = some none)
    (z5 : nsIn K mainGlobals "isinstance" = some none)
    (z6 : nsIn K mainGlobals "len" = some none)
    (z7 : nsIn K mainGlobals "list" = some none)
    (z8 : nsIn K mainGlobals "max" = some none)
    (z9 : nsIn K mainGlobals "min" = some none)
    (z10 : nsIn K mainGlobals "range" = some none)
    (z11 : nsIn K mainGlobals "sorted" = some none)
    (z12 : nsIn K mainGlobals "str" = some none)
    (z13 : nsIn K mainGlobals "tuple" = some none)
    : ∃ fd : FuncData, (∀ (s : Shared) (u : Value), BindsTo s fd ⟨[u], []⟩ [("script", u)]) ∧ ∀ base : Heap, K.In base → base.Ns mainGlobals mg → FnOk P w K mg base (L2.CX P w) (fuel + 1) fa fd ["script"] (spLaw K) := by
  have e := hfa.symm.trans (mg_of X Gn a29)
  cases e
  have F0 := fun_mk (st := top 8) l0 e0 k0
  have B0 := F0.binds (ps := ["row"]) fun _ _ _ _ _ _ us hl => match us, hl with | [_], _ => rfl
  have F1 := fun_mk (st := top 9) l1 e1 k1
  have B1 := F1.binds (ps := ["row"]) fun _ _ _ _ _ _ us hl => match us, hl with | [_], _ => rfl
  have F2 := fun_mk (st := top 10) l2 e2 k2
  have B2 := F2.binds (ps := ["row"]) fun _ _ _ _ _ _ us hl => match us, hl with | [_], _ => rfl
  have F3 := fun_mk (st := top 11) l3 e3 k3
  have B3 := F3.binds (ps := ["first", "second"]) fun _ _ _ _ _ _ us hl => match us, hl with | [_, _], _ => rfl
  have F4 := fun_mk (st := top 14) l4 e4 k4
  have B4 := F4.binds (ps := ["nodes", "edges"]) fun _ _ _ _ _ _ us hl => match us, hl with | [_, _], _ => rfl
  have F5 := fun_mk (st := top 15) l5 e5 k5
  have B5 := F5.binds (ps := ["graph", "a", "b"]) fun _ _ _ _ _ _ us hl => match us, hl with | [_, _, _], _ => rfl
  have F6 := fun_mk (st := top 16) l6 e6 k6
  have B6 := F6.binds (ps := ["nodes"]) fun _ _ _ _ _ _ us hl => match us, hl with | [_], _ => rfl
  have F7 := fun_mk (st := top 17) l7 e7 k7
  have B7 := F7.binds (ps := ["nodes", "a", "b"]) fun _ _ _ _ _ _ us hl => match us, hl with | [_, _, _], _ => rfl
  have F8 := fun_mk (st := top 18) l8 e8 k8
  have B8 := F8.binds (ps := ["graph"]) fun _ _ _ _ _ _ us hl => match us, hl with | [_], _ => rfl
  have F9 := fun_mk (st := top 19) l9 e9 k9
  have B9 := F9.binds (ps := ["graph", "row"]) fun _ _ _ _ _ _ us hl => match us, hl with | [_, _], _ => rfl
  have F10 := fun_mk (st := top 21) l10 e10 k10
  have B10 := F10.binds (ps := ["script", "k"]) fun _ _ _ _ _ _ us hl => match us, hl with | [_, _], _ => rfl
  have F11 := fun_mk (st := top 22) l11 e11 k11
  have B11 := F11.binds (ps := ["cell", "many"]) fun _ _ _ _ _ _ us hl => match us, hl with | [_, _], _ => rfl
  have F12 := fun_mk (st := top 23) l12 e12 k12
  have B12 := F12.binds (ps := ["value", "due"]) fun _ _ _ _ _ _ us hl => match us, hl with | [_, _], _ => rfl
  have F13 := fun_mk (st := top 24) l13 e13 k13
  have B13 := F13.binds (ps := ["size"]) fun _ _ _ _ _ _ us hl => match us, hl with | [_], _ => rfl
  have F14 := fun_mk (st := top 25) l14 e14 k14
  have B14 := F14.binds (ps := ["size", "number"]) fun _ _ _ _ _ _ us hl => match us, hl with | [_, _], _ => rfl
  have F15 := fun_mk (st := top 26) l15 e15 k15
  have B15 := F15.binds (ps := ["first", "second"]) fun _ _ _ _ _ _ us hl => match us, hl with | [_, _], _ => rfl
  have F16 := fun_mk (st := top 27) l16 e16 k16
  have B16 := F16.binds (ps := ["nodes"]) fun _ _ _ _ _ _ us hl => match us, hl with | [_], _ => rfl
  have F17 := fun_mk (st := top 28) l17 e17 k17
  have B17 := F17.binds (ps := ["a", "b"]) fun _ _ _ _ _ _ us hl => match us, hl with | [_, _], _ => rfl
  have F18 := fun_mk (st := top 29) l18 e18 k18
  have B18 := F18.binds (ps := ["edges", "row"]) fun _ _ _ _ _ _ us hl => match us, hl with | [_, _], _ => rfl
  have F19 := fun_mk (st := top 30) l19 e19 k19
  have B19 := F19.binds (ps := ["cell", "nodes", "level"]) fun _ _ _ _ _ _ us hl => match us, hl with | [_, _, _], _ => rfl
  have F20 := fun_mk (st := top 31) l20 e20 k20
  have B20 := F20.binds (ps := ["edges", "nodes", "row"]) fun _ _ _ _ _ _ us hl => match us, hl with | [_, _, _], _ => rfl
  have F21 := fun_mk (st := top 32) l21 e21 k21
  have B21 := F21.binds (ps := ["number", "nodes"]) fun _ _ _ _ _ _ us hl => match us, hl with | [_, _], _ => rfl
  have F22 := fun_mk (st := top 33) l22 e22 k22
  have B22 := F22.binds (ps := ["cell", "nodes"]) fun _ _ _ _ _ _ us hl => match us, hl with | [_, _], _ => rfl
  have F23 := fun_mk (st := top 34) l23 e23 k23
  have B23 := F23.binds (ps := ["nodes", "edges"]) fun _ _ _ _ _ _ us hl => match us, hl with | [_, _], _ => rfl
  have F24 := fun_mk (st := top 35) l24 e24 k24
  have B24 := F24.binds (ps := ["nodes", "edges"]) fun _ _ _ _ _ _ us hl => match us, hl with | [_, _], _ => rfl
  have F25 := fun_mk (st := top 36) l25 e25 k25
  have B25 := F25.binds (ps := ["graph", "due"]) fun _ _ _ _ _ _ us hl => match us, hl with | [_, _], _ => rfl
  have F26 := fun_mk (st := top 37) l26 e26 k26
  have B26 := F26.binds (ps := ["nodes", "edges"]) fun _ _ _ _ _ _ us hl => match us, hl with | [_, _], _ => rfl
  have F27 := fun_mk (st := top 38) l27 e27 k27
  have B27 := F27.binds (ps := ["graph", "row"]) fun _ _ _ _ _ _ us hl => match us, hl with | [_, _], _ => rfl
  have F28 := fun_mk (st := top 39) l28 e28 k28
  have B28 := F28.binds (ps := ["graph", "due", "row"]) fun _ _ _ _ _ _ us hl => match us, hl with | [_, _, _], _ => rfl
  have F29 := fun_mk (st := top 40) l29 e29 k29
  have B29 := F29.binds (ps := ["script"]) fun _ _ _ _ _ _ us hl => match us, hl with | [_], _ => rfl
  have K0 : ClsOk K mg "BadDraw" C0 := ⟨mg_of X Gn ca0, ⟨cg0, ch0, cb0, cd_0, cc0, qn, qt, cm0⟩, ct_0, cs0⟩
  have K1 : ClsOk K mg "BadGraph" C1 := ⟨mg_of X Gn ca1, ⟨cg1, ch1, cb1, cd_1, cc1, qn, qt, cm1⟩, ct_1, cs1⟩
  have K2 : ClsOk K mg "BadPermutation" C2 := ⟨mg_of X Gn ca2, ⟨cg2, ch2, cb2, cd_2, cc2, qn, qt, cm2⟩, ct_2, cs2⟩
  have K3 : ClsOk K mg "BadStatement" C3 := ⟨mg_of X Gn ca3, ⟨cg3, ch3, cb3, cd_3, cc3, qn, qt, cm3⟩, ct_3, cs3⟩
  have K4 : ClsOk K mg "UnseenError" C4 := ⟨mg_of X Gn ca4, ⟨cg4, ch4, cb4, cd_4, cc4, qn, qt, cm4⟩, ct_4, cs4⟩
  have O : PgOk K mg M G := by
    refine pgOk_of (by decide +kernel) rfl ?_ ?_ ?_ ?_ ?_ ?_
    · exact all_cons ⟨top 8, _, _, F0, s0, c0, B0, mg_of X Gn a0⟩ (all_cons ⟨top 9, _, _, F1, s1, c1, B1, mg_of X Gn a1⟩ (all_cons ⟨top 10, _, _, F2, s2, c2, B2, mg_of X Gn a2⟩ (all_cons ⟨top 11, _, _, F3, s3, c3, B3, mg_of X Gn a3⟩ (all_cons ⟨top 14, _, _, F4, s4, c4, B4, mg_of X Gn a4⟩ (all_cons ⟨top 15, _, _, F5, s5, c5, B5, mg_of X Gn a5⟩ (all_cons ⟨top 16, _, _, F6, s6, c6, B6, mg_of X Gn a6⟩ (all_cons ⟨top 17, _, _, F7, s7, c7, B7, mg_of X Gn a7⟩ (all_cons ⟨top 18, _, _, F8, s8, c8, B8, mg_of X Gn a8⟩ (all_cons ⟨top 19, _, _, F9, s9, c9, B9, mg_of X Gn a9⟩ (all_cons ⟨top 21, _, _, F10, s10, c10, B10, mg_of X Gn a10⟩ (all_cons ⟨top 22, _, _, F11, s11, c11, B11, mg_of X Gn a11⟩ (all_cons ⟨top 23, _, _, F12, s12, c12, B12, mg_of X Gn a12⟩ (all_cons ⟨top 24, _, _, F13, s13, c13, B13, mg_of X Gn a13⟩ (all_cons ⟨top 25, _, _, F14, s14, c14, B14, mg_of X Gn a14⟩ (all_cons ⟨top 26, _, _, F15, s15, c15, B15, mg_of X Gn a15⟩ (all_cons ⟨top 27, _, _, F16, s16, c16, B16, mg_of X Gn a16⟩ (all_cons ⟨top 28, _, _, F17, s17, c17, B17, mg_of X Gn a17⟩ (all_cons ⟨top 29, _, _, F18, s18, c18, B18, mg_of X Gn a18⟩ (all_cons ⟨top 30, _, _, F19, s19, c19, B19, mg_of X Gn a19⟩ (all_cons ⟨top 31, _, _, F20, s20, c20, B20, mg_of X Gn a20⟩ (all_cons ⟨top 32, _, _, F21, s21, c21, B21, mg_of X Gn a21⟩ (all_cons ⟨top 33, _, _, F22, s22, c22, B22, mg_of X Gn a22⟩ (all_cons ⟨top 34, _, _, F23, s23, c23, B23, mg_of X Gn a23⟩ (all_cons ⟨top 35, _, _, F24, s24, c24, B24, mg_of X Gn a24⟩ (all_cons ⟨top 36, _, _, F25, s25, c25, B25, mg_of X Gn a25⟩ (all_cons ⟨top 37, _, _, F26, s26, c26, B26, mg_of X Gn a26⟩ (all_cons ⟨top 38, _, _, F27, s27, c27, B27, mg_of X Gn a27⟩ (all_cons ⟨top 39, _, _, F28, s28, c28, B28, mg_of X Gn a28⟩ (all_cons ⟨top 40, _, _, F29, s29, c29, B29, mg_of X Gn a29⟩ (all_nil))))))))))))))))))))))))))))))
    · exact all_cons ⟨_, mg_of X Gn yg0, ⟨_, rfl⟩⟩ (all_cons ⟨_, mg_of X Gn yg1, ⟨_, rfl⟩⟩ (all_nil))
    · exact all_cons (mg_none_of X Gn z0) (all_cons (mg_none_of X Gn z1) (all_cons (mg_none_of X Gn z2) (all_cons (mg_none_of X Gn z3) (all_cons (mg_none_of X Gn z4) (all_cons (mg_none_of X Gn z5) (all_cons (mg_none_of X Gn z6) (all_cons (mg_none_of X Gn z7) (all_cons (mg_none_of X Gn z8) (all_cons (mg_none_of X Gn z9) (all_cons (mg_none_of X Gn z10) (all_cons (mg_none_of X Gn z11) (all_cons (mg_none_of X Gn z12) (all_cons (mg_none_of X Gn z13) (all_nil))))))))))))))
    · exact fun z => by cases z
    · exact all_cons (K2.exc PySem.F.excBase_ValueError cx2 ck2) (all_cons (K1.exc PySem.F.excBase_ValueError cx1 ck1) (all_nil))
    · exact all_cons (sub_own K1 K0 u0) (all_cons (sub_own K1 K1 u1) (all_cons (sub_own K1 K2 u2) (all_cons (sub_own K1 K3 u3) (all_cons (sub_own K1 K4 u4) (all_cons (sub_blt K1 (mg_none_of X Gn z0) (by decide +kernel) (by decide) (by decide +kernel) (by decide +kernel) u5) (all_cons (sub_own K2 K0 u6) (all_cons (sub_own K2 K1 u7) (all_cons (sub_own K2 K2 u8) (all_cons (sub_own K2 K3 u9) (all_cons (sub_own K2 K4 u10) (all_cons (sub_blt K2 (mg_none_of X Gn z0) (by decide +kernel) (by decide) (by decide +kernel) (by decide +kernel) u11) (all_nil))))))))))))
  exact ⟨_, fun s v => .of_eq rfl, fun base _ _ => (law_fn O (d := d29) (n := fuel) (i := 29) rfl F29 s29 c29).imp fun vs H Q E => imp_law law_true⟩
end Law
open PySem PySem.W PyProof.Rows
set_option maxRecDepth 100000 in
set_option maxHeartbeats 0 in
theorem PySem.Challenge.cw_enoughunseen_k03_graphs_and_relabelling_holds : PySem.Challenge.rw_enoughunseen_k03_graphs_and_relabelling.Holds := by
  w_on; o_law; k_head; (case hw => w_witness2)
  k_fill
  refine BV.walk_bv (l := PySem.Challenge.rw_enoughunseen_k03_graphs_and_relabelling) (n := Law.fuel) rfl rfl ⟨rfl, by decide, by decide⟩ (fun w h Y => PySem.W.kIn_of Y) ?F
  case F =>
    intro w mg fa h KX Gn hmg
    refine' Law.all_mk KX Gn hmg ?a0 ?l0 ?e0 ?k0 ?a1 ?l1 ?e1 ?k1 ?a2 ?l2 ?e2 ?k2 ?a3 ?l3 ?e3 ?k3 ?a4 ?l4 ?e4 ?k4 ?a5 ?l5 ?e5 ?k5 ?a6 ?l6 ?e6 ?k6 ?a7 ?l7 ?e7 ?k7 ?a8 ?l8 ?e8 ?k8 ?a9 ?l9 ?e9 ?k9 ?a10 ?l10 ?e10 ?k10 ?a11 ?l11 ?e11 ?k11 ?a12 ?l12 ?e12 ?k12 ?a13 ?l13 ?e13 ?k13 ?a14 ?l14 ?e14 ?k14 ?a15 ?l15 ?e15 ?k15 ?a16 ?l16 ?e16 ?k16 ?a17 ?l17 ?e17 ?k17 ?a18 ?l18 ?e18 ?k18 ?a19 ?l19 ?e19 ?k19 ?a20 ?l20 ?e20 ?k20 ?a21 ?l21 ?e21 ?k21 ?a22 ?l22 ?e22 ?k22 ?a23 ?l23 ?e23 ?k23 ?a24 ?l24 ?e24 ?k24 ?a25 ?l25 ?e25 ?k25 ?a26 ?l26 ?e26 ?k26 ?a27 ?l27 ?e27 ?k27 ?a28 ?l28 ?e28 ?k28 ?a29 ?l29 ?e29 ?k29 ?ca0 ?cg0 ?ch0 ?cb0 ?cd_0 ?cc0 ?cm0 ?ct_0 ?cs0 ?ca1 ?cg1 ?ch1 ?cb1 ?cd_1 ?cc1 ?cm1 ?ct_1 ?cs1 ?cx1 ?ck1 ?ca2 ?cg2 ?ch2 ?cb2 ?cd_2 ?cc2 ?cm2 ?ct_2 ?cs2 ?cx2 ?ck2 ?ca3 ?cg3 ?ch3 ?cb3 ?cd_3 ?cc3 ?cm3 ?ct_3 ?cs3 ?ca4 ?cg4 ?ch4 ?cb4 ?cd_4 ?cc4 ?cm4 ?ct_4 ?cs4 ?qn ?qt ?u0 ?u1 ?u2 ?u3 ?u4 ?u5 ?u6 ?u7 ?u8 ?u9 ?u10 ?u11 ?yg0 ?yg1 ?z0 ?z1 ?z2 ?z3 ?z4 ?z5 ?z6 ?z7 ?z8 ?z9 ?z10 ?z11 ?z12 ?z13
    (case a0 => k_is)
    (case l0 => k_is)
    (case e0 => k_is)
    (case k0 => k_is)
    (case a1 => k_is)
    (case l1 => k_is)
    (case e1 => k_is)
    (case k1 => k_is)
    (case a2 => k_is)
    (case l2 => k_is)
    (case e2 => k_is)
    (case k2 => k_is)
    (case a3 => k_is)
    (case l3 => k_is)
    (case e3 => k_is)
    (case k3 => k_is)
    (case a4 => k_is)
    (case l4 => k_is)
    (case e4 => k_is)
    (case k4 => k_is)
    (case a5 => k_is)
    (case l5 => k_is)
    (case e5 => k_is)
    (case k5 => k_is)
    (case a6 => k_is)
    (case l6 => k_is)
    (case e6 => k_is)
    (case k6 => k_is)
    (case a7 => k_is)
    (case l7 => k_is)
    (case e7 => k_is)
    (case k7 => k_is)
    (case a8 => k_is)
    (case l8 => k_is)
    (case e8 => k_is)
    (case k8 => k_is)
    (case a9 => k_is)
    (case l9 => k_is)
    (case e9 => k_is)
    (case k9 => k_is)
    (case a10 => k_is)
    (case l10 => k_is)
    (case e10 => k_is)
    (case k10 => k_is)
    (case a11 => k_is)
    (case l11 => k_is)
    (case e11 => k_is)
    (case k11 => k_is)
    (case a12 => k_is)
    (case l12 => k_is)
    (case e12 => k_is)
    (case k12 => k_is)
    (case a13 => k_is)
    (case l13 => k_is)
    (case e13 => k_is)
    (case k13 => k_is)
    (case a14 => k_is)
    (case l14 => k_is)
    (case e14 => k_is)
    (case k14 => k_is)
    (case a15 => k_is)
    (case l15 => k_is)
    (case e15 => k_is)
    (case k15 => k_is)
    (case a16 => k_is)
    (case l16 => k_is)
    (case e16 => k_is)
    (case k16 => k_is)
    (case a17 => k_is)
    (case l17 => k_is)
    (case e17 => k_is)
    (case k17 => k_is)
    (case a18 => k_is)
    (case l18 => k_is)
    (case e18 => k_is)
    (case k18 => k_is)
    (case a19 => k_is)
    (case l19 => k_is)
    (case e19 => k_is)
    (case k19 => k_is)
    (case a20 => k_is)
    (case l20 => k_is)
    (case e20 => k_is)
    (case k20 => k_is)
    (case a21 => k_is)
    (case l21 => k_is)
    (case e21 => k_is)
    (case k21 => k_is)
    (case a22 => k_is)
    (case l22 => k_is)
    (case e22 => k_is)
    (case k22 => k_is)
    (case a23 => k_is)
    (case l23 => k_is)
    (case e23 => k_is)
    (case k23 => k_is)
    (case a24 => k_is)
    (case l24 => k_is)
    (case e24 => k_is)
    (case k24 => k_is)
    (case a25 => k_is)
    (case l25 => k_is)
    (case e25 => k_is)
    (case k25 => k_is)
    (case a26 => k_is)
    (case l26 => k_is)
    (case e26 => k_is)
    (case k26 => k_is)
    (case a27 => k_is)
    (case l27 => k_is)
    (case e27 => k_is)
    (case k27 => k_is)
    (case a28 => k_is)
    (case l28 => k_is)
    (case e28 => k_is)
    (case k28 => k_is)
    (case a29 => k_is)
    (case l29 => k_is)
    (case e29 => k_is)
    (case k29 => k_is)
    (case ca0 => k_is)
    (case cg0 => k_is)
    (case ch0 => k_is)
    (case cb0 => k_is)
    (case cd_0 => k_is)
    (case cc0 => k_is)
    (case cm0 => k_is)
    (case ct_0 => k_is)
    (case cs0 => k_is)
    (case ca1 => k_is)
    (case cg1 => k_is)
    (case ch1 => k_is)
    (case cb1 => k_is)
    (case cd_1 => k_is)
    (case cc1 => k_is)
    (case cm1 => k_is)
    (case ct_1 => k_is)
    (case cs1 => k_is)
    (case cx1 => k_exc)
    (case ck1 => k_is)
    (case ca2 => k_is)
    (case cg2 => k_is)
    (case ch2 => k_is)
    (case cb2 => k_is)
    (case cd_2 => k_is)
    (case cc2 => k_is)
    (case cm2 => k_is)
    (case ct_2 => k_is)
    (case cs2 => k_is)
    (case cx2 => k_exc)
    (case ck2 => k_is)
    (case ca3 => k_is)
    (case cg3 => k_is)
    (case ch3 => k_is)
    (case cb3 => k_is)
    (case cd_3 => k_is)
    (case cc3 => k_is)
    (case cm3 => k_is)
    (case ct_3 => k_is)
    (case cs3 => k_is)
    (case ca4 => k_is)
    (case cg4 => k_is)
    (case ch4 => k_is)
    (case cb4 => k_is)
    (case cd_4 => k_is)
    (case cc4 => k_is)
    (case cm4 => k_is)
    (case ct_4 => k_is)
    (case cs4 => k_is)
    (case qn => k_is)
    (case qt => k_is)
    (case u0 => k_is)
    (case u1 => k_is)
    (case u2 => k_is)
    (case u3 => k_is)
    (case u4 => k_is)
    (case u5 => k_is)
    (case u6 => k_is)
    (case u7 => k_is)
    (case u8 => k_is)
    (case u9 => k_is)
    (case u10 => k_is)
    (case u11 => k_is)
    (case yg0 => k_is)
    (case yg1 => k_is)
    (case z0 => k_is)
    (case z1 => k_is)
    (case z2 => k_is)
    (case z3 => k_is)
    (case z4 => k_is)
    (case z5 => k_is)
    (case z6 => k_is)
    (case z7 => k_is)
    (case z8 => k_is)
    (case z9 => k_is)
    (case z10 => k_is)
    (case z11 => k_is)
    (case z12 => k_is)
    (case z13 => k_is)
