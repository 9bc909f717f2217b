import PyProof.Rows.All
import Wide.All
import OpenK.AllK
import Wide.FinOn
import HandS.ForMost
import HandS.Wide
import HandS.Deep
import HandS.TupAny
import HandS.IsInst
import HandS.TupLe
import HandS.TupMul
import HandS.Finally
import HandS.More
import HandS.Flow
import HandS.Exc
import HandS.ExcOwn
import HandS.CallSlots
import HandS.Zip
import KE.GoesMore
import HandS.Small
import HandS.WordsExc
import PySem.Challenge.RW_kindbooks_k11_kinds_of_any_thing
set_option Elab.async false
set_option linter.all false
set_option maxRecDepth 100000
set_option maxHeartbeats 4000000
/-! PFA: a small functional language for the defs of a program: values, stores, what a part comes to. -/
namespace L2.PF
open PySem PySem.Spec PyProof.Rows

/-- a value: tuples and lists that nobody changes are values themselves; what is changed lies in the store -/
inductive PV where
  | non
  | bl (b : Bool)
  | int (i : Int)
  | str (x : Str)
  | tup (xs : List PV)
  | lv (xs : List PV)
  | loc (n : Nat)
  /-- the script: a list that stands as it is -/
  | fz (xs : List PV)
  /-- a dict that nobody changes any more: its keys, its values -/
  | dv (ks : List Key) (xs : List PV)
  /-- an instance that nobody changes any more: its class's name, its fields -/
  | iv (c : Str) (ns : List Str) (xs : List PV)
  deriving Inhabited

mutual
def PV.beq : PV → PV → Bool
  | .non, .non => true
  | .bl a, .bl b => decide (a = b)
  | .int a, .int b => decide (a = b)
  | .str a, .str b => decide (a = b)
  | .tup xs, .tup ys => PV.beqs xs ys
  | .lv xs, .lv ys => PV.beqs xs ys
  | .loc a, .loc b => decide (a = b)
  | .fz xs, .fz ys => PV.beqs xs ys
  | .dv ks xs, .dv ls ys => decide (ks = ls) && PV.beqs xs ys
  | .iv c ns xs, .iv d ms ys => decide (c = d) && (decide (ns = ms) && PV.beqs xs ys)
  | _, _ => false
def PV.beqs : List PV → List PV → Bool
  | [], [] => true
  | x :: xs, y :: ys => PV.beq x y && PV.beqs xs ys
  | _, _ => false
end
mutual
theorem PV.eq_of : ∀ (x y : PV), PV.beq x y = true → x = y
  | .non, y, h => by cases y <;> simp [PV.beq] at h <;> rfl
  | .bl a, y, h => by cases y <;> simp [PV.beq] at h; rw [h]
  | .int a, y, h => by cases y <;> simp [PV.beq] at h; rw [h]
  | .str a, y, h => by cases y <;> simp [PV.beq] at h; rw [h]
  | .tup xs, y, h => by
    cases y <;> simp [PV.beq] at h
    rw [PV.eqs_of _ _ h]
  | .lv xs, y, h => by
    cases y <;> simp [PV.beq] at h
    rw [PV.eqs_of _ _ h]
  | .loc a, y, h => by cases y <;> simp [PV.beq] at h; rw [h]
  | .fz xs, y, h => by
    cases y <;> simp [PV.beq] at h
    rw [PV.eqs_of _ _ h]
  | .dv ks xs, y, h => by
    cases y <;> simp [PV.beq] at h
    rw [h.1, PV.eqs_of _ _ h.2]
  | .iv c ns xs, y, h => by
    cases y <;> simp [PV.beq] at h
    rw [h.1, h.2.1, PV.eqs_of _ _ h.2.2]
theorem PV.eqs_of : ∀ (x y : List PV), PV.beqs x y = true → x = y
  | [], y, h => by cases y <;> simp [PV.beqs] at h <;> rfl
  | x :: xs, y, h => by
    cases y with
    | nil => simp [PV.beqs] at h
    | cons y ys =>
      simp only [PV.beqs, Bool.and_eq_true] at h
      rw [PV.eq_of _ _ h.1, PV.eqs_of _ _ h.2]
end
mutual
theorem PV.beq_self : ∀ x : PV, PV.beq x x = true
  | .non => rfl
  | .bl _ => by simp [PV.beq]
  | .int _ => by simp [PV.beq]
  | .str _ => by simp [PV.beq]
  | .tup xs => by rw [PV.beq]; exact PV.beqs_self xs
  | .lv xs => by rw [PV.beq]; exact PV.beqs_self xs
  | .loc _ => by simp [PV.beq]
  | .fz xs => by rw [PV.beq]; exact PV.beqs_self xs
  | .dv ks xs => by rw [PV.beq, PV.beqs_self xs]; simp
  | .iv c ns xs => by rw [PV.beq, PV.beqs_self xs]; simp
theorem PV.beqs_self : ∀ x : List PV, PV.beqs x x = true
  | [] => rfl
  | x :: xs => by rw [PV.beqs, PV.beq_self x, PV.beqs_self xs]; rfl
end
instance : DecidableEq PV := fun x y => if h : PV.beq x y = true then isTrue (PV.eq_of x y h) else isFalse (fun e => h (e ▸ PV.beq_self x))

/-- an object of the store -/
inductive PO where
  | lst (xs : List PV)
  | dic (kvs : List (Key × PV))
  | ins (c : Str) (fs : List (Str × PV))
  deriving DecidableEq, Inhabited
abbrev Store := List PO
abbrev Env := List (Option PV)

/-- what a part comes to -/
inductive R (α : Type) where
  | ok (a : α) (S : Store)
  | exc (c : Str) (fs : List (Str × PV)) (S : Store)
  | bad
  deriving Inhabited
/-- what a statement comes to -/
inductive SR where
  | nx (e : Env) (S : Store)
  | rt (v : PV) (S : Store)
  | bk (e : Env) (S : Store)
  | ct (e : Env) (S : Store)
  | exc (c : Str) (fs : List (Str × PV)) (e : Env) (S : Store)
  | bad
  deriving Inhabited

def R.bind {α β : Type} (r : R α) (f : α → Store → R β) : R β :=
  match r with
  | .ok a S => f a S
  | .exc c fs S => .exc c fs S
  | .bad => .bad
@[simp] theorem R.bind_ok {α β : Type} {a : α} {S : Store} {f : α → Store → R β} : (R.ok a S).bind f = f a S := rfl
@[simp] theorem R.bind_exc {α β : Type} {c fs} {S : Store} {f : α → Store → R β} : (R.exc c fs S : R α).bind f = .exc c fs S := rfl
@[simp] theorem R.bind_bad {α β : Type} {f : α → Store → R β} : (R.bad : R α).bind f = .bad := rfl
def R.toS {α : Type} (r : R α) (e : Env) (f : α → Store → SR) : SR :=
  match r with
  | .ok a S => f a S
  | .exc c fs S => .exc c fs e S
  | .bad => .bad
@[simp] theorem R.toS_ok {α : Type} {a : α} {S : Store} {e : Env} {f : α → Store → SR} : (R.ok a S).toS e f = f a S := rfl
@[simp] theorem R.toS_exc {α : Type} {c fs} {S : Store} {e : Env} {f : α → Store → SR} : (R.exc c fs S : R α).toS e f = .exc c fs e S := rfl
@[simp] theorem R.toS_bad {α : Type} {e : Env} {f : α → Store → SR} : (R.bad : R α).toS e f = .bad := rfl
def SR.then (r : SR) (f : Env → Store → SR) : SR :=
  match r with
  | .nx e S => f e S
  | r => r
@[simp] theorem SR.then_nx {e : Env} {S : Store} {f : Env → Store → SR} : (SR.nx e S).then f = f e S := rfl
@[simp] theorem SR.then_rt {v : PV} {S : Store} {f : Env → Store → SR} : (SR.rt v S).then f = .rt v S := rfl
@[simp] theorem SR.then_bk {e : Env} {S : Store} {f : Env → Store → SR} : (SR.bk e S).then f = .bk e S := rfl
@[simp] theorem SR.then_ct {e : Env} {S : Store} {f : Env → Store → SR} : (SR.ct e S).then f = .ct e S := rfl
@[simp] theorem SR.then_exc {c fs} {e : Env} {S : Store} {f : Env → Store → SR} : (SR.exc c fs e S).then f = .exc c fs e S := rfl
@[simp] theorem SR.then_bad {f : Env → Store → SR} : SR.bad.then f = .bad := rfl
def R.ofO {α : Type} (o : Option α) (S : Store) : R α := match o with | some a => .ok a S | none => .bad
@[simp] theorem R.ofO_some {α : Type} {a : α} {S : Store} : R.ofO (some a) S = .ok a S := rfl
@[simp] theorem R.ofO_none {α : Type} {S : Store} : R.ofO (none : Option α) S = .bad := rfl

/-! ### values -/
/-- the items of a list or tuple -/
def items (S : Store) : PV → Option (List PV)
  | .tup xs => some xs
  | .lv xs => some xs
  | .fz xs => some xs
  | .loc n => match S[n]? with
    | some (.lst xs) => some xs
    | _ => none
  | _ => none
/-- the items of a list -/
def litems (S : Store) : PV → Option (List PV)
  | .lv xs => some xs
  | .fz xs => some xs
  | .loc n => match S[n]? with
    | some (.lst xs) => some xs
    | _ => none
  | _ => none
/-- .. of a list that is not the script -/
def mitems (S : Store) : PV → Option (List PV)
  | .lv xs => some xs
  | .loc n => match S[n]? with
    | some (.lst xs) => some xs
    | _ => none
  | _ => none
def truth (S : Store) : PV → Option Bool
  | .non => some false
  | .bl b => some b
  | .int i => some (i != 0)
  | .str x => some ((x.length : Int) != 0)
  | .tup xs => some (!xs.isEmpty)
  | .lv xs => some (!xs.isEmpty)
  | .fz xs => some (!xs.isEmpty)
  | .dv ks xs => some (!(ks.zip xs).isEmpty)
  | .iv _ _ _ => none
  | .loc n => match S[n]? with
    | some (.lst xs) => some (!xs.isEmpty)
    | some (.dic kvs) => some (!kvs.isEmpty)
    | _ => none
/-- x in a list or tuple of plain values -/
def flatP : PV → Bool
  | .non => true
  | .bl _ => true
  | .int _ => true
  | .str _ => true
  | _ => false
def eqP : PV → PV → Bool
  | .non, .non => true
  | .bl a, .bl b => a == b
  | .bl a, .int b => (if a then 1 else 0) == b
  | .int a, .bl b => a == (if b then 1 else 0)
  | .int a, .int b => a == b
  | .str a, .str b => a == b
  | _, _ => false
def mapO {α β : Type} (f : α → Option β) : List α → Option (List β)
  | [] => some []
  | x :: xs => match f x with
    | none => none
    | some y => match mapO f xs with
      | none => none
      | some ys => some (y :: ys)
/-- a tuple's, a list's items -/
def seqK (S : Store) : PV → Option (Bool × List PV)
  | .tup xs => some (true, xs)
  | v => (litems S v).map fun xs => (false, xs)
/-- item by item -/
def eqL (f : PV → PV → Option Bool) : List PV → List PV → Option Bool
  | [], [] => some true
  | [], _ :: _ => some false
  | _ :: _, [] => some false
  | x :: xs, y :: ys => match f x y with
    | none => none
    | some a => match eqL f xs ys with
      | none => none
      | some b => some (a && b)
def eqS (f : PV → PV → Option Bool) (p q : Bool × List PV) : Option Bool :=
  if p.1 = q.1 then (if p.1 = false && decide (p.2.length ≠ q.2.length) then some false else eqL f p.2 q.2) else some false
/-- ==, k within one another at most -/
def eqG (S : Store) : Nat → PV → PV → Option Bool
  | 0, _, _ => none
  | k + 1, v, u => if flatP v then (if flatP u then some (eqP v u) else match seqK S u with | some _ => some false | none => none)
    else match seqK S v with
      | none => none
      | some p => if flatP u then some false else match seqK S u with
        | none => none
        | some q => eqS (eqG S k) p q
def eqD (S : Store) (v u : PV) : Option Bool := eqG S 170 v u
/-- x among these -/
def inD (S : Store) (x : PV) (xs : List PV) : Option Bool := (mapO (fun z => eqD S z x) xs).map fun bs => bs.any id
def keyOf : PV → Option Key
  | .int i => some (.inl i)
  | .str x => some (.inr x)
  | _ => none
def ofKey : Key → PV
  | .inl i => .int i
  | .inr x => .str x
def getK (kvs : List (Key × PV)) (k : Key) : Option PV := (kvs.find? fun kv => decide (kv.1 = k)).map (·.2)
/-- the pairs of a dict -/
def ditems (S : Store) : PV → Option (List (Key × PV))
  | .dv ks xs => some (ks.zip xs)
  | .loc n => match S[n]? with
    | some (.dic kvs) => some kvs
    | _ => none
  | _ => none
/-- x in y -/
def isIn (S : Store) (x y : PV) : Option Bool :=
  match y with
  | .str z => match x with
    | .str s => some (!(Builtin.Str.occurrences z s 0 z.length 1).isEmpty)
    | _ => none
  | .loc n => match S[n]? with
    | some (.dic kvs) => match keyOf x with
      | some k => some (getK kvs k).isSome
      | none => none
    | _ => match items S y with
      | some xs => inD S x xs
      | none => none
  | .lv xs => inD S x xs
  | .tup xs => inD S x xs
  | .dv ks xs => match keyOf x with
    | some k => some (getK (ks.zip xs) k).isSome
    | none => none
  | _ => none
def cmpV (op : CmpOp) (S : Store) (x y : PV) : Option Bool :=
  match op with
  | .Eq => eqD S x y
  | .NotEq => (eqD S x y).map (!·)
  | .In => isIn S x y
  | .NotIn => (isIn S x y).map (!·)
  | .Is => match y with
    | .non => some (decide (x = .non))
    | .bl b => match x with | .bl a => some (decide (a = b)) | _ => none
    | _ => none
  | .IsNot => match y with
    | .non => some (!decide (x = .non))
    | .bl b => match x with | .bl a => some (!decide (a = b)) | _ => none
    | _ => none
  | .Lt => match x, y with
    | .int i, .int j => some (decide (i < j))
    | .str i, .str j => some (decide (i.cps.toList < j.cps.toList))
    | _, _ => none
  | .LtE => match x, y with
    | .int i, .int j => some (decide (i ≤ j))
    | .str i, .str j => some (!decide (j.cps.toList < i.cps.toList))
    | _, _ => none
  | .Gt => match x, y with
    | .int i, .int j => some (decide (j < i))
    | .str i, .str j => some (decide (j.cps.toList < i.cps.toList))
    | _, _ => none
  | .GtE => match x, y with
    | .int i, .int j => some (decide (j ≤ i))
    | .str i, .str j => some (!decide (i.cps.toList < j.cps.toList))
    | _, _ => none
/-- what an int's size may be where two are multiplied -/
def mulOk (i j : Int) : Bool := decide (i.natAbs.log2 + j.natAbs.log2 < 1000000)
def powOk (i j : Int) : Bool := decide (0 ≤ j ∧ j ≤ 1000000 ∧ i.natAbs < 2 ^ 64)
def divOk (j : Int) : Bool := decide (0 < j ∧ j.natAbs.log2 < 9000)
def okB (x : Str) : Bool := decide (x.length ≤ sizeLine) && PyData.strOk x
/-- a binary operator; m: a new list is laid in the store -/
def binV (op : Operator) (S : Store) (x y : PV) : Option PV :=
  match op with
  | .Add => match x, y with
    | .int i, .int j => some (.int (i + j))
    | .str i, .str j => if i.length + j.length ≤ sizeLine then some (.str (i ++ j)) else none
    | .tup xs, .tup ys => if xs.length + ys.length ≤ sizeLine then some (.tup (xs ++ ys)) else none
    | _, _ => match mitems S x, mitems S y with
      | some xs, some ys => if xs.length + ys.length ≤ sizeLine then some (.lv (xs ++ ys)) else none
      | _, _ => none
  | .Sub => match x, y with
    | .int i, .int j => some (.int (i - j))
    | _, _ => none
  | .Mult => match x, y with
    | .int i, .int j => if mulOk i j then some (.int (i * j)) else none
    | .str z, .int j => if decide (0 ≤ j ∧ j ≤ 1000000 ∧ z.length * j.toNat ≤ 1000000) && okB (Txt.mul z j) then some (.str (Txt.mul z j)) else none
    | .tup xs, .int j => if !xs.isEmpty && decide (2 ≤ j ∧ j ≤ 1000 ∧ xs.length ≤ 1000) then some (.tup (List.replicate j.toNat xs).flatten) else none
    | _, .int j => match mitems S x with
      | some xs => if decide (-(2 ^ 63) ≤ j ∧ j < 2 ^ 63 ∧ xs.length * j.toNat ≤ sizeLine) then some (.lv (List.replicate j.toNat xs).flatten) else none
      | none => none
    | _, _ => none
  | .FloorDiv => match x, y with
    | .int i, .int j => if divOk j then some (.int (i / j)) else none
    | _, _ => none
  | .Mod => match x, y with
    | .int i, .int j => if 0 < j then some (.int (i % j)) else none
    | _, _ => none
  | .Pow => match x, y with
    | .int i, .int j => if powOk i j then some (.int (i ^ j.toNat)) else none
    | _, _ => none
  | _ => none
def strAt (z : Str) (i : Int) : Option PV := match atI z.cps.toList i with | some c => some (.str ⟨#[c]⟩) | none => none
/-- x[y] -/
def ixV (S : Store) (x y : PV) : Option PV :=
  match x with
  | .str z => match y with | .int i => strAt z i | _ => none
  | .tup xs => match y with | .int i => atI xs i | _ => none
  | .lv xs => match y with | .int i => atI xs i | _ => none
  | .fz xs => match y with | .int i => atI xs i | _ => none
  | .dv ks xs => match keyOf y with | some k => getK (ks.zip xs) k | none => none
  | .loc n => match S[n]? with
    | some (.lst xs) => match y with | .int i => atI xs i | _ => none
    | some (.dic kvs) => match keyOf y with | some k => getK kvs k | none => none
    | _ => none
  | _ => none
def cutP (xs : List PV) (lo hi : Option Int) : List PV := (xs.drop (HT.sIx xs.length 0 lo)).take (HT.sIx xs.length xs.length hi - HT.sIx xs.length 0 lo)
def bound : PV → Option (Option Int)
  | .non => some none
  | .int i => some (some i)
  | _ => none
/-- x[lo:hi] -/
def slV (S : Store) (x : PV) (lo hi : Option Int) : Option PV :=
  match x with
  | .str z => some (.str (cutS z lo hi))
  | .tup xs => some (.tup (cutP xs lo hi))
  | _ => match litems S x with
    | some xs => some (.lv (cutP xs lo hi))
    | none => none
def lenV (S : Store) (x : PV) : Option Nat :=
  match x with
  | .str z => some z.length
  | .tup xs => some xs.length
  | .lv xs => some xs.length
  | .fz xs => some xs.length
  | .dv ks xs => some (ks.zip xs).length
  | .loc n => match S[n]? with
    | some (.lst xs) => some xs.length
    | some (.dic kvs) => some kvs.length
    | _ => none
  | _ => none
def intsOf : List PV → Option (List Int)
  | [] => some []
  | .int i :: r => match intsOf r with | some is => some (i :: is) | none => none
  | _ => none
def boolsOf : List PV → Option (List Bool)
  | [] => some []
  | .bl b :: r => match boolsOf r with | some is => some (b :: is) | none => none
  | _ => none
def strsOf : List PV → Option (List Str)
  | [] => some []
  | .str b :: r => match strsOf r with | some is => some (b :: is) | none => none
  | _ => none
/-- a type's name -/
def tyName (S : Store) : PV → Option String
  | .non => some "NoneType"
  | .bl _ => some "bool"
  | .int _ => some "int"
  | .str _ => some "str"
  | .tup _ => some "tuple"
  | .lv _ => some "list"
  | .fz _ => none
  | .dv _ _ => some "dict"
  | .iv _ _ _ => none
  | .loc n => match S[n]? with
    | some (.lst _) => some "list"
    | some (.dic _) => some "dict"
    | _ => none
def isT (t c : String) : Bool := t == c || (t == "bool" && c == "int")
/-- the built-in functions -/
inductive Blt where
  | len | int1 | tuple1 | list1 | list0 | list1m | list0m | dict1 | dict1m | max2 | min2 | all1 | any1 | sum1 | str1 | maxL | minL
  deriving DecidableEq, Inhabited
def bltV (b : Blt) (S : Store) (vs : List PV) : Option PV :=
  match b, vs with
  | .len, [x] => (lenV S x).map fun (n : Nat) => PV.int n
  | .int1, [.int i] => some (.int i)
  | .int1, [.bl k] => some (.int (if k then 1 else 0))
  | .tuple1, [x] => (items S x).map .tup
  | .list1, [x] => (items S x).map .lv
  | .list0, [] => some (.lv [])
  | .max2, [.int i, .int j] => some (.int (if j > i then j else i))
  | .min2, [.int i, .int j] => some (.int (if j < i then j else i))
  | .all1, [x] => match litems S x with
    | some xs => (boolsOf xs).map fun bs => .bl (bs.all id)
    | none => none
  | .any1, [x] => match litems S x with
    | some xs => (boolsOf xs).map fun bs => .bl (bs.any id)
    | none => none
  | .sum1, [x] => match litems S x with
    | some xs => (intsOf xs).map fun is => .int is.sum
    | none => none
  | .str1, [.int i] => if decide (i.natAbs.log2 < 1920) && okB (Str.ofString (toString i)) then some (.str (Str.ofString (toString i))) else none
  | _, _ => none
/-- the methods -/
inductive Mth where
  | append | extend | pop0 | pop1 | get1 | get2 | join | partition | clearL | clearD | count | split
  deriving DecidableEq, Inhabited
def mthT : Mth → String
  | .append => "list"
  | .extend => "list"
  | .pop0 => "list"
  | .pop1 => "list"
  | .get1 => "dict"
  | .get2 => "dict"
  | .join => "str"
  | .partition => "str"
  | .clearL => "list"
  | .clearD => "dict"
  | .count => "str"
  | .split => "str"
/-- o is of the method's type -/
def mthIs (b : Mth) (S : Store) (o : PV) : Bool := tyName S o == some (mthT b)
def putP (kvs : List (Key × PV)) (k : Key) (v : PV) : List (Key × PV) :=
  if (kvs.any fun kv => decide (kv.1 = k)) = true then kvs.map (fun kv => if kv.1 = k then (kv.1, v) else kv) else kvs ++ [(k, v)]
def mthV (b : Mth) (S : Store) (o : PV) (vs : List PV) : R PV :=
  match b, o, vs with
  | .append, .loc n, [v] => match S[n]? with
    | some (.lst xs) => if xs.length < sizeLine then .ok .non (S.set n (.lst (xs ++ [v]))) else .bad
    | _ => .bad
  | .extend, .loc n, [v] => match S[n]?, mitems S v with
    | some (.lst xs), some ys => if xs.length + ys.length ≤ sizeLine then .ok .non (S.set n (.lst (xs ++ ys))) else .bad
    | _, _ => .bad
  | .pop0, .loc n, [] => match S[n]? with
    | some (.lst xs) => match xs[xs.length - 1]? with
      | some y => .ok y (S.set n (.lst xs.dropLast))
      | none => .bad
    | _ => .bad
  | .pop1, .loc n, [.int i] => match S[n]? with
    | some (.lst xs) => match ixN xs.length i with
      | some k => match xs[k]? with
        | some y => .ok y (S.set n (.lst (xs.eraseIdx k)))
        | none => .bad
      | none => .bad
    | _ => .bad
  | .get1, o, [k] => match ditems S o, keyOf k with
    | some kvs, some k => .ok ((getK kvs k).getD .non) S
    | _, _ => .bad
  | .get2, o, [k, d] => match ditems S o, keyOf k with
    | some kvs, some k => .ok ((getK kvs k).getD d) S
    | _, _ => .bad
  | .join, .str a, [x] => match litems S x with
    | some xs => match strsOf xs with
      | some ys => if (ys.map (·.length)).sum + ys.length * a.length ≤ 16777216 then .ok (.str (Txt.join a ys)) S else .bad
      | none => .bad
    | none => .bad
  | .partition, .str a, [.str b] => if !(b.length == 0) && okB (Txt.partition a b).1 && okB (Txt.partition a b).2.1 && okB (Txt.partition a b).2.2 then .ok (.tup [.str (Txt.partition a b).1, .str (Txt.partition a b).2.1, .str (Txt.partition a b).2.2]) S else .bad
  | .count, .str a, [.str b] => .ok (.int (Txt.count a b)) S
  | .split, .str a, [.str b] => if !(b.length == 0) && decide (a.length + 2 ≤ sizeLine) && (Txt.split a b).all okB && decide ((Txt.split a b).length ≤ sizeLine) then .ok (.lv ((Txt.split a b).map .str)) S else .bad
  | .clearD, .loc n, [] => match S[n]? with
    | some (.dic _) => .ok .non (S.set n (.dic []))
    | _ => .bad
  | .clearL, .loc n, [] => match S[n]? with
    | some (.lst _) => .ok .non (S.set n (.lst []))
    | _ => .bad
  | _, _, _ => .bad

/-! ### what a for walks -/
inductive IK where
  | seq | rng1 | rng2 | enum | zip
  deriving DecidableEq, Inhabited
def intRow (lo : Int) (n : Nat) : List PV := (List.range n).map fun (i : Nat) => .int (lo + i)
def enumP (xs : List PV) : List PV := xs.mapIdx fun i x => .tup [.int (i : Int), x]
def zipP (xs ys : List PV) : List PV := List.zipWith (fun x y => .tup [x, y]) xs ys
/-- the lists of the store that must stay as they are while they are walked -/
abbrev Grd := List (Nat × PO)
def grd (S : Store) : PV → Grd
  | .loc n => match S[n]? with
    | some (.lst xs) => [(n, .lst xs)]
    | _ => []
  | _ => []
def grdOk (g : Grd) (S : Store) : Bool := g.all fun p => decide (S[p.1]? = some p.2)
def small (i : Int) : Bool := decide (-(2 ^ 62) ≤ i ∧ i < 2 ^ 62)
def iterV (k : IK) (S : Store) (vs : List PV) : Option (List PV × Grd) :=
  match k, vs with
  | .seq, [.str z] => some (z.cps.toList.map fun c => .str ⟨#[c]⟩, [])
  | .seq, [x] => (items S x).map fun xs => (xs, grd S x)
  | .rng1, [.int j] => if small j && decide (j.toNat ≤ sizeLine) then some (intRow 0 j.toNat, []) else none
  | .rng2, [.int i, .int j] => if small i && small j && decide ((j - i).toNat ≤ sizeLine) then some (intRow i (j - i).toNat, []) else none
  | .enum, [x] => (items S x).map fun xs => (enumP xs, grd S x)
  | .zip, [.tup xs, .tup ys] => some (zipP xs ys, [])
  | .zip, [x, y] => match litems S x, litems S y with
    | some xs, some ys => some (zipP xs ys, grd S x ++ grd S y)
    | _, _ => none
  | _, _ => none

/-! ### the language -/
/-- a target: a slot, or slots of a tuple -/
inductive Tg where
  | n (i : Nat)
  | t (is : List Nat)
  deriving DecidableEq, Inhabited
def putT : Tg → PV → Env → Option Env
  | .n i, v, e => some (e.set i (some v))
  | .t is, .tup xs, e => if is.length = xs.length then some ((is.zip xs).foldl (fun e p => e.set p.1 (some p.2)) e) else none
  | _, _, _ => none
inductive X where
  | c (v : PV)
  | v (i : Nat)
  | bin (op : Operator) (a b : X)
  | neg (a : X)
  | cmp (op : CmpOp) (a b : X)
  | chn (o1 o2 : CmpOp) (a b c : X)
  | and (a b : X)
  | or (a b : X)
  | not (a : X)
  | ite (c a b : X)
  | tup (xs : List X)
  /-- m: laid in the store -/
  | lst (m : Bool) (xs : List X)
  | dic (m : Bool) (kvs : List X)
  | ix (a b : X)
  | sl (a lo hi : X)
  /-- an int -/
  | num (a : X)
  | isi (a : X) (ts : List String)
  | fn (f : Nat) (xs : List X)
  | blt (b : Blt) (xs : List X)
  | mth (b : Mth) (o : X) (xs : List X)
  | comp (m : Bool) (elt : X) (own : List Nat) (tg : Tg) (k : IK) (its : List X) (ifs : List X)
  deriving Inhabited
def wipeE (e : Env) : List Nat → Env
  | [] => e
  | v :: vs => (wipeE e vs).set v none
/-- a comprehension's test, at most one -/
def ifsV (S : Store) : List PV → Option Bool
  | [] => some true
  | [v] => truth S v
  | _ => none
/-- the turns of a comprehension -/
def compL (g : Grd) (turn : PV → Store → R (Option PV)) : List PV → List PV → Store → R (List PV)
  | [], acc, S => if grdOk g S then .ok acc S else .bad
  | x :: r, acc, S => if grdOk g S then (match turn x S with
    | .ok (some y) S' => compL g turn r (acc ++ [y]) S'
    | .ok none S' => compL g turn r acc S'
    | _ => .bad) else .bad
/-- .. whose list is an object of the store, at l -/
def compM (g : Grd) (l : Nat) (turn : PV → Store → R (Option PV)) : List PV → Store → R PV
  | [], S => if grdOk g S then .ok (.loc l) S else .bad
  | x :: r, S => if grdOk g S then (match turn x S with
    | .ok (some y) S' => match S'[l]? with
      | some (.lst acc) => if acc.length < sizeLine then compM g l turn r (S'.set l (.lst (acc ++ [y]))) else .bad
      | _ => .bad
    | .ok none S' => compM g l turn r S'
    | _ => .bad) else .bad
/-- a fresh dict of these pairs, keys and values by turns -/
def dicOf : List PV → Option (List (Key × PV))
  | [] => some []
  | k :: v :: r => match keyOf k, dicOf r with
    | some k, some r => some ((k, v) :: r)
    | _, _ => none
  | _ => none
def mkDict (m : Bool) (kvs : List (Key × PV)) (S : Store) : R PV := if m then .ok (.loc S.length) (S ++ [.dic kvs]) else .ok (.dv (kvs.map (·.1)) (kvs.map (·.2))) S
def dicNew (m : Bool) (vs : List PV) (S : Store) : R PV :=
  match dicOf vs with
  | some kvs => if kvs.length ≤ 15 then mkDict m (kvs.foldl (fun d kv => putP d kv.1 kv.2) []) S else .bad
  | none => .bad
/-- no exception -/
def R.only {α : Type} : R α → R α
  | .ok a S => .ok a S
  | _ => .bad
def bltR (b : Blt) (S : Store) (vs : List PV) : R PV :=
  match b, vs with
  | .dict1, [x] => match ditems S x with
    | some kvs => mkDict false kvs S
    | none => .bad
  | .dict1m, [x] => match ditems S x with
    | some kvs => mkDict true kvs S
    | none => .bad
  | .list0m, [] => .ok (.loc S.length) (S ++ [.lst []])
  | .list1m, [x] => match items S x with
    | some xs => .ok (.loc S.length) (S ++ [.lst xs])
    | none => .bad
  | b, vs => R.ofO (bltV b S vs) S
def mkList (m : Bool) (vs : List PV) (S : Store) : R PV := if m then .ok (.loc S.length) (S ++ [.lst vs]) else .ok (.lv vs) S
def compR (m : Bool) (turn : PV → Store → R (Option PV)) (p : List PV × Grd) (S : Store) : R PV :=
  if m then compM p.2 S.length turn p.1 (S ++ [.lst []]) else (compL p.2 turn p.1 [] S).bind fun ys S => .ok (.lv ys) S

section
variable (cf : Nat → List PV → Store → R PV)
mutual
def ev : X → Env → Store → R PV
  | .c v, _, S => .ok v S
  | .v i, e, S => match e[i]? with
    | some (some v) => .ok v S
    | _ => .bad
  | .bin op a b, e, S => (ev a e S).bind fun x S => (ev b e S).bind fun y S => R.ofO (binV op S x y) S
  | .neg a, e, S => (ev a e S).bind fun x S => match x with | .int i => .ok (.int (-i)) S | _ => .bad
  | .cmp op a b, e, S => (ev a e S).bind fun x S => (ev b e S).bind fun y S => R.ofO ((cmpV op S x y).map .bl) S
  | .chn o1 o2 a b c, e, S => (ev a e S).bind fun x S => (ev b e S).bind fun y S => (R.ofO (cmpV o1 S x y) S).bind fun k S =>
    if k = true then (ev c e S).bind fun z S => R.ofO ((cmpV o2 S y z).map .bl) S else .ok (.bl false) S
  | .and a b, e, S => (ev a e S).bind fun x S => (R.ofO (truth S x) S).bind fun k S => if k = true then ev b e S else .ok x S
  | .or a b, e, S => (ev a e S).bind fun x S => (R.ofO (truth S x) S).bind fun k S => if k = true then .ok x S else ev b e S
  | .not a, e, S => (ev a e S).bind fun x S => (R.ofO (truth S x) S).bind fun k S => .ok (.bl (!k)) S
  | .ite c a b, e, S => (ev c e S).bind fun x S => (R.ofO (truth S x) S).bind fun k S => if k = true then ev a e S else ev b e S
  | .tup xs, e, S => (evs xs e S).bind fun vs S => if vs.length ≤ sizeLine then .ok (.tup vs) S else .bad
  | .lst m xs, e, S => (evs xs e S).bind fun vs S => if vs.length ≤ sizeLine then mkList m vs S else .bad
  | .dic m kvs, e, S => (evs kvs e S).only.bind fun vs S => dicNew m vs S
  | .ix a b, e, S => (ev a e S).bind fun x S => (ev b e S).bind fun y S => R.ofO (ixV S x y) S
  | .sl a lo hi, e, S => (ev a e S).bind fun x S => (ev lo e S).bind fun l S => (R.ofO (bound l) S).bind fun l S => (ev hi e S).bind fun h S => (R.ofO (bound h) S).bind fun h S => R.ofO (slV S x l h) S
  | .num a, e, S => (ev a e S).bind fun x S => match x with | .int i => .ok (.int i) S | _ => .bad
  | .isi a ts, e, S => (ev a e S).bind fun x S => (R.ofO (tyName S x) S).bind fun t S => .ok (.bl (ts.any (isT t))) S
  | .fn f xs, e, S => (evs xs e S).bind fun vs S => cf f vs S
  | .blt b xs, e, S => (evs xs e S).bind fun vs S => bltR b S vs
  | .mth b o xs, e, S => (ev o e S).bind fun o S => if mthIs b S o then (evs xs e S).bind fun vs S => mthV b S o vs else .bad
  | .comp m elt own tg k its ifs, e, S => (evs its e S).bind fun vs S => (R.ofO (iterV k S vs) S).bind fun p S =>
    compR m (fun x S => match putT tg x (wipeE e own) with
      | none => .bad
      | some e' => (evs ifs e' S).bind fun cs S => (R.ofO (ifsV S cs) S).bind fun k S => if k = true then (ev elt e' S).bind fun y S => .ok (some y) S else .ok none S) p S
def evs : List X → Env → Store → R (List PV)
  | [], _, S => .ok [] S
  | x :: xs, e, S => (ev x e S).bind fun v S => (evs xs e S).bind fun vs S => .ok (v :: vs) S
end
end

inductive Sm where
  | set (tg : Tg) (e : X)
  | par (i j : Nat) (a b : X)
  | setix (o k e : X)
  | aug (i : Nat) (op : Operator) (e : X)
  | ex (e : X)
  | ret (e : X)
  | ite (c : X) (a b : List Sm)
  | forS (tg : Tg) (k : IK) (its : List X) (b : List Sm)
  | whl (c : X) (b : List Sm)
  | pass
  | brk
  | cnt
  deriving Inhabited
/-- the turns of a for -/
def forL (g : Grd) (body : PV → Env → Store → SR) : List PV → Env → Store → SR
  | [], e, S => if grdOk g S then .nx e S else .bad
  | x :: r, e, S => if grdOk g S then (match body x e S with
    | .nx e' S' => forL g body r e' S'
    | .ct e' S' => forL g body r e' S'
    | .bk e' S' => .nx e' S'
    | r => r) else .bad
/-- the turns of a while, at most n -/
def whlL (test : Env → Store → R Bool) (body : Env → Store → SR) : Nat → Env → Store → SR
  | 0, _, _ => .bad
  | n + 1, e, S => (test e S).toS e fun k S => if k = true then (match body e S with
    | .nx e' S' => whlL test body n e' S'
    | .ct e' S' => whlL test body n e' S'
    | .bk e' S' => .nx e' S'
    | r => r) else .nx e S
def whlMost : Nat := 2 ^ 40
/-- o[k] = v -/
def setixV (S : Store) (o k v : PV) : Option Store :=
  match o with
  | .loc n => match S[n]? with
    | some (.lst xs) => match k with
      | .int i => match ixN xs.length i with
        | some j => some (S.set n (.lst (xs.set j v)))
        | none => none
      | _ => none
    | some (.dic kvs) => match keyOf k with
      | some k => if kvs.length < sizeLine then some (S.set n (.dic (putP kvs k v))) else none
      | none => none
    | _ => none
  | _ => none
/-- x op= y, of a slot: ints, texts, tuples -/
def augV (op : Operator) (S : Store) (x y : PV) : Option PV :=
  match op, x, y with
  | .Add, .int i, .int j => some (.int (i + j))
  | .Sub, .int i, .int j => some (.int (i - j))
  | _, _, _ => none
section
variable (cf : Nat → List PV → Store → R PV)
mutual
def ex : Sm → Env → Store → SR
  | .set tg a, e, S => (ev cf a e S).toS e fun v S => match putT tg v e with | some e' => .nx e' S | none => .bad
  | .par i j a b, e, S => (ev cf a e S).toS e fun v S => (ev cf b e S).toS e fun u S => .nx ((e.set i (some v)).set j (some u)) S
  | .setix o k a, e, S => (ev cf a e S).toS e fun v S => (ev cf o e S).toS e fun o S => (ev cf k e S).toS e fun k S => match setixV S o k v with | some S' => .nx e S' | none => .bad
  | .aug i op a, e, S => match e[i]? with
    | some (some x) => (ev cf a e S).toS e fun y S => match augV op S x y with | some z => .nx (e.set i (some z)) S | none => .bad
    | _ => .bad
  | .ex a, e, S => (ev cf a e S).toS e fun _ S => .nx e S
  | .ret a, e, S => (ev cf a e S).toS e fun v S => .rt v S
  | .ite c a b, e, S => (ev cf c e S).toS e fun v S => (R.ofO (truth S v) S).toS e fun k S => if k = true then exs a e S else exs b e S
  | .forS tg k its b, e, S => (evs cf its e S).toS e fun vs S => (R.ofO (iterV k S vs) S).toS e fun p S =>
    forL p.2 (fun x e S => match putT tg x e with | some e' => exs b e' S | none => .bad) p.1 e S
  | .whl c b, e, S => whlL (fun e S => (ev cf c e S).bind fun v S => R.ofO (truth S v) S) (fun e S => exs b e S) whlMost e S
  | .pass, e, S => .nx e S
  | .brk, e, S => .bk e S
  | .cnt, e, S => .ct e S
def exs : List Sm → Env → Store → SR
  | [], e, S => .nx e S
  | s :: r, e, S => (ex s e S).then fun e S => exs r e S
end
end

mutual
/-- no location from n on -/
def PV.und (n : Nat) : PV → Bool
  | .loc k => decide (k < n)
  | .tup xs => PV.undL n xs
  | .lv xs => PV.undL n xs
  | .fz xs => PV.undL n xs
  | .dv _ xs => PV.undL n xs
  | .iv _ _ xs => PV.undL n xs
  | _ => true
def PV.undL (n : Nat) : List PV → Bool
  | [] => true
  | x :: xs => PV.und n x && PV.undL n xs
end
def PO.und (n : Nat) : PO → Bool
  | .lst xs => PV.undL n xs
  | .dic kvs => PV.undL n (kvs.map (·.2))
  | .ins _ fs => PV.undL n (fs.map (·.2))
/-- behind a call: what it made and does not hand back is forgotten -/
def dropOk (S0 : Store) (v : PV) (S : Store) : Bool :=
  decide (S0.length ≤ S.length) && PV.und S0.length v && ((S.take S0.length).zip S0).all fun p => decide (p.1 = p.2) || PO.und S0.length p.1
def frzB (S : Store) (rec : PV → Option PV) : PV → Option PV
  | .loc n => match S[n]? with
    | some (.lst xs) => (mapO rec xs).map .lv
    | some (.dic kvs) => (mapO rec (kvs.map (·.2))).map (.dv (kvs.map (·.1)))
    | some (.ins c fs) => (mapO rec (fs.map (·.2))).map (.iv c (fs.map (·.1)))
    | none => none
  | .tup xs => (mapO rec xs).map .tup
  | .lv xs => (mapO rec xs).map .lv
  | .dv ks xs => (mapO rec xs).map (.dv ks)
  | .iv c ns xs => (mapO rec xs).map (.iv c ns)
  | _ => none
/-- a value with what was laid from n0 on as it is now, k within one another at most -/
def frz (n0 : Nat) (S : Store) : Nat → PV → Option PV
  | 0, _ => none
  | k + 1, v => if PV.und n0 v then some v else frzB S (frz n0 S k) v
/-- the old objects hold nothing new -/
def keepOk (S0 S : Store) : Bool := decide (S0.length ≤ S.length) && ((S.take S0.length).zip S0).all fun p => decide (p.1 = p.2) || PO.und S0.length p.1
/-- f: what is handed back nobody changes any more -/
def done (f : Bool) (S0 : Store) (v : PV) (S : Store) : R PV :=
  if f then (match frz S0.length S 9 v with
    | some u => if keepOk S0 S then .ok u (S.take S0.length) else .ok v S
    | none => .ok v S)
  else if dropOk S0 v S then .ok v (S.take S0.length) else .ok v S
def fin (f : Bool) (S0 : Store) : SR → R PV
  | .nx _ S => done f S0 .non S
  | .rt v S => done f S0 v S
  | .exc c fs _ S => .exc c fs S
  | _ => .bad
structure Fn where
  nN : Nat
  np : Nat
  body : List Sm
  frz : Bool := false
  deriving Inhabited
def startE (n : Nat) (vs : List PV) : Env := vs.map some ++ List.replicate (n - vs.length) none
/-- a call, at most d calls one in another -/
def call (T : List Fn) : Nat → Nat → List PV → Store → R PV
  | 0, _, _, _ => .bad
  | d + 1, f, vs, S => match T[f]? with
    | none => .bad
    | some F => if vs.length = F.np then fin F.frz S (exs (call T d) F.body (startE F.nN vs) S) else .bad
end L2.PF

set_option Elab.async false
set_option linter.all false
set_option maxRecDepth 100000
set_option maxHeartbeats 4000000
/-! PFB: how a value and a store of PFA lie in the abstract heap; what a part's promise is. -/
namespace L2.PF
open PySem PySem.Spec PyProof.Rows

/-- the addresses of the store's objects, and those that are set aside -/
structure Mp where
  locs : List Addr
  res : List Addr
def Mp.all (m : Mp) : List Addr := m.locs ++ m.res
instance : Membership Addr Mp := ⟨fun m a => a ∈ m.all⟩
theorem Mp.mem {m : Mp} {a : Addr} : a ∈ m ↔ a ∈ m.locs ∨ a ∈ m.res := by
  show a ∈ m.locs ++ m.res ↔ _
  exact List.mem_append
def Mp.add (m : Mp) (p : Addr) : Mp := ⟨m.locs ++ [p], m.res⟩
def Mp.rsv (m : Mp) (p : Addr) : Mp := ⟨m.locs, p :: m.res⟩
def StrOk (x : Str) : Prop := x.length ≤ sizeLine ∧ PyData.strOk x = true
/-- a tuple that the written part holds -/
def KTup (K : PySem.W.Frag) (a : Addr) (xs : List V) : Prop :=
  ∃ (o : Obj) (its : Array Value) (n : Nat), K.lookup a = some o ∧ o.cls = .type "tuple" ∧ o.data = .seq its n ∧ its.size ≤ sizeLine ∧ Vals xs its.toList
def TupAt (K : PySem.W.Frag) (m : Mp) (H : Hp) (a : Addr) (vs : List V) : Prop := (a ∉ m ∧ H a = some (.tup vs)) ∨ KTup K a vs
/-- a list that the written part holds -/
def KLst (K : PySem.W.Frag) (a : Addr) (xs : List V) : Prop :=
  ∃ (o : Obj) (its : Array Value) (n : Nat), K.lookup a = some o ∧ o.cls = .type "list" ∧ o.dict = none ∧ o.data = .seq its n ∧ its.size ≤ sizeLine ∧ Vals xs its.toList
def FzAt (K : PySem.W.Frag) (m : Mp) (H : Hp) (a : Addr) (vs : List V) : Prop := (a ∉ m ∧ ∃ o, H a = some (.frz o (.lst vs))) ∨ KLst K a vs
theorem FzAt.sq {K : PySem.W.Frag} {m : Mp} {H : Hp} {a : Addr} {vs : List V} (h : FzAt K m H a vs) : SqL K H a vs := by
  rcases h with ⟨_, o, h⟩ | h
  · exact .inl (.inr ⟨o, h⟩)
  · exact .inr h
/-- the class of the name c -/
def ClsAt (K : PySem.W.Frag) (c : Str) (C : Addr) : Prop := PySem.W.nsIn K mainGlobals c = some (some (.ref C))
mutual
inductive RV (K : PySem.W.Frag) (m : Mp) (H : Hp) : PV → V → Prop
  | non : RV K m H .non .non
  | bl (b : Bool) : RV K m H (.bl b) (.bl b)
  | int (i : Int) : RV K m H (.int i) (.int i)
  | str (x : Str) (h : StrOk x) : RV K m H (.str x) (.str x)
  | tup {xs : List PV} {vs : List V} {a : Addr} (hl : xs.length ≤ sizeLine) (h : TupAt K m H a vs) (r : RVs K m H xs vs) : RV K m H (.tup xs) (.ref a)
  | lv {xs : List PV} {vs : List V} {a : Addr} (hl : xs.length ≤ sizeLine) (n : a ∉ m) (h : H a = some (.lst vs)) (r : RVs K m H xs vs) : RV K m H (.lv xs) (.ref a)
  | loc {n : Nat} {a : Addr} (h : m.locs[n]? = some a) : RV K m H (.loc n) (.ref a)
  | fz {xs : List PV} {vs : List V} {a : Addr} (hl : xs.length ≤ sizeLine) (h : FzAt K m H a vs) (r : RVs K m H xs vs) : RV K m H (.fz xs) (.ref a)
  | dv {ks : List Key} {xs : List PV} {vs : List V} {a : Addr} (hl : ks.length = xs.length) (n : a ∉ m) (h : H a = some (.dK (ks.zip vs))) (r : RVs K m H xs vs) : RV K m H (.dv ks xs) (.ref a)
  | iv {c : Str} {ns : List Str} {xs : List PV} {vs : List V} {a C dx : Addr} (hl : ns.length = xs.length) (n : a ∉ m) (h : H a = some (.ins C dx (ns.zip vs))) (hC : ClsAt K c C) (r : RVs K m H xs vs) : RV K m H (.iv c ns xs) (.ref a)
inductive RVs (K : PySem.W.Frag) (m : Mp) (H : Hp) : List PV → List V → Prop
  | nil : RVs K m H [] []
  | cons {x : PV} {v : V} {xs : List PV} {vs : List V} (r : RV K m H x v) (t : RVs K m H xs vs) : RVs K m H (x :: xs) (v :: vs)
end
/-- the heap has gone on -/
structure Ext (m : Mp) (H : Hp) (m' : Mp) (H' : Hp) : Prop where
  pre : ∃ more, m'.locs = m.locs ++ more
  res : m'.res = m.res
  keep : ∀ a o, a ∉ m.locs → H a = some o → H' a = some o
  new : ∀ a, a ∈ m'.locs → a ∉ m.locs → H a = none
theorem Ext.refl {m : Mp} {H : Hp} : Ext m H m H := ⟨⟨[], by simp⟩, rfl, fun _ _ _ h => h, fun a h n => absurd h n⟩
theorem Ext.sub {m m' : Mp} {H H' : Hp} (e : Ext m H m' H') {a : Addr} (h : a ∈ m.locs) : a ∈ m'.locs := by
  obtain ⟨more, h2⟩ := e.pre
  rw [h2]
  exact List.mem_append_left _ h
theorem out_locs {m : Mp} {a : Addr} (n : a ∉ m) : a ∉ m.locs := fun z => n (Mp.mem.mpr (.inl z))
theorem out_res {m : Mp} {a : Addr} (n : a ∉ m) : a ∉ m.res := fun z => n (Mp.mem.mpr (.inr z))
theorem Ext.out {m m' : Mp} {H H' : Hp} (e : Ext m H m' H') {a : Addr} {o : HO} (n : a ∉ m) (h : H a = some o) : a ∉ m' := fun z => by
  rcases Mp.mem.mp z with z | z
  · have := e.new a z (out_locs n)
    rw [h] at this
    cases this
  · rw [e.res] at z
    exact out_res n z
theorem Ext.trans {m m1 m2 : Mp} {H H1 H2 : Hp} (e : Ext m H m1 H1) (f : Ext m1 H1 m2 H2) : Ext m H m2 H2 := by
  have outl : ∀ a o, a ∉ m.locs → H a = some o → a ∉ m1.locs := fun a o n h z => by
    have := e.new a z n
    rw [h] at this; cases this
  refine ⟨?_, f.res.trans e.res, fun a o n h => f.keep a o (outl a o n h) (e.keep a o n h), fun a h n => ?_⟩
  · obtain ⟨x, hx⟩ := e.pre
    obtain ⟨y, hy⟩ := f.pre
    exact ⟨x ++ y, by rw [hy, hx]; simp⟩
  · by_cases h1 : a ∈ m1.locs
    · exact e.new a h1 n
    · have q := f.new a h h1
      cases z : H a with
      | none => rfl
      | some o => rw [e.keep a o n z] at q; cases q
theorem Ext.get {m m' : Mp} {H H' : Hp} (e : Ext m H m' H') {n : Nat} {a : Addr} (h : m.locs[n]? = some a) : m'.locs[n]? = some a := by
  obtain ⟨x, hx⟩ := e.pre
  rw [hx, List.getElem?_append_left]
  · exact h
  · exact (List.getElem?_eq_some_iff.mp h).1
/-- something new is laid and is not ours to change -/
theorem Ext.laid {m : Mp} {H : Hp} {p : Addr} {o : HO} (h : H p = none) : Ext m H m (upd H p o) :=
  ⟨⟨[], by simp⟩, rfl, fun a u _ q => by rw [upd_ne (ne_of_none q h)]; exact q, fun a h n => absurd h n⟩
theorem Ext.laidIn {m : Mp} {H : Hp} {p : Addr} {o : HO} (h : H p = none) : Ext m H (m.add p) (upd H p o) :=
  ⟨⟨[p], rfl⟩, rfl, fun a u _ q => by rw [upd_ne (ne_of_none q h)]; exact q, fun a h' n => by
    rcases List.mem_append.mp (show a ∈ m.locs ++ [p] from h') with z | z
    · exact absurd z n
    · have : a = p := by simpa using z
      rw [this]; exact h⟩
theorem Ext.changed {m : Mp} {H : Hp} {p : Addr} {o : HO} (h : p ∈ m.locs) : Ext m H m (upd H p o) :=
  ⟨⟨[], by simp⟩, rfl, fun a u n q => by rw [upd_ne (show a ≠ p from fun e => n (by rw [e]; exact h))]; exact q, fun a h n => absurd h n⟩
/-- the heap has gone on, more may be set aside -/
structure Lat (m : Mp) (H : Hp) (m' : Mp) (H' : Hp) : Prop where
  pre : ∃ more, m'.locs = m.locs ++ more
  res : ∀ a ∈ m'.res, a ∈ m.res ∨ H a = none
  keep : ∀ a o, a ∉ m.locs → H a = some o → H' a = some o
  new : ∀ a, a ∈ m'.locs → a ∉ m.locs → H a = none
theorem Ext.lat {m m' : Mp} {H H' : Hp} (e : Ext m H m' H') : Lat m H m' H' := ⟨e.pre, fun a h => .inl (by rw [← e.res]; exact h), e.keep, e.new⟩
theorem Lat.out {m m' : Mp} {H H' : Hp} (e : Lat m H m' H') {a : Addr} {o : HO} (n : a ∉ m) (h : H a = some o) : a ∉ m' := fun z => by
  rcases Mp.mem.mp z with z | z
  · have := e.new a z (out_locs n)
    rw [h] at this
    cases this
  · rcases e.res a z with z | z
    · exact out_res n z
    · rw [h] at z; cases z
theorem Lat.get {m m' : Mp} {H H' : Hp} (e : Lat m H m' H') {n : Nat} {a : Addr} (h : m.locs[n]? = some a) : m'.locs[n]? = some a := by
  obtain ⟨x, hx⟩ := e.pre
  rw [hx, List.getElem?_append_left]
  · exact h
  · exact (List.getElem?_eq_some_iff.mp h).1
section
variable {K : PySem.W.Frag} {m m' : Mp} {H H' : Hp}
mutual
theorem RV.mono (e : Lat m H m' H') : ∀ (x : PV) (v : V), RV K m H x v → RV K m' H' x v
  | _, _, .non => .non
  | _, _, .bl b => .bl b
  | _, _, .int i => .int i
  | _, _, .str x h => .str x h
  | _, _, .tup hl (.inl ⟨n, h⟩) r => .tup hl (.inl ⟨e.out n h, e.keep _ _ (out_locs n) h⟩) (RVs.mono e _ _ r)
  | _, _, .tup hl (.inr h) r => .tup hl (.inr h) (RVs.mono e _ _ r)
  | _, _, .lv hl n h r => .lv hl (e.out n h) (e.keep _ _ (out_locs n) h) (RVs.mono e _ _ r)
  | _, _, .loc h => .loc (e.get h)
  | _, _, .fz hl (.inl ⟨n, o, h⟩) r => .fz hl (.inl ⟨e.out n h, o, e.keep _ _ (out_locs n) h⟩) (RVs.mono e _ _ r)
  | _, _, .fz hl (.inr h) r => .fz hl (.inr h) (RVs.mono e _ _ r)
  | _, _, .dv hl n h r => .dv hl (e.out n h) (e.keep _ _ (out_locs n) h) (RVs.mono e _ _ r)
  | _, _, .iv hl n h hC r => .iv hl (e.out n h) (e.keep _ _ (out_locs n) h) hC (RVs.mono e _ _ r)
theorem RVs.mono (e : Lat m H m' H') : ∀ (x : List PV) (v : List V), RVs K m H x v → RVs K m' H' x v
  | _, _, .nil => .nil
  | _, _, .cons r t => .cons (RV.mono e _ _ r) (RVs.mono e _ _ t)
end
theorem RV.up (e : Ext m H m' H') {x : PV} {v : V} (r : RV K m H x v) : RV K m' H' x v := RV.mono e.lat _ _ r
theorem RVs.up (e : Ext m H m' H') {x : List PV} {v : List V} (r : RVs K m H x v) : RVs K m' H' x v := RVs.mono e.lat _ _ r
theorem RVs.length : ∀ {xs : List PV} {vs : List V}, RVs K m H xs vs → xs.length = vs.length
  | _, _, .nil => rfl
  | _, _, .cons _ t => by rw [List.length_cons, List.length_cons, RVs.length t]
theorem RVs.get : ∀ {xs : List PV} {vs : List V} {i : Nat} {x : PV}, RVs K m H xs vs → xs[i]? = some x → ∃ v, vs[i]? = some v ∧ RV K m H x v
  | _, _, _, _, .nil, e => by simp at e
  | _, _, 0, _, .cons r _, e => by simp at e; subst e; exact ⟨_, rfl, r⟩
  | _, _, i + 1, x, .cons _ t, e => by
    obtain ⟨u, h1, h2⟩ := RVs.get (i := i) (x := x) t (by simpa using e)
    exact ⟨u, by simpa using h1, h2⟩
theorem RVs.set {x : PV} {u : V} (r : RV K m H x u) : ∀ {xs : List PV} {us : List V} (i : Nat), RVs K m H xs us → RVs K m H (xs.set i x) (us.set i u)
  | _, _, _, .nil => .nil
  | _, _, 0, .cons _ t => .cons r t
  | _, _, i + 1, .cons q t => .cons q (RVs.set r i t)
theorem RVs.append : ∀ {xs ys : List PV} {us ws : List V}, RVs K m H xs us → RVs K m H ys ws → RVs K m H (xs ++ ys) (us ++ ws)
  | _, _, _, _, .nil, s => s
  | _, _, _, _, .cons r t, s => .cons r (RVs.append t s)
theorem RVs.take : ∀ {xs : List PV} {us : List V} (n : Nat), RVs K m H xs us → RVs K m H (xs.take n) (us.take n)
  | _, _, 0, _ => .nil
  | _, _, _ + 1, .nil => .nil
  | _, _, n + 1, .cons r t => .cons r (RVs.take n t)
theorem RVs.drop : ∀ {xs : List PV} {us : List V} (n : Nat), RVs K m H xs us → RVs K m H (xs.drop n) (us.drop n)
  | _, _, 0, r => r
  | _, _, _ + 1, .nil => .nil
  | _, _, n + 1, .cons _ t => RVs.drop n t
theorem RVs.erase : ∀ {xs : List PV} {us : List V} (n : Nat), RVs K m H xs us → RVs K m H (xs.eraseIdx n) (us.eraseIdx n)
  | _, _, _, .nil => .nil
  | _, _, 0, .cons _ t => t
  | _, _, n + 1, .cons r t => .cons r (RVs.erase n t)
theorem RVs.empty {xs : List PV} {us : List V} (r : RVs K m H xs us) : us.isEmpty = xs.isEmpty := by cases r <;> rfl
theorem RVs.dropLast {xs : List PV} {us : List V} (r : RVs K m H xs us) : RVs K m H xs.dropLast us.dropLast := by
  rw [List.dropLast_eq_take, List.dropLast_eq_take, r.length]
  exact r.take _
end

/-- a dict's pairs -/
inductive KVr (K : PySem.W.Frag) (m : Mp) (H : Hp) {κ : Type} : List (κ × PV) → List (κ × V) → Prop
  | nil : KVr K m H [] []
  | cons {k : κ} {x : PV} {v : V} {xs : List (κ × PV)} {vs : List (κ × V)} (r : RV K m H x v) (t : KVr K m H xs vs) : KVr K m H ((k, x) :: xs) ((k, v) :: vs)
/-- an object of the store -/
def RO (K : PySem.W.Frag) (m : Mp) (H : Hp) : PO → Addr → Prop
  | .lst xs, a => xs.length ≤ sizeLine ∧ ∃ vs, H a = some (.lst vs) ∧ RVs K m H xs vs
  | .dic kvs, a => ∃ vs, H a = some (.dK vs) ∧ KVr K m H kvs vs
  | .ins c fs, a => ∃ C dx vs, H a = some (.ins C dx vs) ∧ ClsAt K c C ∧ KVr K m H fs vs
structure Rel (K : PySem.W.Frag) (S : Store) (m : Mp) (H : Hp) : Prop where
  len : S.length = m.locs.length
  nd : m.locs.Nodup
  obj : ∀ (i : Nat) (o : PO) (a : Addr), S[i]? = some o → m.locs[i]? = some a → RO K m H o a
  aside : ∀ a ∈ m.res, ∃ u, H a = some u
section
variable {K : PySem.W.Frag} {m m' : Mp} {H H' : Hp} {S S' : Store}
theorem KVr.mono (e : Ext m H m' H') {κ : Type} : ∀ {x : List (κ × PV)} {v : List (κ × V)}, KVr K m H x v → KVr K m' H' x v
  | _, _, .nil => .nil
  | _, _, .cons r t => .cons (r.up e) (KVr.mono e t)
theorem RVs.zip {κ : Type} : ∀ {ks : List κ} {xs : List PV} {vs : List V}, RVs K m H xs vs → KVr K m H (ks.zip xs) (ks.zip vs)
  | [], _, _, _ => .nil
  | _ :: _, _, _, .nil => .nil
  | _ :: _, _, _, .cons r t => .cons r (RVs.zip t)
theorem KVr.vals {κ : Type} : ∀ {kvs : List (κ × PV)} {vs : List (κ × V)}, KVr K m H kvs vs → RVs K m H (kvs.map (·.2)) (vs.map (·.2)) ∧ vs = (kvs.map (·.1)).zip (vs.map (·.2))
  | _, _, .nil => ⟨.nil, rfl⟩
  | _, _, .cons r t => by
    obtain ⟨h1, h2⟩ := KVr.vals t
    refine ⟨.cons r h1, ?_⟩
    rw [List.map_cons, List.map_cons, List.zip_cons_cons, ← h2]
theorem KVr.length {κ : Type} : ∀ {x : List (κ × PV)} {v : List (κ × V)}, KVr K m H x v → x.length = v.length
  | _, _, .nil => rfl
  | _, _, .cons r t => by rw [List.length_cons, List.length_cons, KVr.length t]
theorem RO.ex {o : PO} {a : Addr} (r : RO K m H o a) : ∃ u, H a = some u := by
  cases o with
  | lst xs => obtain ⟨_, vs, h, _⟩ := r; exact ⟨_, h⟩
  | dic kvs => obtain ⟨vs, h, _⟩ := r; exact ⟨_, h⟩
  | ins c fs => obtain ⟨C, dx, vs, h, _⟩ := r; exact ⟨_, h⟩
/-- the object stays as it is where its address does, and its values do -/
theorem RO.upW {o : PO} {a : Addr} (up : ∀ x v, RV K m H x v → RV K m' H' x v) (h : H' a = H a) (r : RO K m H o a) : RO K m' H' o a := by
  have ups : ∀ {x v}, RVs K m H x v → RVs K m' H' x v := by
    intro x v r
    induction x generalizing v with
    | nil => cases r; exact .nil
    | cons x xs ih => cases r with | cons r t => exact .cons (up _ _ r) (ih t)
  have upk : ∀ {κ : Type} {x : List (κ × PV)} {v}, KVr K m H x v → KVr K m' H' x v := by
    intro κ x v r
    induction r with
    | nil => exact .nil
    | cons r t ih => exact .cons (up _ _ r) ih
  cases o with
  | lst xs => obtain ⟨hl, vs, h1, h2⟩ := r; exact ⟨hl, vs, by rw [h]; exact h1, ups h2⟩
  | dic kvs => obtain ⟨vs, h1, h2⟩ := r; exact ⟨vs, by rw [h]; exact h1, upk h2⟩
  | ins c fs => obtain ⟨C, dx, vs, h1, h2, h3⟩ := r; exact ⟨C, dx, vs, by rw [h]; exact h1, h2, upk h3⟩
theorem RO.up (e : Ext m H m' H') {o : PO} {a : Addr} (h : H' a = H a) (r : RO K m H o a) : RO K m' H' o a := r.upW (fun _ _ r => r.up e) h
theorem Rel.ex (r : Rel K S m H) {a : Addr} (h : a ∈ m) : ∃ u, H a = some u := by
  rcases Mp.mem.mp h with h | h
  · obtain ⟨i, hi, e⟩ := List.mem_iff_getElem.mp h
    have hs : i < S.length := by rw [r.len]; exact hi
    exact (r.obj i S[i] a (List.getElem?_eq_getElem hs) (by rw [List.getElem?_eq_getElem hi, e])).ex
  · exact r.aside a h
theorem Rel.out (r : Rel K S m H) {p : Addr} (h : H p = none) : p ∉ m := fun z => by
  obtain ⟨u, e⟩ := r.ex z
  rw [h] at e; cases e
theorem Rel.addr (r : Rel K S m H) {n : Nat} {o : PO} (h : S[n]? = some o) : ∃ a, m.locs[n]? = some a ∧ RO K m H o a := by
  have hn : n < S.length := (List.getElem?_eq_some_iff.mp h).1
  have hm : n < m.locs.length := by rw [← r.len]; exact hn
  exact ⟨m.locs[n], List.getElem?_eq_getElem hm, r.obj n o _ h (List.getElem?_eq_getElem hm)⟩
theorem Rel.at (r : Rel K S m H) {n : Nat} {o : PO} {a : Addr} (h : S[n]? = some o) (ha : m.locs[n]? = some a) : RO K m H o a := r.obj n o a h ha
theorem mem_of_get {m : Mp} {n : Nat} {a : Addr} (h : m.locs[n]? = some a) : a ∈ m.locs := List.mem_of_getElem? h
/-- something laid beside -/
theorem Rel.laid (r : Rel K S m H) {p : Addr} {o : HO} (h : H p = none) : Rel K S m (upd H p o) :=
  ⟨r.len, r.nd, fun i u a hs ha => (r.obj i u a hs ha).up (Ext.laid h) (by
    obtain ⟨z, e⟩ := (r.obj i u a hs ha).ex
    exact upd_ne (ne_of_none e h)), fun a ha => by
    obtain ⟨u, e⟩ := r.aside a ha
    exact ⟨u, by rw [upd_ne (ne_of_none e h)]; exact e⟩⟩
/-- a new object of the store -/
theorem Rel.push (r : Rel K S m H) {p : Addr} {o : HO} {u : PO} (h : H p = none) (hu : RO K (m.add p) (upd H p o) u p) : Rel K (S ++ [u]) (m.add p) (upd H p o) := by
  have hp := out_locs (r.out h)
  refine ⟨by simp [r.len, Mp.add], ?_, fun i v a hs ha => ?_, fun a ha => ?_⟩
  · show (m.locs ++ [p]).Nodup
    rw [List.nodup_append]
    refine ⟨r.nd, by simp, fun a ha b hb => ?_⟩
    have e : b = p := by simpa using hb
    rw [e]
    intro z
    rw [z] at ha
    exact hp ha
  · have ha : (m.locs ++ [p])[i]? = some a := ha
    by_cases hi : i < S.length
    · rw [List.getElem?_append_left hi] at hs
      rw [List.getElem?_append_left (by rw [← r.len]; exact hi)] at ha
      refine (r.obj i v a hs ha).up (Ext.laidIn h) ?_
      obtain ⟨z, e⟩ := (r.obj i v a hs ha).ex
      exact upd_ne (ne_of_none e h)
    · have e : i = S.length := by
        have := (List.getElem?_eq_some_iff.mp hs).1
        simp at this
        omega
      subst e
      rw [List.getElem?_append_right (Nat.le_refl _)] at hs
      rw [List.getElem?_append_right (by rw [r.len]; exact Nat.le_refl _)] at ha
      simp [r.len] at hs ha
      subst hs ha
      exact hu
  · obtain ⟨u, e⟩ := r.aside a ha
    exact ⟨u, by rw [upd_ne (ne_of_none e h)]; exact e⟩
/-- an object of the store changed -/
theorem Rel.change (r : Rel K S m H) {n : Nat} {p : Addr} {o : HO} {u : PO} (hn : m.locs[n]? = some p) (hu : RO K m (upd H p o) u p) : Rel K (S.set n u) m (upd H p o) := by
  refine ⟨by simp [r.len], r.nd, fun i v a hs ha => ?_, fun a ha => ?_⟩
  · by_cases e : n = i
    · subst e
      have hl : n < S.length := by rw [r.len]; exact (List.getElem?_eq_some_iff.mp hn).1
      rw [List.getElem?_set_self hl] at hs
      rw [hn] at ha
      cases hs; cases ha
      exact hu
    · rw [List.getElem?_set_ne e] at hs
      have hne : a ≠ p := by
        intro z
        subst z
        exact e ((List.getElem?_inj (List.getElem?_eq_some_iff.mp hn).1 r.nd).mp (hn.trans ha.symm))
      exact (r.obj i v a hs ha).up (Ext.changed (mem_of_get hn)) (upd_ne hne)
  · by_cases z : a = p
    · exact ⟨o, by rw [z, upd_same]⟩
    · obtain ⟨u, e⟩ := r.aside a ha
      exact ⟨u, by rw [upd_ne z]; exact e⟩

/-! ### an address set aside: nobody holds it -/
theorem Ext.beside {p : Addr} {o : HO} (e : Ext m H m' H') (h : H p = none) : Ext m H m' (upd H' p o) :=
  ⟨e.pre, e.res, fun a u n q => by rw [upd_ne (ne_of_none q h)]; exact e.keep a u n q, e.new⟩
/-- from a map with p aside to the one without -/
theorem Ext.unrsv {p : Addr} (e : Ext (m.rsv p) H m' H') : Ext m H ⟨m'.locs, m.res⟩ H' := ⟨e.pre, rfl, e.keep, e.new⟩
mutual
theorem RV.rsvM {p : Addr} {o : HO} (h : H p = none) : ∀ (x : PV) (v : V), RV K m H x v → RV K (m.rsv p) (upd H p o) x v
  | _, _, .non => .non
  | _, _, .bl b => .bl b
  | _, _, .int i => .int i
  | _, _, .str x h => .str x h
  | _, _, .tup hl (.inl ⟨n, q⟩) r => .tup hl (.inl ⟨fun z => (by
      rcases Mp.mem.mp z with z | z
      · exact out_locs n z
      · rcases List.mem_cons.mp z with z | z
        · exact ne_of_none q h z
        · exact out_res n z), by rw [upd_ne (ne_of_none q h)]; exact q⟩) (RVs.rsvM h _ _ r)
  | _, _, .tup hl (.inr q) r => .tup hl (.inr q) (RVs.rsvM h _ _ r)
  | _, _, .lv hl n q r => .lv hl (fun z => (by
      rcases Mp.mem.mp z with z | z
      · exact out_locs n z
      · rcases List.mem_cons.mp z with z | z
        · exact ne_of_none q h z
        · exact out_res n z)) (by rw [upd_ne (ne_of_none q h)]; exact q) (RVs.rsvM h _ _ r)
  | _, _, .loc h => .loc h
  | _, _, .fz hl (.inl ⟨n, u, q⟩) r => .fz hl (.inl ⟨fun z => (by
      rcases Mp.mem.mp z with z | z
      · exact out_locs n z
      · rcases List.mem_cons.mp z with z | z
        · exact ne_of_none q h z
        · exact out_res n z), u, by rw [upd_ne (ne_of_none q h)]; exact q⟩) (RVs.rsvM h _ _ r)
  | _, _, .fz hl (.inr q) r => .fz hl (.inr q) (RVs.rsvM h _ _ r)
  | _, _, .dv hl n q r => .dv hl (fun z => (by
      rcases Mp.mem.mp z with z | z
      · exact out_locs n z
      · rcases List.mem_cons.mp z with z | z
        · exact ne_of_none q h z
        · exact out_res n z)) (by rw [upd_ne (ne_of_none q h)]; exact q) (RVs.rsvM h _ _ r)
  | _, _, .iv hl n q hC r => .iv hl (fun z => (by
      rcases Mp.mem.mp z with z | z
      · exact out_locs n z
      · rcases List.mem_cons.mp z with z | z
        · exact ne_of_none q h z
        · exact out_res n z)) (by rw [upd_ne (ne_of_none q h)]; exact q) hC (RVs.rsvM h _ _ r)
theorem RVs.rsvM {p : Addr} {o : HO} (h : H p = none) : ∀ (x : List PV) (v : List V), RVs K m H x v → RVs K (m.rsv p) (upd H p o) x v
  | _, _, .nil => .nil
  | _, _, .cons r t => .cons (RV.rsvM h _ _ r) (RVs.rsvM h _ _ t)
end
mutual
theorem RV.setM {p : Addr} {o : HO} : ∀ (x : PV) (v : V), RV K (m.rsv p) H x v → RV K (m.rsv p) (upd H p o) x v
  | _, _, .non => .non
  | _, _, .bl b => .bl b
  | _, _, .int i => .int i
  | _, _, .str x h => .str x h
  | _, _, .tup hl (.inl ⟨n, q⟩) r => .tup hl (.inl ⟨n, by rw [upd_ne (fun z => out_res n (by rw [z]; exact List.mem_cons_self))]; exact q⟩) (RVs.setM _ _ r)
  | _, _, .tup hl (.inr q) r => .tup hl (.inr q) (RVs.setM _ _ r)
  | _, _, .lv hl n q r => .lv hl n (by rw [upd_ne (fun z => out_res n (by rw [z]; exact List.mem_cons_self))]; exact q) (RVs.setM _ _ r)
  | _, _, .loc h => .loc h
  | _, _, .fz hl (.inl ⟨n, u, q⟩) r => .fz hl (.inl ⟨n, u, by rw [upd_ne (fun z => out_res n (by rw [z]; exact List.mem_cons_self))]; exact q⟩) (RVs.setM _ _ r)
  | _, _, .fz hl (.inr q) r => .fz hl (.inr q) (RVs.setM _ _ r)
  | _, _, .dv hl n q r => .dv hl n (by rw [upd_ne (fun z => out_res n (by rw [z]; exact List.mem_cons_self))]; exact q) (RVs.setM _ _ r)
  | _, _, .iv hl n q hC r => .iv hl n (by rw [upd_ne (fun z => out_res n (by rw [z]; exact List.mem_cons_self))]; exact q) hC (RVs.setM _ _ r)
theorem RVs.setM {p : Addr} {o : HO} : ∀ (x : List PV) (v : List V), RVs K (m.rsv p) H x v → RVs K (m.rsv p) (upd H p o) x v
  | _, _, .nil => .nil
  | _, _, .cons r t => .cons (RV.setM _ _ r) (RVs.setM _ _ t)
end
mutual
theorem RV.unM {p : Addr} : ∀ (x : PV) (v : V), RV K (m.rsv p) H x v → RV K m H x v
  | _, _, .non => .non
  | _, _, .bl b => .bl b
  | _, _, .int i => .int i
  | _, _, .str x h => .str x h
  | _, _, .tup hl (.inl ⟨n, q⟩) r => .tup hl (.inl ⟨fun z => n (Mp.mem.mpr ((Mp.mem.mp z).imp id (List.mem_cons_of_mem _))), q⟩) (RVs.unM _ _ r)
  | _, _, .tup hl (.inr q) r => .tup hl (.inr q) (RVs.unM _ _ r)
  | _, _, .lv hl n q r => .lv hl (fun z => n (Mp.mem.mpr ((Mp.mem.mp z).imp id (List.mem_cons_of_mem _)))) q (RVs.unM _ _ r)
  | _, _, .loc h => .loc h
  | _, _, .fz hl (.inl ⟨n, u, q⟩) r => .fz hl (.inl ⟨fun z => n (Mp.mem.mpr ((Mp.mem.mp z).imp id (List.mem_cons_of_mem _))), u, q⟩) (RVs.unM _ _ r)
  | _, _, .fz hl (.inr q) r => .fz hl (.inr q) (RVs.unM _ _ r)
  | _, _, .dv hl n q r => .dv hl (fun z => n (Mp.mem.mpr ((Mp.mem.mp z).imp id (List.mem_cons_of_mem _)))) q (RVs.unM _ _ r)
  | _, _, .iv hl n q hC r => .iv hl (fun z => n (Mp.mem.mpr ((Mp.mem.mp z).imp id (List.mem_cons_of_mem _)))) q hC (RVs.unM _ _ r)
theorem RVs.unM {p : Addr} : ∀ (x : List PV) (v : List V), RVs K (m.rsv p) H x v → RVs K m H x v
  | _, _, .nil => .nil
  | _, _, .cons r t => .cons (RV.unM _ _ r) (RVs.unM _ _ t)
end
theorem Rel.rsv (r : Rel K S m H) {p : Addr} {o : HO} (h : H p = none) : Rel K S (m.rsv p) (upd H p o) :=
  ⟨r.len, r.nd, fun i u a hs ha => (r.obj i u a hs ha).upW (fun _ _ z => RV.rsvM h _ _ z) (by
    obtain ⟨z, e⟩ := (r.obj i u a hs ha).ex
    exact upd_ne (ne_of_none e h)), fun a ha => by
    rcases List.mem_cons.mp ha with z | z
    · exact ⟨o, by rw [z, upd_same]⟩
    · obtain ⟨u, e⟩ := r.aside a z
      exact ⟨u, by rw [upd_ne (ne_of_none e h)]; exact e⟩⟩
theorem Rel.setAside (r : Rel K S (m.rsv p) H) {o : HO} (hp : p ∉ m.locs) : Rel K S (m.rsv p) (upd H p o) :=
  ⟨r.len, r.nd, fun i u a hs ha => (r.obj i u a hs ha).upW (fun _ _ z => RV.setM _ _ z) (upd_ne fun z => hp (by rw [← z]; exact mem_of_get (m := m) ha)), fun a ha => by
    by_cases z : a = p
    · exact ⟨o, by rw [z, upd_same]⟩
    · obtain ⟨u, e⟩ := r.aside a ha
      exact ⟨u, by rw [upd_ne z]; exact e⟩⟩
theorem Rel.unrsv {p : Addr} (r : Rel K S (m.rsv p) H) : Rel K S m H :=
  ⟨r.len, r.nd, fun i u a hs ha => (r.obj i u a hs ha).upW (fun _ _ z => RV.unM _ _ z) rfl, fun a ha => r.aside a (List.mem_cons_of_mem _ ha)⟩
/-! ### a part's promise -/
/-- what is wanted of an exception: its class by number, its fields -/
abbrev WP := Str → List (Str × PV) → Mp → Hp → Prop
/-- r's end is wanted -/
def Post {α β : Type} (K : PySem.W.Frag) (rel : Mp → Hp → α → β → Prop) (m : Mp) (H : Hp) (r : R α) (Q : β → Hp → Prop) (W : WP) : Prop :=
  match r with
  | .ok a S => ∀ x m' H', Ext m H m' H' → Rel K S m' H' → rel m' H' a x → Q x H'
  | .exc c fs S => ∀ m' H', Ext m H m' H' → Rel K S m' H' → W c fs m' H'
  | .bad => False
theorem Post.up {α β : Type} {rel : Mp → Hp → α → β → Prop} {r : R α} {Q : β → Hp → Prop} {W : WP} (e : Ext m H m' H') (h : Post K rel m H r Q W) : Post K rel m' H' r Q W := by
  cases r with
  | ok a S => exact fun x m2 H2 f q v => h x m2 H2 (e.trans f) q v
  | exc c fs S => exact fun m2 H2 f q => h m2 H2 (e.trans f) q
  | bad => exact h
theorem Post.bind {α β γ δ : Type} {rel : Mp → Hp → α → β → Prop} {rel' : Mp → Hp → γ → δ → Prop} {r : R α} {f : α → Store → R γ} {Q : δ → Hp → Prop} {Q1 : β → Hp → Prop} {W : WP} (h : Post K rel' m H (r.bind f) Q W)
    (k : ∀ a S1 x m1 H1, Ext m H m1 H1 → Rel K S1 m1 H1 → rel m1 H1 a x → Post K rel' m1 H1 (f a S1) Q W → Q1 x H1) : Post K rel m H r Q1 W := by
  cases r with
  | ok a S => exact fun x m1 H1 e q v => k a S x m1 H1 e q v (Post.up e h)
  | exc c fs S => exact h
  | bad => exact h
theorem Post.get {α β : Type} {rel : Mp → Hp → α → β → Prop} {a : α} {Q : β → Hp → Prop} {W : WP} (h : Post K rel m H (.ok a S) Q W) (q : Rel K S m H) {x : β} (v : rel m H a x) : Q x H := h x m H Ext.refl q v
theorem Post.ofO {α β : Type} {rel : Mp → Hp → α → β → Prop} {o : Option α} {Q : β → Hp → Prop} {W : WP} (h : Post K rel m H (R.ofO o S) Q W) : ∃ a, o = some a ∧ Post K rel m H (.ok a S) Q W := by
  cases o with
  | none => exact h.elim
  | some a => exact ⟨a, rfl, h⟩
/-- from a def's reading on to a bool -/
def Same2 {α : Type} : Mp → Hp → α → α → Prop := fun _ _ a b => a = b
theorem Post.pass {α : Type} {γ δ : Type} {rel' : Mp → Hp → γ → δ → Prop} {o : Option α} {f : α → Store → R γ} {Q : δ → Hp → Prop} {W : WP} (h : Post K rel' m H ((R.ofO o S).bind f) Q W) : ∃ a, o = some a ∧ Post K rel' m H (f a S) Q W := by
  cases o with
  | none => exact h.elim
  | some a => exact ⟨a, rfl, h⟩

/-- the slots -/
inductive RE (K : PySem.W.Frag) (m : Mp) (H : Hp) : Env → St → Prop
  | nil : RE K m H [] []
  | some {x : PV} {v : V} {e : Env} {σ : St} (r : RV K m H x v) (t : RE K m H e σ) : RE K m H (some x :: e) (some v :: σ)
  | none {o : Option V} {e : Env} {σ : St} (t : RE K m H e σ) : RE K m H (none :: e) (o :: σ)
theorem RE.up (x : Ext m H m' H') : ∀ {e : Env} {σ : St}, RE K m H e σ → RE K m' H' e σ
  | _, _, .nil => .nil
  | _, _, .some r t => .some (r.up x) (RE.up x t)
  | _, _, .none t => .none (RE.up x t)
theorem RE.get : ∀ {e : Env} {σ : St} {i : Nat} {x : PV}, RE K m H e σ → e[i]? = .some (.some x) → ∃ v, σ[i]? = .some (.some v) ∧ RV K m H x v
  | _, _, _, _, .nil, h => by simp at h
  | _, _, 0, _, .some r _, h => by simp at h; subst h; exact ⟨_, rfl, r⟩
  | _, _, 0, _, .none _, h => by simp at h
  | _, _, i + 1, x, .some _ t, h => by
    obtain ⟨u, h1, h2⟩ := RE.get (i := i) (x := x) t (by simpa using h)
    exact ⟨u, by simpa using h1, h2⟩
  | _, _, i + 1, x, .none t, h => by
    obtain ⟨u, h1, h2⟩ := RE.get (i := i) (x := x) t (by simpa using h)
    exact ⟨u, by simpa using h1, h2⟩
theorem RE.set {x : PV} {v : V} (r : RV K m H x v) : ∀ {e : Env} {σ : St} (i : Nat), RE K m H e σ → RE K m H (e.set i (.some x)) (σ.set i (.some v))
  | _, _, _, .nil => .nil
  | _, _, 0, .some _ t => .some r t
  | _, _, 0, .none t => .some r t
  | _, _, i + 1, .some q t => .some q (RE.set r i t)
  | _, _, i + 1, .none t => .none (RE.set r i t)
theorem RE.unset {o : Option V} : ∀ {e : Env} {σ : St} (i : Nat), RE K m H e σ → RE K m H (e.set i .none) (σ.set i o)
  | _, _, _, .nil => .nil
  | _, _, 0, .some _ t => .none t
  | _, _, 0, .none t => .none t
  | _, _, i + 1, .some q t => .some q (RE.unset i t)
  | _, _, i + 1, .none t => .none (RE.unset i t)
theorem RE.wipe {e : Env} {σ : St} (r : RE K m H e σ) : ∀ vs : List Nat, RE K m H (wipeE e vs) (L2.wipe σ vs)
  | [] => r
  | v :: vs => (RE.wipe r vs).unset v
theorem RE.length : ∀ {e : Env} {σ : St}, RE K m H e σ → e.length = σ.length
  | _, _, .nil => rfl
  | _, _, .some _ t => by rw [List.length_cons, List.length_cons, RE.length t]
  | _, _, .none t => by rw [List.length_cons, List.length_cons, RE.length t]
theorem RE.via (up : ∀ x v, RV K m H x v → RV K m' H' x v) : ∀ {e : Env} {σ : St}, RE K m H e σ → RE K m' H' e σ
  | _, _, .nil => .nil
  | _, _, .some r t => .some (up _ _ r) (RE.via up t)
  | _, _, .none t => .none (RE.via up t)
theorem RE.start : ∀ {vs : List PV} {us : List V} (n : Nat), RVs K m H vs us → RE K m H (vs.map .some ++ List.replicate n .none) (us.map .some ++ List.replicate n .none)
  | _, _, 0, .nil => .nil
  | _, _, n + 1, .nil => .none (RE.start (vs := []) (us := []) n .nil)
  | _, _, n, .cons r t => .some r (RE.start n t)
end
/-- the reading of a part that f tells -/
def can (K : PySem.W.Frag) (W : St → WP) (f : Env → Store → R PV) : TE := fun σ H Q =>
  ∃ m e S, RE K m H e σ ∧ Rel K S m H ∧ Post K (RV K) m H (f e S) Q (W σ)
/-- .. of a test -/
def canT (K : PySem.W.Frag) (W : St → WP) (f : Env → Store → R Bool) : TT := fun σ H Q =>
  ∃ m e S, RE K m H e σ ∧ Rel K S m H ∧ Post K Same2 m H (f e S) Q (W σ)
def canA (K : PySem.W.Frag) (W : St → WP) (f : Env → Store → R (List PV)) : TA := fun σ H Q =>
  ∃ m e S, RE K m H e σ ∧ Rel K S m H ∧ Post K (RVs K) m H (f e S) Q (W σ)
theorem pe_imp {X : Cx} {e : Expr} {t t' : TE} (h : PE X e t) (k : ∀ σ H Q, t' σ H Q → t σ H Q) : PE X e t' := ⟨fun pins s σ H Q I q => h.run pins s σ H Q I (k σ H Q q)⟩
theorem pt_imp {X : Cx} {e : Expr} {t t' : TT} (h : PT X e t) (k : ∀ σ H Q, t' σ H Q → t σ H Q) : PT X e t' := ⟨fun pins s σ H Q I q => h.run pins s σ H Q I (k σ H Q q)⟩
theorem pw_imp {X : Cx} {e : Expr} {t t' : TT} (h : PW X e t) (k : ∀ σ H Q, t' σ H Q → t σ H Q) : PW X e t' := ⟨fun wh pins s σ H Q I q => h.run wh pins s σ H Q I (k σ H Q q)⟩
theorem pa_imp {X : Cx} {e : List Expr} {t t' : TA} (h : PA X e t) (k : ∀ σ H Q, t' σ H Q → t σ H Q) : PA X e t' := ⟨fun pos pins s σ H Q I q => h.run pos pins s σ H Q I (k σ H Q q)⟩
theorem ps_imp {X : Cx} {e : Stmt} {t t' : TS} (h : PS X e t) (k : ∀ D σ H, t' D σ H → t D σ H) : PS X e t' := ⟨fun pins s σ H D I q => h.run pins s σ H D I (k D σ H q)⟩
theorem pss_imp {X : Cx} {e : List Stmt} {t t' : TS} (h : PSs X e t) (k : ∀ D σ H, t' D σ H → t D σ H) : PSs X e t' := ⟨fun pins s σ H D I q => h.run pins s σ H D I (k D σ H q)⟩
theorem Post.imp {α β : Type} {K : PySem.W.Frag} {rel rel' : Mp → Hp → α → β → Prop} {m : Mp} {H : Hp} {r : R α} {Q Q' : β → Hp → Prop} {W : WP} (h : Post K rel m H r Q W)
    (k : ∀ m' H' a x, rel' m' H' a x → rel m' H' a x) (q : ∀ x H', Q x H' → Q' x H') : Post K rel' m H r Q' W := by
  cases r with
  | ok a S => exact fun x m1 H1 e r v => q _ _ (h x m1 H1 e r (k _ _ _ _ v))
  | exc c fs S => exact h
  | bad => exact h
end L2.PF

set_option Elab.async false
set_option linter.all false
set_option maxRecDepth 100000
set_option maxHeartbeats 4000000
/-! PFC: the operators, by values. -/
namespace L2.PF
open PySem PySem.Spec PyProof.Rows

section
variable {K : PySem.W.Frag} {m : Mp} {H : Hp} {S : Store}
theorem TupAt.sq {a : Addr} {vs : List V} (h : TupAt K m H a vs) : SqT K H a vs := by
  rcases h with ⟨_, h⟩ | h
  · exact .inl (.inl h)
  · exact .inr h
/-- the items of a list, a tuple -/
theorem items_sq (r : Rel K S m H) {v : PV} {x : V} {xs : List PV} (h : RV K m H v x) (e : items S v = some xs) : ∃ a vs, x = .ref a ∧ (SqL K H a vs ∨ SqT K H a vs) ∧ RVs K m H xs vs ∧ xs.length ≤ sizeLine := by
  cases h with
  | tup hl h t => rw [items] at e; cases e; exact ⟨_, _, rfl, .inr h.sq, t, hl⟩
  | lv hl _ h t => rw [items] at e; cases e; exact ⟨_, _, rfl, .inl (.of h), t, hl⟩
  | fz hl h t => rw [items] at e; cases e; exact ⟨_, _, rfl, .inl h.sq, t, hl⟩
  | @loc n a h =>
    rw [items] at e
    cases q : S[n]? with
    | none => rw [q] at e; cases e
    | some o =>
      rw [q] at e
      have ro := r.at q h
      cases o with
      | lst ys => obtain ⟨hl, vs, h1, h2⟩ := ro; cases e; exact ⟨_, _, rfl, .inl (.of h1), h2, hl⟩
      | dic kvs => cases e
      | ins c fs => cases e
  | _ => rw [items] at e <;> first | cases e | (intros; exact fun z => nomatch z)
theorem litems_sq (r : Rel K S m H) {v : PV} {x : V} {xs : List PV} (h : RV K m H v x) (e : litems S v = some xs) : ∃ a vs, x = .ref a ∧ SqL K H a vs ∧ RVs K m H xs vs ∧ xs.length ≤ sizeLine := by
  cases h with
  | lv hl _ h t => rw [litems] at e; cases e; exact ⟨_, _, rfl, .of h, t, hl⟩
  | fz hl h t => rw [litems] at e; cases e; exact ⟨_, _, rfl, h.sq, t, hl⟩
  | @loc n a h =>
    rw [litems] at e
    cases q : S[n]? with
    | none => rw [q] at e; cases e
    | some o =>
      rw [q] at e
      have ro := r.at q h
      cases o with
      | lst ys => obtain ⟨hl, vs, h1, h2⟩ := ro; cases e; exact ⟨_, _, rfl, .of h1, h2, hl⟩
      | dic kvs => cases e
      | ins c fs => cases e
  | _ => rw [litems] at e <;> first | cases e | (intros; exact fun z => nomatch z)
theorem KVr.get {kvs : List (Key × PV)} {vs : List (Key × V)} (k : Key) : KVr K m H kvs vs → (getK kvs k = none ∧ valV vs k = none) ∨ ∃ x v, getK kvs k = some x ∧ valV vs k = some v ∧ RV K m H x v := by
  intro r
  induction r with
  | nil => exact .inl ⟨rfl, rfl⟩
  | @cons k' x v xs vs r t ih =>
    by_cases e : k' = k
    · refine .inr ⟨x, v, ?_, ?_, r⟩
      · simp [getK, e]
      · exact valV_pos e
    · have e1 : getK ((k', x) :: xs) k = getK xs k := by simp [getK, e]
      have e2 : valV ((k', v) :: vs) k = valV vs k := valV_neg e
      rw [e1, e2]
      exact ih
theorem KVr.empty {κ : Type} {kvs : List (κ × PV)} {vs : List (κ × V)} (r : KVr K m H kvs vs) : vs.isEmpty = kvs.isEmpty := by cases r <;> rfl
theorem KVr.any {kvs : List (Key × PV)} {vs : List (Key × V)} (k : Key) : KVr K m H kvs vs → (kvs.any fun kv => decide (kv.1 = k)) = vs.any fun kv => decide (kv.1 = k) := by
  intro r
  induction r with
  | nil => rfl
  | cons r t ih => rw [List.any_cons, List.any_cons, ih]
theorem KVr.app {κ : Type} {xs ys : List (κ × PV)} {us vs : List (κ × V)} : KVr K m H xs us → KVr K m H ys vs → KVr K m H (xs ++ ys) (us ++ vs) := by
  intro r s
  induction r with
  | nil => exact s
  | cons r t ih => exact .cons r ih
theorem KVr.put {kvs : List (Key × PV)} {vs : List (Key × V)} {k : Key} {x : PV} {v : V} (rx : RV K m H x v) (r : KVr K m H kvs vs) : KVr K m H (putP kvs k x) (putK vs k v) := by
  unfold putP putK
  rw [r.any k]
  by_cases e : (vs.any fun kv => decide (kv.1 = k)) = true
  · rw [if_pos e, if_pos e]
    clear e
    induction r with
    | nil => exact .nil
    | @cons k' y w xs vs r t ih =>
      rw [List.map_cons, List.map_cons]
      by_cases e : k' = k
      · simp only [e, if_true]
        exact .cons rx ih
      · simp only [e, if_false]
        exact .cons r ih
  · rw [if_neg e, if_neg e]
    exact r.app (.cons rx .nil)
theorem keyOf_rv {x : PV} {v : V} {k : Key} (r : RV K m H x v) (e : keyOf x = some k) : v = kV k := by
  cases r with
  | int i => cases e; rfl
  | str x h => cases e; rfl
  | _ => cases e
theorem ofKey_rv {k : Key} {v : V} {x : PV} (e : keyOf x = some k) : x = ofKey k := by
  cases x <;> cases e <;> rfl

/-! ### what is asked of an operator -/
/-- the value that f tells -/
def rBin (K : PySem.W.Frag) (f : Store → PV → PV → Option PV) : R2 := fun x y H Q => ∃ m S a b c, Rel K S m H ∧ RV K m H a x ∧ RV K m H b y ∧ f S a b = some c ∧ ∀ z m' H', Ext m H m' H' → Rel K S m' H' → RV K m' H' c z → Q z H'
def rCmp (K : PySem.W.Frag) (f : Store → PV → PV → Option Bool) : R2 := fun x y H Q => ∃ m S a b c, Rel K S m H ∧ RV K m H a x ∧ RV K m H b y ∧ f S a b = some c ∧ Q (.bl c) H
end
section
variable {X : Cx}
theorem OpR.imp {f : Value → Value → Sem Value} {r r' : R2} (h : OpR X f r) (k : ∀ x y H Q, r' x y H Q → r x y H Q) : OpR X f r' := fun pins s σ H x y v u Q I rx ry q => h pins s σ H x y v u Q I rx ry (k _ _ _ _ q)
/-- what is known of ==, !=, and of == within lists -/
def EqI (A : Around) (s : Shared) (a b : Value) (c : Bool) : Prop := SeqAt.EqAt A s a b c ∧ SeqAt.RcAt A s a b c ∧ SeqAt.RcNeAt A s a b (!c)
theorem flat_eq {K : PySem.W.Frag} {m : Mp} {H : Hp} {v u : PV} {x y : V} {a b : Value} (r : RV K m H v x) (t : RV K m H u y) (ra : RelV x a) (rb : RelV y b) (hv : flatP v = true) (hu : flatP u = true) (A : Around) (s : Shared) : EqI A s a b (eqP v u) := by
  cases r with
  | non =>
    obtain rfl : a = .none := ra
    cases t with
    | non => obtain rfl : b = .none := rb; exact ⟨SeqAt.EqAt.same _, SeqAt.RcAt.none_none, SeqAt.RcNeAt.none_none⟩
    | bl w => obtain rfl : b = .bool _ := rb; exact ⟨SeqAt.EqAt.none_bool _, SeqAt.RcAt.none_bool _, SeqAt.RcNeAt.none_bool _⟩
    | int w => obtain ⟨tb, rfl⟩ := rb; exact ⟨SeqAt.EqAt.none_int _ tb, SeqAt.RcAt.none_int _ tb, SeqAt.RcNeAt.none_int _ tb⟩
    | str w hw => obtain ⟨tb, rfl⟩ := rb; exact ⟨SeqAt.EqAt.none_str _ tb, SeqAt.RcAt.none_str _ tb, SeqAt.RcNeAt.none_str _ tb⟩
    | _ => cases hu
  | bl z =>
    obtain rfl : a = .bool _ := ra
    cases t with
    | non => obtain rfl : b = .none := rb; exact ⟨SeqAt.EqAt.bool_none _, SeqAt.RcAt.bool_none _, SeqAt.RcNeAt.bool_none _⟩
    | bl w => obtain rfl : b = .bool _ := rb; exact ⟨SeqAt.EqAt.bool_bool _ _, SeqAt.RcAt.bool_bool _ _, SeqAt.RcNeAt.bool_bool _ _⟩
    | int w => obtain ⟨tb, rfl⟩ := rb; exact ⟨SeqAt.EqAt.bool_int _ _ tb, SeqAt.RcAt.bool_int _ _ tb, SeqAt.RcNeAt.bool_int _ _ tb⟩
    | str w hw => obtain ⟨tb, rfl⟩ := rb; exact ⟨SeqAt.EqAt.bool_str _ _ tb, SeqAt.RcAt.bool_str _ _ tb, SeqAt.RcNeAt.bool_str _ _ tb⟩
    | _ => cases hu
  | int z =>
    obtain ⟨ta, rfl⟩ := ra
    cases t with
    | non => obtain rfl : b = .none := rb; exact ⟨SeqAt.EqAt.int_none _ ta, SeqAt.RcAt.int_none _ ta, SeqAt.RcNeAt.int_none _ ta⟩
    | bl w => obtain rfl : b = .bool _ := rb; exact ⟨SeqAt.EqAt.int_bool _ ta _, SeqAt.RcAt.int_bool _ ta _, SeqAt.RcNeAt.int_bool _ ta _⟩
    | int w => obtain ⟨tb, rfl⟩ := rb; exact ⟨SeqAt.EqAt.int_int _ ta _ tb, SeqAt.RcAt.int_int _ ta _ tb, SeqAt.RcNeAt.int_int _ ta _ tb⟩
    | str w hw => obtain ⟨tb, rfl⟩ := rb; exact ⟨SeqAt.EqAt.int_str _ ta _ tb, SeqAt.RcAt.int_str _ ta _ tb, SeqAt.RcNeAt.int_str _ ta _ tb⟩
    | _ => cases hu
  | str z hz =>
    obtain ⟨ta, rfl⟩ := ra
    cases t with
    | non => obtain rfl : b = .none := rb; exact ⟨SeqAt.EqAt.str_none _ ta, SeqAt.RcAt.str_none _ ta, SeqAt.RcNeAt.str_none _ ta⟩
    | bl w => obtain rfl : b = .bool _ := rb; exact ⟨SeqAt.EqAt.str_bool _ ta _, SeqAt.RcAt.str_bool _ ta _, SeqAt.RcNeAt.str_bool _ ta _⟩
    | int w => obtain ⟨tb, rfl⟩ := rb; exact ⟨SeqAt.EqAt.str_int _ ta _ tb, SeqAt.RcAt.str_int _ ta _ tb, SeqAt.RcNeAt.str_int _ ta _ tb⟩
    | str w hw => obtain ⟨tb, rfl⟩ := rb; exact ⟨SeqAt.EqAt.str_str _ ta _ tb, SeqAt.RcAt.str_str _ ta _ tb, SeqAt.RcNeAt.str_str _ ta _ tb⟩
    | _ => cases hu
  | _ => cases hv
theorem flat_same {K : PySem.W.Frag} {m : Mp} {H : Hp} {v u : PV} {x : V} (r : RV K m H v x) (t : RV K m H u x) (hv : flatP v = true) (hu : flatP u = true) : eqP v u = true := by
  cases r <;> cases t <;> first
    | rfl
    | exact beq_self_eq_true _
    | cases hv
    | cases hu
theorem flat_seq {K : PySem.W.Frag} {m : Mp} {H : Hp} {S : Store} {v u : PV} {x : V} {p : Bool × List PV} (rs : Rel K S m H) (r : RV K m H v x) (t : RV K m H u x) (hv : flatP v = true) (hu : seqK S u = some p) : False := by
  cases r <;> cases t <;> first
    | (cases hv; done)
    | (cases hu; done)
theorem seqK_at {K : PySem.W.Frag} {m : Mp} {H : Hp} {S : Store} {v : PV} {x : V} {p : Bool × List PV} (rs : Rel K S m H) (r : RV K m H v x) (e : seqK S v = some p) : ∃ l vs, x = .ref l ∧ RVs K m H p.2 vs ∧ (p.1 = true ∧ SqT K H l vs ∨ p.1 = false ∧ SqL K H l vs) := by
  have lists : (litems S v).map (fun xs => (false, xs)) = some p → ∃ l vs, x = .ref l ∧ RVs K m H p.2 vs ∧ (p.1 = true ∧ SqT K H l vs ∨ p.1 = false ∧ SqL K H l vs) := fun e => by
    cases h : litems S v with
    | none => rw [h] at e; cases e
    | some xs =>
      rw [h] at e
      cases e
      obtain ⟨a, vs, e1, e2, e3, _⟩ := litems_sq rs r h
      exact ⟨a, vs, e1, e3, .inr ⟨rfl, e2⟩⟩
  cases r with
  | tup hl h r => cases e; exact ⟨_, _, rfl, r, .inl ⟨rfl, h.sq⟩⟩
  | _ => exact lists e
theorem no_both {X : Cx} {pins : List (Addr × Obj)} {σ : St} {H : Hp} {s : Shared} (I : Inv X pins σ H s) {a : Addr} {vs ws : List V} (h : SqT X.K H a vs) (h' : SqL X.K H a ws) : False := by
  obtain ⟨_, _, p, _⟩ := I.tuple h
  obtain ⟨_, _, p', _⟩ := I.list h'
  obtain ⟨o, ho, hc, _⟩ := p
  obtain ⟨o', ho', hc', _⟩ := p'.isList
  rw [ho] at ho'
  cases ho'
  rw [hc] at hc'
  exact absurd hc' (by simp)
theorem eqL_same {K : PySem.W.Frag} {m : Mp} {H : Hp} {f : PV → PV → Option Bool} (hf : ∀ v u x c, RV K m H v x → RV K m H u x → f v u = some c → c = true) : ∀ {xs ys : List PV} {vs : List V} {c : Bool}, RVs K m H xs vs → RVs K m H ys vs → eqL f xs ys = some c → c = true
  | [], [], _, c, _, _, e => by cases e; rfl
  | [], _ :: _, _, _, r, t, _ => by cases r; cases t
  | _ :: _, [], _, _, r, t, _ => by cases t; cases r
  | x :: xs, y :: ys, _, c, r, t, e => by
    cases r with
    | cons r r' =>
      cases t with
      | cons t t' =>
        rw [eqL] at e
        cases h1 : f x y with
        | none => rw [h1] at e; cases e
        | some c1 =>
          rw [h1] at e
          cases h2 : eqL f xs ys with
          | none => rw [h2] at e; cases e
          | some c2 =>
            rw [h2] at e
            cases e
            rw [hf _ _ _ _ r t h1, eqL_same hf r' t' h2]
            rfl
theorem eqL_len {f : PV → PV → Option Bool} : ∀ {xs ys : List PV} {c : Bool}, xs.length ≠ ys.length → eqL f xs ys = some c → c = false
  | [], [], _, h, _ => absurd rfl h
  | [], _ :: _, _, _, e => by cases e; rfl
  | _ :: _, [], _, _, e => by cases e; rfl
  | x :: xs, y :: ys, c, h, e => by
    rw [eqL] at e
    cases h1 : f x y with
    | none => rw [h1] at e; cases e
    | some c1 =>
      rw [h1] at e
      cases h2 : eqL f xs ys with
      | none => rw [h2] at e; cases e
      | some c2 =>
        rw [h2] at e
        cases e
        rw [eqL_len (fun z => h (by rw [List.length_cons, List.length_cons, z])) h2, Bool.and_false]
section
variable {pins : List (Addr × Obj)} {σ : St} {H : Hp} {s : Shared} {S : Store} {m : Mp}
theorem eqG_same (I : Inv X pins σ H s) (rs : Rel X.K S m H) : ∀ (k : Nat) (v u : PV) (x : V) (c : Bool), RV X.K m H v x → RV X.K m H u x → eqG S k v u = some c → c = true
  | 0, _, _, _, _, _, _, e => by cases e
  | k + 1, v, u, x, c, r, t, e => by
    rw [eqG] at e
    by_cases hv : flatP v = true
    · rw [if_pos hv] at e
      by_cases hu : flatP u = true
      · rw [if_pos hu] at e
        cases e
        exact flat_same r t hv hu
      · rw [if_neg hu] at e
        cases h : seqK S u with
        | none => rw [h] at e; cases e
        | some p => exact (flat_seq rs r t hv h).elim
    · rw [if_neg hv] at e
      cases hp : seqK S v with
      | none => rw [hp] at e; cases e
      | some p =>
        rw [hp] at e
        simp only at e
        by_cases hu : flatP u = true
        · exact (flat_seq rs t r hu hp).elim
        · rw [if_neg hu] at e
          cases hq : seqK S u with
          | none => rw [hq] at e; cases e
          | some q =>
            rw [hq] at e
            simp only at e
            obtain ⟨l, vs, e1, r1, z1⟩ := seqK_at rs r hp
            obtain ⟨l', ws, e2, t1, z2⟩ := seqK_at rs t hq
            rw [e1] at e2
            cases e2
            have key : p.1 = q.1 ∧ vs = ws := by
              rcases z1 with ⟨a1, a2⟩ | ⟨a1, a2⟩ <;> rcases z2 with ⟨b1, b2⟩ | ⟨b1, b2⟩
              · exact ⟨by rw [a1, b1], I.tuple_inj a2 b2⟩
              · exact (no_both I a2 b2).elim
              · exact (no_both I b2 a2).elim
              · exact ⟨by rw [a1, b1], I.list_inj a2 b2⟩
            obtain ⟨kk, rfl⟩ := key
            unfold eqS at e
            rw [if_pos kk, if_neg (by simp only [Bool.and_eq_true, decide_eq_true_eq]; intro z; exact z.2 (by rw [r1.length, t1.length]))] at e
            exact eqL_same (fun v u x c r t e => eqG_same I rs k v u x c r t e) r1 t1 e
theorem eqL_ok {f : PV → PV → Option Bool} {A : Around} (hf : ∀ v u x y a b c, RV X.K m H v x → RV X.K m H u y → RelV x a → RelV y b → f v u = some c → SeqAt.EqAt A s a b c) :
    ∀ {xs ys : List PV} {vs ws : List V} {its jts : List Value} {c : Bool}, RVs X.K m H xs vs → RVs X.K m H ys ws → Vals vs its → Vals ws jts → eqL f xs ys = some c →
    ∃ e : Nat → Bool, (∀ j (h1 : j < its.length) (h2 : j < jts.length), SeqAt.EqAt A s its[j] jts[j] (e j)) ∧ ((List.range (min its.length jts.length)).all e && its.length == jts.length) = c
  | [], [], _, _, _, _, c, r, t, ra, rb, e => by
    cases r; cases t; cases ra; cases rb; cases e
    exact ⟨fun _ => true, fun j h1 _ => absurd h1 (Nat.not_lt_zero _), rfl⟩
  | [], _ :: _, _, _, _, _, c, r, t, ra, rb, e => by
    cases r; cases t; cases ra; cases rb; cases e
    exact ⟨fun _ => true, fun j h1 _ => absurd h1 (Nat.not_lt_zero _), by simp⟩
  | _ :: _, [], _, _, _, _, c, r, t, ra, rb, e => by
    cases r; cases t; cases ra; cases rb; cases e
    exact ⟨fun _ => true, fun j _ h1 => absurd h1 (Nat.not_lt_zero _), by simp⟩
  | x :: xs, y :: ys, _, _, _, _, c, r, t, ra, rb, e => by
    cases r with
    | cons r r' =>
      cases t with
      | cons t t' =>
        cases ra with
        | cons ra ra' =>
          cases rb with
          | cons rb rb' =>
            rename_i i its j jts
            rw [eqL] at e
            cases h1 : f x y with
            | none => rw [h1] at e; cases e
            | some c1 =>
              rw [h1] at e
              cases h2 : eqL f xs ys with
              | none => rw [h2] at e; cases e
              | some c2 =>
                rw [h2] at e
                cases e
                obtain ⟨g, g1, g2⟩ := eqL_ok hf r' t' ra' rb' h2
                refine ⟨fun n => match n with | 0 => c1 | n + 1 => g n, fun n k1 k2 => ?_, ?_⟩
                · cases n with
                  | zero => exact hf _ _ _ _ _ _ _ r t ra rb h1
                  | succ n => exact g1 n (Nat.lt_of_succ_lt_succ k1) (Nat.lt_of_succ_lt_succ k2)
                · rw [← g2, List.length_cons, List.length_cons, Nat.succ_min_succ, List.range_succ_eq_map, List.all_cons, List.all_map, ← Bool.and_assoc]
                  congr 1
                  simp
theorem seqK_noflat {v : PV} {p : Bool × List PV} (h : seqK S v = some p) : flatP v = false := by
  cases v <;> first | rfl | cases h
theorem flat_seqI {v u : PV} {x y : V} {a b : Value} {q : Bool × List PV} (I : Inv X pins σ H s) (rs : Rel X.K S m H) (r : RV X.K m H v x) (t : RV X.K m H u y) (ra : RelV x a) (rb : RelV y b) (hv : flatP v = true) (hq : seqK S u = some q) {A : Around} (hu : A.units < cLine) : EqI A s a b false ∧ EqI A s b a false := by
  obtain ⟨l, ws, rfl, t1, z⟩ := seqK_at rs t hq
  obtain rfl : b = .ref l := rb
  rcases z with ⟨_, z⟩ | ⟨_, z⟩
  · obtain ⟨its, rv, p, _⟩ := I.tuple z
    have p : s.heap.IsTuple l its.toArray := p
    cases r with
    | non => obtain rfl : a = .none := ra; exact ⟨⟨.none_tuple p hu, .none_tuple p hu, .none_tuple p hu⟩, .tuple_none p hu, .tuple_none p hu, .tuple_none p hu⟩
    | bl b => obtain rfl : a = .bool _ := ra; exact ⟨⟨.bool_tuple _ p hu, .bool_tuple _ p hu, .bool_tuple _ p hu⟩, .tuple_bool _ p hu, .tuple_bool _ p hu, .tuple_bool _ p hu⟩
    | int i => obtain ⟨t, rfl⟩ := ra; exact ⟨⟨.int_tuple _ _ p hu, .int_tuple _ _ p hu, .int_tuple _ _ p hu⟩, .tuple_int _ _ p hu, .tuple_int _ _ p hu, .tuple_int _ _ p hu⟩
    | str i _ => obtain ⟨t, rfl⟩ := ra; exact ⟨⟨.str_tuple _ _ p hu, .str_tuple _ _ p hu, .str_tuple _ _ p hu⟩, .tuple_str _ _ p hu, .tuple_str _ _ p hu, .tuple_str _ _ p hu⟩
    | _ => cases hv
  · obtain ⟨its, rv, p, _⟩ := I.list z
    have p : s.heap.IsList l its.toArray := p.isList
    cases r with
    | non => obtain rfl : a = .none := ra; exact ⟨⟨.none_list p hu, .none_list p hu, .none_list p hu⟩, .list_none p hu, .list_none p hu, .list_none p hu⟩
    | bl b => obtain rfl : a = .bool _ := ra; exact ⟨⟨.bool_list _ p hu, .bool_list _ p hu, .bool_list _ p hu⟩, .list_bool _ p hu, .list_bool _ p hu, .list_bool _ p hu⟩
    | int i => obtain ⟨t, rfl⟩ := ra; exact ⟨⟨.int_list _ _ p hu, .int_list _ _ p hu, .int_list _ _ p hu⟩, .list_int _ _ p hu, .list_int _ _ p hu, .list_int _ _ p hu⟩
    | str i _ => obtain ⟨t, rfl⟩ := ra; exact ⟨⟨.str_list _ _ p hu, .str_list _ _ p hu, .str_list _ _ p hu⟩, .list_str _ _ p hu, .list_str _ _ p hu, .list_str _ _ p hu⟩
    | _ => cases hv
/-- == by values -/
theorem eqG_ok (I : Inv X pins σ H s) (rs : Rel X.K S m H) : ∀ (k : Nat) (A : Around) (v u : PV) (x y : V) (a b : Value) (c : Bool), RV X.K m H v x → RV X.K m H u y → RelV x a → RelV y b → eqG S k v u = some c → A.units + k < cLine → EqI A s a b c
  | 0, _, _, _, _, _, _, _, _, _, _, _, _, e, _ => by cases e
  | k + 1, A, v, u, x, y, a, b, c, r, t, ra, rb, e, hU => by
    have e0 := e
    have hu0 : A.units < cLine := by omega
    rw [eqG] at e
    by_cases hv : flatP v = true
    · rw [if_pos hv] at e
      by_cases hu : flatP u = true
      · rw [if_pos hu] at e
        cases e
        exact flat_eq r t ra rb hv hu A s
      · rw [if_neg hu] at e
        cases h : seqK S u with
        | none => rw [h] at e; cases e
        | some p => rw [h] at e; cases e; exact (flat_seqI I rs r t ra rb hv h hu0).1
    · rw [if_neg hv] at e
      cases hp : seqK S v with
      | none => rw [hp] at e; cases e
      | some p =>
        rw [hp] at e
        simp only at e
        by_cases hu : flatP u = true
        · rw [if_pos hu] at e
          cases e
          exact (flat_seqI I rs t r rb ra hu hp hu0).2
        · rw [if_neg hu] at e
          cases hq : seqK S u with
          | none => rw [hq] at e; cases e
          | some q =>
            rw [hq] at e
            simp only at e
            obtain ⟨l, vs, rfl, r1, z1⟩ := seqK_at rs r hp
            obtain ⟨l', ws, rfl, t1, z2⟩ := seqK_at rs t hq
            obtain rfl : a = .ref l := ra
            obtain rfl : b = .ref l' := rb
            have eqat : SeqAt.RcAt A s (.ref l) (.ref l') c → SeqAt.EqAt A s (.ref l) (.ref l') c := fun h => by
              by_cases hll : l = l'
              · subst hll
                rw [eqG_same I rs (k + 1) v u (.ref l) c r t e0]
                exact SeqAt.EqAt.same _
              · exact SeqAt.EqAt.of_refs hll h
            have wrap : SeqAt.RcAt A s (.ref l) (.ref l') c → SeqAt.RcNeAt A s (.ref l) (.ref l') (!c) → EqI A s (.ref l) (.ref l') c := fun h1 h2 => ⟨eqat h1, h1, h2⟩
            have hrec : ∀ v u x y a b c, RV X.K m H v x → RV X.K m H u y → RelV x a → RelV y b → eqG S k v u = some c → SeqAt.EqAt A.in1 s a b c := fun v u x y a b c r t ra rb e => (eqG_ok I rs k A.in1 v u x y a b c r t ra rb e (by show A.units + 1 + k < cLine; omega)).1
            unfold eqS at e
            rcases z1 with ⟨a1, a2⟩ | ⟨a1, a2⟩ <;> rcases z2 with ⟨b1, b2⟩ | ⟨b1, b2⟩
            · rw [if_pos (by rw [a1, b1]), if_neg (by rw [a1]; simp)] at e
              obtain ⟨its, rv, p1, _⟩ := I.tuple a2
              obtain ⟨jts, rw', p2, _⟩ := I.tuple b2
              obtain ⟨g, g1, g2⟩ := eqL_ok hrec r1 t1 rv rw' e
              have h1 := SeqAt.RcAt.tuples (A := A) (e := g) (show s.heap.IsTuple l its.toArray from p1) (show s.heap.IsTuple l' jts.toArray from p2) hu0 (fun j j1 j2 => by simpa using g1 j (by simpa using j1) (by simpa using j2))
              have h2 := SeqAt.RcNeAt.tuples (A := A) (e := g) (show s.heap.IsTuple l its.toArray from p1) (show s.heap.IsTuple l' jts.toArray from p2) hu0 (fun j j1 j2 => by simpa using g1 j (by simpa using j1) (by simpa using j2))
              rw [List.size_toArray, List.size_toArray, g2] at h1 h2
              exact wrap h1 h2
            · rw [if_neg (by rw [a1, b1]; simp)] at e
              cases e
              obtain ⟨its, rv, p1, _⟩ := I.tuple a2
              obtain ⟨jts, rw', p2, _⟩ := I.list b2
              exact wrap (SeqAt.RcAt.tuple_list p1 p2.isList hu0) (SeqAt.RcNeAt.tuple_list p1 p2.isList hu0)
            · rw [if_neg (by rw [a1, b1]; simp)] at e
              cases e
              obtain ⟨its, rv, p1, _⟩ := I.list a2
              obtain ⟨jts, rw', p2, _⟩ := I.tuple b2
              exact wrap (SeqAt.RcAt.list_tuple p1.isList p2 hu0) (SeqAt.RcNeAt.list_tuple p1.isList p2 hu0)
            · rw [if_pos (by rw [a1, b1])] at e
              obtain ⟨its, rv, p1, _⟩ := I.list a2
              obtain ⟨jts, rw', p2, _⟩ := I.list b2
              have n1 : its.length = p.2.length := by rw [← rv.length, ← r1.length]
              have n2 : jts.length = q.2.length := by rw [← rw'.length, ← t1.length]
              by_cases hl : p.2.length = q.2.length
              · rw [if_neg (by simp [hl])] at e
                obtain ⟨g, g1, g2⟩ := eqL_ok hrec r1 t1 rv rw' e
                have hl' : its.toArray.size = jts.toArray.size := by simp [n1, n2, hl]
                have h1 := SeqAt.RcAt.lists (A := A) (e := g) p1.isList p2.isList hl' hu0 (fun j j1 j2 => by simpa using g1 j (by simpa using j1) (by simpa using j2))
                have h2 := SeqAt.RcNeAt.lists (A := A) (e := g) p1.isList p2.isList hl' hu0 (fun j j1 j2 => by simpa using g1 j (by simpa using j1) (by simpa using j2))
                have g3 : (List.range its.toArray.size).all g = c := by
                  rw [← g2, n1, n2, hl, Nat.min_self, beq_self_eq_true, Bool.and_true]
                  simp [n1, hl]
                rw [g3] at h1 h2
                exact wrap h1 h2
              · rw [if_pos (by simp [a1, hl])] at e
                cases e
                have hl' : (its.toArray.size != jts.toArray.size) = true := by simp [n1, n2, hl]
                exact wrap (SeqAt.RcAt.lists_lengths p1.isList p2.isList hl' hu0) (SeqAt.RcNeAt.lists_lengths p1.isList p2.isList hl' hu0)
/-- x in .. -/
theorem inD_ok (I : Inv X pins σ H s) (rs : Rel X.K S m H) {A : Around} {v : PV} {x : V} {a : Value} {xs : List PV} {vs : List V} {its : List Value} {c : Bool} (r : RV X.K m H v x) (ra : RelV x a) (rx : RVs X.K m H xs vs) (rv : Vals vs its) (e : inD S v xs = some c) (hU : A.units + 171 < cLine) :
    ∃ g : Value → Bool, (∀ y, y ∈ its → SeqAt.EqAt A.in1 s y a (g y)) ∧ its.any g = c := by
  classical
  unfold inD at e
  obtain ⟨bs, e1, e2⟩ : ∃ bs, mapO (fun z => eqD S z v) xs = some bs ∧ bs.any id = c := by
    cases h : mapO (fun z => eqD S z v) xs with
    | none => rw [h] at e; cases e
    | some bs => rw [h] at e; exact ⟨bs, rfl, Option.some.inj e⟩
  have one : ∀ z w y c, RV X.K m H z w → RelV w y → eqD S z v = some c → SeqAt.EqAt A.in1 s y a c := fun z w y c h1 h2 h3 => (eqG_ok I rs 170 A.in1 z v w x y a c h1 r h2 ra h3 (by show A.units + 1 + 170 < cLine; omega)).1
  refine ⟨fun y => decide (∃ z w, z ∈ xs ∧ RV X.K m H z w ∧ RelV w y ∧ eqD S z v = some true), ?_, ?_⟩
  · have all : ∀ {xs : List PV} {vs : List V} {its : List Value} {bs : List Bool}, RVs X.K m H xs vs → Vals vs its → mapO (fun z => eqD S z v) xs = some bs → ∀ y ∈ its, ∃ z w c, z ∈ xs ∧ RV X.K m H z w ∧ RelV w y ∧ eqD S z v = some c := by
      intro xs
      induction xs with
      | nil => intro vs its bs rx rv _ y hy; cases rx; cases rv; cases hy
      | cons z zs ih =>
        intro vs its bs rx rv e y hy
        cases rx with
        | @cons _ w _ ws rz rr =>
        rw [mapO] at e
        cases h1 : eqD S z v with
        | none => rw [h1] at e; cases e
        | some c1 =>
          rw [h1] at e
          cases h2 : mapO (fun z => eqD S z v) zs with
          | none => rw [h2] at e; cases e
          | some cs =>
            cases rv with
            | cons rv rv' =>
              rcases List.mem_cons.mp hy with e' | e'
              · subst e'
                exact ⟨z, w, c1, List.mem_cons_self, rz, rv, h1⟩
              · obtain ⟨z', w', c', k1, k2⟩ := ih rr rv' h2 y e'
                exact ⟨z', w', c', List.mem_cons_of_mem _ k1, k2⟩
    intro y hy
    by_cases hw : ∃ z w, z ∈ xs ∧ RV X.K m H z w ∧ RelV w y ∧ eqD S z v = some true
    · simp only [decide_eq_true hw]
      obtain ⟨z, w, _, h2, h3, h4⟩ := hw
      exact one z w y true h2 h3 h4
    · simp only [decide_eq_false hw]
      obtain ⟨z, w, c', h1, h2, h3, h4⟩ := all rx rv e1 y hy
      cases c' with
      | true => exact (hw ⟨z, w, h1, h2, h3, h4⟩).elim
      | false => exact one z w y false h2 h3 h4
  · rw [← e2]
    have tr : ∀ {xs : List PV} {bs : List Bool}, mapO (fun z => eqD S z v) xs = some bs → ∀ z ∈ xs, eqD S z v = some true → bs.any id = true := by
      intro xs
      induction xs with
      | nil => intro bs _ z hz; cases hz
      | cons y ys ih =>
        intro bs e z hz h
        rw [mapO] at e
        cases h1 : eqD S y v with
        | none => rw [h1] at e; cases e
        | some c1 =>
          rw [h1] at e
          cases h2 : mapO (fun z => eqD S z v) ys with
          | none => rw [h2] at e; cases e
          | some cs =>
            rw [h2] at e
            cases e
            rcases List.mem_cons.mp hz with e' | e'
            · subst e'
              rw [h] at h1
              cases h1
              rfl
            · rw [List.any_cons, ih h2 z e' h, Bool.or_true]
    have rt : ∀ {xs : List PV} {vs : List V} {its : List Value} {bs : List Bool}, RVs X.K m H xs vs → Vals vs its → mapO (fun z => eqD S z v) xs = some bs → bs.any id = true → ∃ y ∈ its, ∃ z w, z ∈ xs ∧ RV X.K m H z w ∧ RelV w y ∧ eqD S z v = some true := by
      intro xs
      induction xs with
      | nil => intro vs its bs rx rv e h; cases e; cases h
      | cons z zs ih =>
        intro vs its bs rx rv e h
        cases rx with
        | @cons _ w _ ws rz rr =>
        rw [mapO] at e
        cases h1 : eqD S z v with
        | none => rw [h1] at e; cases e
        | some c1 =>
          rw [h1] at e
          cases h2 : mapO (fun z => eqD S z v) zs with
          | none => rw [h2] at e; cases e
          | some cs =>
            rw [h2] at e
            cases e
            cases rv with
            | @cons _ i _ is rv rv' =>
              cases c1 with
              | true => exact ⟨i, List.mem_cons_self, z, w, List.mem_cons_self, rz, rv, h1⟩
              | false =>
                obtain ⟨y, k1, z', w', k2, k3⟩ := ih rr rv' h2 h
                exact ⟨y, List.mem_cons_of_mem _ k1, z', w', List.mem_cons_of_mem _ k2, k3⟩
    cases hb : bs.any id with
    | true =>
      obtain ⟨y, k1, k2⟩ := rt rx rv e1 hb
      exact List.any_eq_true.mpr ⟨y, k1, decide_eq_true k2⟩
    | false =>
      rw [List.any_eq_false]
      intro y hy hw
      obtain ⟨z, w, h1, _, _, h4⟩ := of_decide_eq_true hw
      rw [tr e1 z h1 h4] at hb
      cases hb
end
theorem oc_eq (hu : X.A.units + 190 < cLine) : OpR X (compareOp .Eq) (rCmp X.K (cmpV .Eq)) := by
  intro pins s σ H x y v u Q I rx ry ⟨m, S, a, b, c, rs, ra, rb, e, q⟩
  exact (eqG_ok I rs 170 X.A a b x y v u c ra rb rx ry e (by omega)).2.1 _ _ _ _ ⟨.bl _, H, I, rfl, q⟩
theorem oc_ne (hu : X.A.units + 190 < cLine) : OpR X (compareOp .NotEq) (rCmp X.K (cmpV .NotEq)) := by
  intro pins s σ H x y v u Q I rx ry ⟨m, S, a, b, c, rs, ra, rb, e, q⟩
  have e : (eqD S a b).map (!·) = some c := e
  cases z : eqD S a b with
  | none => rw [z] at e; cases e
  | some c' =>
    rw [z] at e
    have e' : (!c') = c := Option.some.inj e
    exact (eqG_ok I rs 170 X.A a b x y v u c' ra rb rx ry z (by omega)).2.2 _ _ _ _ ⟨.bl _, H, I, rfl, by rw [e']; exact q⟩
/-- .. in a list or a tuple, a text, a dict -/
theorem isIn_cases {K : PySem.W.Frag} {m : Mp} {H : Hp} {S : Store} {a b : PV} {x y : V} {c : Bool} (rs : Rel K S m H) (ra : RV K m H a x) (rb : RV K m H b y) (e : isIn S a b = some c) :
    (∃ i j, x = .str i ∧ y = .str j ∧ c = !(Builtin.Str.occurrences j i 0 j.length 1).isEmpty) ∨
    (∃ p xs vs, y = .ref p ∧ (SqL K H p vs ∨ SqT K H p vs) ∧ RVs K m H xs vs ∧ inD S a xs = some c) ∨
    ∃ p o, y = .ref p ∧ DGet H p x o ∧ c = o.isSome := by
  cases rb with
  | str z hz =>
    cases ra with
    | str w hw =>
      left
      have e : some (!(Builtin.Str.occurrences z w 0 z.length 1).isEmpty) = some c := e
      exact ⟨w, z, rfl, rfl, (Option.some.inj e).symm⟩
    | _ => cases e
  | @tup xs vs p hl h r => exact .inr (.inl ⟨p, xs, vs, rfl, .inr h.sq, r, e⟩)
  | @lv xs vs p hl n h r => exact .inr (.inl ⟨p, xs, vs, rfl, .inl (.of h), r, e⟩)
  | @dv ks xs vs p hl n h r =>
    rw [isIn] at e
    cases hk : keyOf a with
    | none => rw [hk] at e; cases e
    | some k =>
      rw [hk] at e
      have e : some (getK (ks.zip xs) k).isSome = some c := e
      have ek := keyOf_rv ra hk
      refine .inr (.inr ⟨p, valV (ks.zip vs) k, rfl, ?_, ?_⟩)
      · rw [ek]; exact .k h
      · rcases r.zip.get k with ⟨g1, g2⟩ | ⟨z, v, g1, g2, _⟩
        · rw [g1] at e; rw [g2]; exact (Option.some.inj e).symm
        · rw [g1] at e; rw [g2]; exact (Option.some.inj e).symm
  | @loc n p h =>
    cases q : S[n]? with
    | none => rw [isIn, q] at e; simp only [items, q] at e; cases e
    | some o =>
      have ro := rs.at q h
      cases o with
      | lst ys =>
        obtain ⟨hl, vs, h1, h2⟩ := ro
        rw [isIn, q] at e
        simp only [items, q] at e
        exact .inr (.inl ⟨p, ys, vs, rfl, .inl (.of h1), h2, e⟩)
      | dic kvs =>
        obtain ⟨vs, h1, h2⟩ := ro
        rw [isIn, q] at e
        simp only at e
        cases hk : keyOf a with
        | none => rw [hk] at e; cases e
        | some k =>
          rw [hk] at e
          have e : some (getK kvs k).isSome = some c := e
          have ek := keyOf_rv ra hk
          refine .inr (.inr ⟨p, valV vs k, rfl, ?_, ?_⟩)
          · rw [ek]; exact .k h1
          · rcases h2.get k with ⟨g1, g2⟩ | ⟨z, v, g1, g2, _⟩
            · rw [g1] at e; rw [g2]; exact (Option.some.inj e).symm
            · rw [g1] at e; rw [g2]; exact (Option.some.inj e).symm
      | ins c fs => rw [isIn, q] at e; simp only [items, q] at e; cases e
  | _ => cases e
theorem any_arr {its : List Value} {g : Value → Bool} {c : Bool} (h : its.any g = c) : its.toArray.any g = c := by rw [← h]; simp
theorem oc_in (hu : X.A.units + 190 < cLine) : OpR X (compareOp .In) (rCmp X.K (cmpV .In)) := by
  intro pins s σ H x y v u Q I rx ry ⟨m, S, a, b, c, rs, ra, rb, e, q⟩
  rcases isIn_cases rs ra rb (show isIn S a b = some c from e) with ⟨i, j, e1, e2, e3⟩ | ⟨p, xs, vs, e1, e2, e3, e4⟩ | ⟨p, o, e1, e2, e3⟩
  · exact op_in_str pins s σ H x y v u Q I rx ry ⟨i, j, e1, e2, by rw [← e3]; exact q⟩
  · subst e1
    obtain rfl : u = Value.ref p := ry
    rcases e2 with e2 | e2
    · obtain ⟨its, rv, p1, _⟩ := I.list e2
      obtain ⟨g, g1, g2⟩ := inD_ok (A := X.A) I rs ra rx e3 rv e4 (by omega)
      exact SeqAt.in_listAt g p1.isList (fun y hy => g1 y (by simpa using hy)) ⟨.bl _, H, I, rfl, by rw [any_arr g2]; exact q⟩
    · obtain ⟨its, rv, p1, _⟩ := I.tuple e2
      obtain ⟨g, g1, g2⟩ := inD_ok (A := X.A) I rs ra rx e3 rv e4 (by omega)
      exact SeqAt.in_tupleAt g (show s.heap.IsTuple p its.toArray from p1) (fun y hy => g1 y (by simpa using hy)) ⟨.bl _, H, I, rfl, by rw [any_arr g2]; exact q⟩
  · subst e1
    obtain rfl : u = Value.ref p := ry
    exact d_in (by omega) I e2 rx fun s' I' => ⟨.bl c, H, I', by rw [e3]; rfl, q⟩
theorem oc_notin (hu : X.A.units + 190 < cLine) : OpR X (compareOp .NotIn) (rCmp X.K (cmpV .NotIn)) := by
  intro pins s σ H x y v u Q I rx ry ⟨m, S, a, b, c, rs, ra, rb, e, q⟩
  have e : (isIn S a b).map (!·) = some c := e
  cases z : isIn S a b with
  | none => rw [z] at e; cases e
  | some c' =>
    rw [z] at e
    have ec : (!c') = c := Option.some.inj e
    rcases isIn_cases rs ra rb z with ⟨i, j, e1, e2, e3⟩ | ⟨p, xs, vs, e1, e2, e3, e4⟩ | ⟨p, o, e1, e2, e3⟩
    · exact op_notIn_str pins s σ H x y v u Q I rx ry ⟨i, j, e1, e2, by rw [← e3, ec]; exact q⟩
    · subst e1
      obtain rfl : u = Value.ref p := ry
      rcases e2 with e2 | e2
      · obtain ⟨its, rv, p1, _⟩ := I.list e2
        obtain ⟨g, g1, g2⟩ := inD_ok (A := X.A) I rs ra rx e3 rv e4 (by omega)
        exact SeqAt.notIn_listAt g p1.isList (fun y hy => g1 y (by simpa using hy)) ⟨.bl _, H, I, rfl, by rw [any_arr g2, ec]; exact q⟩
      · obtain ⟨its, rv, p1, _⟩ := I.tuple e2
        obtain ⟨g, g1, g2⟩ := inD_ok (A := X.A) I rs ra rx e3 rv e4 (by omega)
        exact SeqAt.notIn_tupleAt g (show s.heap.IsTuple p its.toArray from p1) (fun y hy => g1 y (by simpa using hy)) ⟨.bl _, H, I, rfl, by rw [any_arr g2, ec]; exact q⟩
    · subst e1
      obtain rfl : u = Value.ref p := ry
      exact d_notIn (by omega) I e2 rx fun s' I' => ⟨.bl c, H, I', by rw [← e3, ec]; rfl, q⟩
theorem oc_is : OpR X (compareOp .Is) (rCmp X.K (cmpV .Is)) := by
  intro pins s σ H x y v u Q I rx ry ⟨m, S, a, b, c, rs, ra, rb, e, q⟩
  cases rb with
  | non =>
    have e : some (decide (a = .non)) = some c := e
    refine op_isN pins s σ H x .non v u Q I rx ry ⟨rfl, ?_⟩
    have : decide (x = V.non) = decide (a = PV.non) := by cases ra <;> simp
    rw [this, Option.some.inj e]
    exact q
  | bl b' =>
    cases ra with
    | bl a' =>
      have e : some (decide (a' = b')) = some c := e
      exact op_is_bl pins s σ H _ _ v u Q I rx ry ⟨a', b', rfl, rfl, by rw [Option.some.inj e]; exact q⟩
    | _ => cases e
  | _ => cases e
theorem oc_isnot : OpR X (compareOp .IsNot) (rCmp X.K (cmpV .IsNot)) := by
  intro pins s σ H x y v u Q I rx ry ⟨m, S, a, b, c, rs, ra, rb, e, q⟩
  cases rb with
  | non =>
    have e : some (!decide (a = .non)) = some c := e
    refine op_notN pins s σ H x .non v u Q I rx ry ⟨rfl, ?_⟩
    have : decide (x = V.non) = decide (a = PV.non) := by cases ra <;> simp
    rw [this, Option.some.inj e]
    exact q
  | bl b' =>
    cases ra with
    | bl a' =>
      have e : some (!decide (a' = b')) = some c := e
      exact op_isnot_bl pins s σ H _ _ v u Q I rx ry ⟨a', b', rfl, rfl, by rw [Option.some.inj e]; exact q⟩
    | _ => cases e
  | _ => cases e
theorem oc_lt : OpR X (compareOp .Lt) (rCmp X.K (cmpV .Lt)) := by
  intro pins s σ H x y v u Q I rx ry ⟨m, S, a, b, c, rs, ra, rb, e, q⟩
  cases ra <;> cases rb <;> first
    | (cases (show some _ = some c from e); exact op_lt pins s σ H _ _ v u Q I rx ry ⟨_, _, rfl, rfl, q⟩)
    | (cases (show some _ = some c from e); exact op_lt_str pins s σ H _ _ v u Q I rx ry ⟨_, _, rfl, rfl, q⟩)
    | cases e
theorem oc_le : OpR X (compareOp .LtE) (rCmp X.K (cmpV .LtE)) := by
  intro pins s σ H x y v u Q I rx ry ⟨m, S, a, b, c, rs, ra, rb, e, q⟩
  cases ra <;> cases rb <;> first
    | (cases (show some _ = some c from e); exact op_le pins s σ H _ _ v u Q I rx ry ⟨_, _, rfl, rfl, q⟩)
    | (cases (show some _ = some c from e); exact op_le_str pins s σ H _ _ v u Q I rx ry ⟨_, _, rfl, rfl, q⟩)
    | cases e
theorem oc_gt : OpR X (compareOp .Gt) (rCmp X.K (cmpV .Gt)) := by
  intro pins s σ H x y v u Q I rx ry ⟨m, S, a, b, c, rs, ra, rb, e, q⟩
  cases ra <;> cases rb <;> first
    | (cases (show some _ = some c from e); exact op_gt pins s σ H _ _ v u Q I rx ry ⟨_, _, rfl, rfl, q⟩)
    | (cases (show some _ = some c from e); exact op_gt_str pins s σ H _ _ v u Q I rx ry ⟨_, _, rfl, rfl, q⟩)
    | cases e
theorem oc_ge : OpR X (compareOp .GtE) (rCmp X.K (cmpV .GtE)) := by
  intro pins s σ H x y v u Q I rx ry ⟨m, S, a, b, c, rs, ra, rb, e, q⟩
  cases ra <;> cases rb <;> first
    | (cases (show some _ = some c from e); exact op_ge pins s σ H _ _ v u Q I rx ry ⟨_, _, rfl, rfl, q⟩)
    | (cases (show some _ = some c from e); exact op_ge_str pins s σ H _ _ v u Q I rx ry ⟨_, _, rfl, rfl, q⟩)
    | cases e
theorem oc_all (hu : X.A.units + 190 < cLine) : ∀ op : CmpOp, OpR X (compareOp op) (rCmp X.K (cmpV op))
  | .Eq => oc_eq hu
  | .NotEq => oc_ne hu
  | .In => oc_in hu
  | .NotIn => oc_notin hu
  | .Is => oc_is
  | .IsNot => oc_isnot
  | .Lt => oc_lt
  | .LtE => oc_le
  | .Gt => oc_gt
  | .GtE => oc_ge
/-! ### truth -/
theorem truth_ok {K : PySem.W.Frag} {m : Mp} {H : Hp} {S : Store} {a : PV} {x : V} {k : Bool} (rs : Rel K S m H) (ra : RV K m H a x) (e : truth S a = some k) : TruV K x H k := by
  cases ra with
  | non => cases e; exact rfl
  | bl b => cases e; exact rfl
  | int i => cases e; exact rfl
  | str z h => cases e; exact ⟨h.1, rfl⟩
  | tup hl h r => cases e; exact .inr (.inl ⟨_, h.sq, by rw [r.empty]⟩)
  | lv hl n h r => cases e; exact .inl ⟨_, .of h, by rw [r.empty]⟩
  | fz hl h r => cases e; exact .inl ⟨_, h.sq, by rw [r.empty]⟩
  | dv hl n h r => cases e; exact .inr (.inr ⟨_, h, by rw [r.zip.empty]⟩)
  | iv hl n h hC r => cases e
  | @loc n p h =>
    rw [truth] at e
    cases q : S[n]? with
    | none => rw [q] at e; cases e
    | some o =>
      rw [q] at e
      have ro := rs.at q h
      cases o with
      | lst xs => obtain ⟨hl, vs, h1, h2⟩ := ro; cases e; exact .inl ⟨_, .of h1, by rw [h2.empty]⟩
      | dic kvs => obtain ⟨vs, h1, h2⟩ := ro; cases e; exact .inr (.inr ⟨_, h1, by cases h2 <;> rfl⟩)
      | ins c fs => cases e
end
end L2.PF

set_option Elab.async false
set_option linter.all false
set_option maxRecDepth 100000
set_option maxHeartbeats 4000000
/-! PFD: arithmetic, subscripts, slices, built-in functions and methods, by values. -/
namespace L2.PF
open PySem PySem.Spec PyProof.Rows

section
variable {K : PySem.W.Frag} {m : Mp} {H : Hp} {S : Store}
theorem strOk_iff {x : Str} : PyData.strOk x = true ↔ ∀ c ∈ x.cps.toList, c < 0x110000 := by
  unfold PyData.strOk
  rw [← Array.all_toList, List.all_eq_true]
  constructor
  · intro h c hc; exact of_decide_eq_true (h c hc)
  · intro h c hc; exact decide_eq_true (h c hc)
theorem length_cps (x : Str) : x.length = x.cps.toList.length := by
  show x.cps.size = x.cps.toList.length
  simp
theorem cps_append (i j : Str) : (i ++ j).cps.toList = i.cps.toList ++ j.cps.toList := by
  show (i.cps ++ j.cps).toList = _
  simp
theorem StrOk.append {i j : Str} (a : StrOk i) (b : StrOk j) (h : i.length + j.length ≤ sizeLine) : StrOk (i ++ j) := by
  refine ⟨?_, strOk_iff.mpr fun c hc => ?_⟩
  · rw [length_cps, cps_append, List.length_append, ← length_cps, ← length_cps]; exact h
  · rw [cps_append] at hc
    rcases List.mem_append.mp hc with z | z
    · exact strOk_iff.mp a.2 c z
    · exact strOk_iff.mp b.2 c z
/-- a text of some of its signs -/
theorem StrOk.sub {i : Str} {l : List Nat} (a : StrOk i) (hl : l.length ≤ i.length) (h : ∀ c ∈ l, c ∈ i.cps.toList) : StrOk ⟨l.toArray⟩ := by
  refine ⟨?_, strOk_iff.mpr fun c hc => strOk_iff.mp a.2 c (h c (by simpa using hc))⟩
  show l.toArray.size ≤ sizeLine
  rw [List.size_toArray]
  exact Nat.le_trans hl a.1
theorem StrOk.one {c : Nat} (h : c < 0x110000) : StrOk ⟨#[c]⟩ := by
  refine ⟨?_, strOk_iff.mpr fun d hd => ?_⟩
  · show 1 ≤ sizeLine
    rw [sizeLine_eq]; decide
  · have : d = c := by simpa using hd
    rw [this]; exact h
/-- a new tuple, a new list -/
theorem new_tup (rs : Rel K S m H) {xs : List PV} {vs : List V} {p : Addr} {Q : V → Hp → Prop} (hl : xs.length ≤ sizeLine) (r : RVs K m H xs vs) (hp : H p = none)
    (q : ∀ z m' H', Ext m H m' H' → Rel K S m' H' → RV K m' H' (.tup xs) z → Q z H') : Q (.ref p) (upd H p (.tup vs)) :=
  q _ m _ (Ext.laid hp) (rs.laid hp) (.tup hl (.inl ⟨rs.out hp, upd_same⟩) (r.up (Ext.laid hp)))
theorem new_lst (rs : Rel K S m H) {xs : List PV} {vs : List V} {p : Addr} {Q : V → Hp → Prop} (hl : xs.length ≤ sizeLine) (r : RVs K m H xs vs) (hp : H p = none)
    (q : ∀ z m' H', Ext m H m' H' → Rel K S m' H' → RV K m' H' (.lv xs) z → Q z H') : Q (.ref p) (upd H p (.lst vs)) :=
  q _ m _ (Ext.laid hp) (rs.laid hp) (.lv hl (rs.out hp) upd_same (r.up (Ext.laid hp)))
theorem new_obj (rs : Rel K S m H) {xs : List PV} {vs : List V} {p : Addr} {Q : V → Hp → Prop} (hl : xs.length ≤ sizeLine) (r : RVs K m H xs vs) (hp : H p = none)
    (q : ∀ z m' H', Ext m H m' H' → Rel K (S ++ [PO.lst xs]) m' H' → RV K m' H' (.loc S.length) z → Q z H') : Q (.ref p) (upd H p (.lst vs)) :=
  q _ _ _ (Ext.laidIn hp) (rs.push hp ⟨hl, vs, upd_same, r.up (Ext.laidIn hp)⟩) (.loc (by show (m.locs ++ [p])[S.length]? = some p; rw [rs.len]; simp))
theorem new_dic (rs : Rel K S m H) {xs : List (Key × PV)} {vs : List (Key × V)} {p : Addr} {Q : V → Hp → Prop} (r : KVr K m H xs vs) (hp : H p = none)
    (q : ∀ z m' H', Ext m H m' H' → Rel K (S ++ [PO.dic xs]) m' H' → RV K m' H' (.loc S.length) z → Q z H') : Q (.ref p) (upd H p (.dK vs)) :=
  q _ _ _ (Ext.laidIn hp) (rs.push hp ⟨vs, upd_same, r.mono (Ext.laidIn hp)⟩) (.loc (by show (m.locs ++ [p])[S.length]? = some p; rw [rs.len]; simp))
theorem new_dv (rs : Rel K S m H) {xs : List (Key × PV)} {vs : List (Key × V)} {p : Addr} {Q : V → Hp → Prop} (r : KVr K m H xs vs) (hp : H p = none)
    (q : ∀ z m' H', Ext m H m' H' → Rel K S m' H' → RV K m' H' (.dv (xs.map (·.1)) (xs.map (·.2))) z → Q z H') : Q (.ref p) (upd H p (.dK vs)) := by
  obtain ⟨h1, h2⟩ := r.vals
  exact q _ m _ (Ext.laid hp) (rs.laid hp) (.dv (by simp) (rs.out hp) (by rw [← h2]; exact upd_same) (h1.up (Ext.laid hp)))
/-- the pairs of a dict -/
theorem ditems_dK (rs : Rel K S m H) {v : PV} {x : V} {kvs : List (Key × PV)} (h : RV K m H v x) (e : ditems S v = some kvs) : ∃ a vs, x = .ref a ∧ H a = some (.dK vs) ∧ KVr K m H kvs vs := by
  cases h with
  | dv hl n h r => cases e; exact ⟨_, _, rfl, h, r.zip⟩
  | @loc n a h =>
    rw [ditems] at e
    cases q : S[n]? with
    | none => rw [q] at e; cases e
    | some o =>
      rw [q] at e
      have ro := rs.at q h
      cases o with
      | dic ys => obtain ⟨vs, h1, h2⟩ := ro; cases e; exact ⟨_, _, rfl, h1, h2⟩
      | lst xs => cases e
      | ins c fs => cases e
  | _ => cases e
theorem mitems_lst (rs : Rel K S m H) {v : PV} {x : V} {xs : List PV} (h : RV K m H v x) (e : mitems S v = some xs) : ∃ a vs, x = .ref a ∧ H a = some (.lst vs) ∧ RVs K m H xs vs ∧ xs.length ≤ sizeLine := by
  cases h with
  | lv hl _ h t => rw [mitems] at e; cases e; exact ⟨_, _, rfl, h, t, hl⟩
  | @loc n a h =>
    rw [mitems] at e
    cases q : S[n]? with
    | none => rw [q] at e; cases e
    | some o =>
      rw [q] at e
      have ro := rs.at q h
      cases o with
      | lst ys => obtain ⟨hl, vs, h1, h2⟩ := ro; cases e; exact ⟨_, _, rfl, h1, h2, hl⟩
      | dic kvs => cases e
      | ins c fs => cases e
  | _ => rw [mitems] at e <;> first | cases e | (intros; exact fun z => nomatch z)
theorem RVs.nil_iff {xs : List PV} {vs : List V} (r : RVs K m H xs vs) : vs = [] ↔ xs = [] := by
  cases r with
  | nil => simp
  | cons r t => simp
end
theorem mulOk_c {i j : Int} (h : mulOk i j = true) : CMulW i j := by
  have h : decide (i.natAbs.log2 + j.natAbs.log2 < 1000000) = true := h
  have h2 := of_decide_eq_true h
  exact h2
theorem divOk_c {i j : Int} (h : divOk j = true) : CDivW i j := by
  have h : decide (0 < j ∧ j.natAbs.log2 < 9000) = true := h
  have h2 := of_decide_eq_true h
  exact h2
theorem powOk_c {i j : Int} (h : powOk i j = true) : CPow i j := by
  have h : decide (0 ≤ j ∧ j ≤ 1000000 ∧ i.natAbs < 2 ^ 64) = true := h
  have h2 := of_decide_eq_true h
  exact h2
section
variable {X : Cx}
theorem ob_add : OpR X (binaryOp .Add) (rBin X.K (binV .Add)) := by
  intro pins s σ H x y v u Q I rx ry ⟨m, S, a, b, c, rs, ra, rb, e, q⟩
  have lists : ∀ {xs ys : List PV}, mitems S a = some xs → mitems S b = some ys → (if xs.length + ys.length ≤ sizeLine then some (PV.lv (xs ++ ys)) else none) = some c → wpAny (model X.prog X.w) X.A (binaryOp .Add v u) (EP X pins σ Q) X.xe s := by
    intro xs ys e1 e2 e
    by_cases h : xs.length + ys.length ≤ sizeLine
    · rw [if_pos h] at e
      cases e
      obtain ⟨l, vs, rfl, h1, h2, _⟩ := mitems_lst rs ra e1
      obtain ⟨l2, ws, rfl, h3, h4, _⟩ := mitems_lst rs rb e2
      exact op_cat pins s σ H _ _ v u Q I rx ry ⟨l, l2, vs, ws, rfl, rfl, h1, h3, by rw [← h2.length, ← h4.length]; exact h, fun p hp => new_lst rs (by rw [List.length_append]; exact h) (h2.append h4) hp q⟩
    · rw [if_neg h] at e; cases e
  have listsE : (match mitems S a, mitems S b with
      | some xs, some ys => if xs.length + ys.length ≤ sizeLine then some (PV.lv (xs ++ ys)) else none
      | _, _ => none) = some c → wpAny (model X.prog X.w) X.A (binaryOp .Add v u) (EP X pins σ Q) X.xe s := by
    intro e
    cases e1 : mitems S a with
    | none => rw [e1] at e; cases e
    | some xs =>
      cases e2 : mitems S b with
      | none => rw [e1, e2] at e; cases e
      | some ys => rw [e1, e2] at e; exact lists e1 e2 e
  cases ra with
  | int i =>
    cases rb with
    | int j => cases e; exact op_add pins s σ H _ _ v u Q I rx ry ⟨i, j, rfl, rfl, q _ m H Ext.refl rs (.int _)⟩
    | _ => exact listsE e
  | str i hi =>
    cases rb with
    | str j hj =>
      have e : (if i.length + j.length ≤ sizeLine then some (PV.str (i ++ j)) else none) = some c := e
      by_cases h : i.length + j.length ≤ sizeLine
      · rw [if_pos h] at e
        cases e
        exact op_add_str pins s σ H _ _ v u Q I rx ry ⟨i, j, rfl, rfl, h, q _ m H Ext.refl rs (.str _ (hi.append hj h))⟩
      · rw [if_neg h] at e; cases e
    | _ => exact listsE e
  | @tup xs vs p hl h r =>
    cases rb with
    | @tup ys ws p2 hl2 h2 r2 =>
      have e : (if xs.length + ys.length ≤ sizeLine then some (PV.tup (xs ++ ys)) else none) = some c := e
      by_cases hh : xs.length + ys.length ≤ sizeLine
      · rw [if_pos hh] at e
        cases e
        refine op_catA pins s σ H _ _ v u Q I rx ry ⟨p, p2, vs, ws, rfl, rfl, h.sq, h2.sq, by rw [← r.length, ← r2.length]; exact hh, fun z => ?_, fun _ z => ?_, fun _ _ p3 hp => ?_⟩
        · have z' := r.nil_iff.mp z
          subst z'
          exact q _ m H Ext.refl rs (by rw [List.nil_append]; exact .tup hl2 h2 r2)
        · have z' := r2.nil_iff.mp z
          subst z'
          exact q _ m H Ext.refl rs (by rw [List.append_nil]; exact .tup hl h r)
        · exact new_tup rs (by rw [List.length_append]; exact hh) (r.append r2) hp q
      · rw [if_neg hh] at e; cases e
    | _ => exact listsE e
  | _ => cases rb <;> exact listsE e
theorem ite_some {α : Type} {c : Prop} [Decidable c] {o : Option α} {b : α} (h : (if c then o else none) = some b) : c ∧ o = some b := by
  by_cases hc : c
  · rw [if_pos hc] at h; exact ⟨hc, h⟩
  · rw [if_neg hc] at h; cases h
theorem rep_len {xs : List PV} {n : Nat} : (List.replicate n xs).flatten.length = xs.length * n := by
  rw [PyProof.Rows.lm_len_rep_flat, Nat.mul_comm]
theorem rep_rv {K : PySem.W.Frag} {m : Mp} {H : Hp} {xs : List PV} {vs : List V} (r : RVs K m H xs vs) : ∀ n : Nat, RVs K m H (List.replicate n xs).flatten (List.replicate n vs).flatten
  | 0 => .nil
  | n + 1 => by
    rw [List.replicate_succ, List.replicate_succ, List.flatten_cons, List.flatten_cons]
    exact r.append (rep_rv r n)
theorem mulS_ok {z : Str} {j : Int} (h : 0 ≤ j ∧ j ≤ 1000000 ∧ z.length * j.toNat ≤ 1000000) : MulOk z j := by
  obtain ⟨h1, h2, h3⟩ := h
  refine ⟨?_, fun h4 _ => ?_, fun h4 _ => ?_⟩
  · rw [decide_eq_false (by omega), decide_eq_false (by omega)]; rfl
  · have hj : (0 : Int) < j := by omega
    have e : ((z.length : Nat) : Int) * j ≤ 1000000 := by
      have : ((z.length * j.toNat : Nat) : Int) ≤ 1000000 := by omega
      rw [Int.natCast_mul, Int.toNat_of_nonneg h1] at this
      exact this
    have := Int.le_ediv_of_mul_le hj (show ((z.length : Nat) : Int) * j ≤ 2 ^ 63 - 1 by omega)
    omega
  · unfold Builtin.Str.tooLong
    rw [sizeLine_eq]
    exact decide_eq_false (by omega)
theorem ob_all : ∀ op : Operator, OpR X (binaryOp op) (rBin X.K (binV op)) := by
  intro op
  cases op with
  | Add => exact ob_add
  | Sub =>
    intro pins s σ H x y v u Q I rx ry ⟨m, S, a, b, c, rs, ra, rb, e, q⟩
    cases ra <;> cases rb <;> first
      | (cases (show some _ = some c from e); exact op_sub pins s σ H _ _ v u Q I rx ry ⟨_, _, rfl, rfl, q _ m H Ext.refl rs (.int _)⟩)
      | cases e
  | Mult =>
    intro pins s σ H x y v u Q I rx ry ⟨m, S, a, b, c, rs, ra, rb, e, q⟩
    have listsE : ∀ {j : Int}, b = .int j → (match mitems S a with
        | some xs => if decide (-(2 ^ 63) ≤ j ∧ j < 2 ^ 63 ∧ xs.length * j.toNat ≤ sizeLine) = true then some (PV.lv (List.replicate j.toNat xs).flatten) else none
        | none => none) = some c → wpAny (model X.prog X.w) X.A (binaryOp .Mult v u) (EP X pins σ Q) X.xe s := by
      intro j eb e9
      clear e
      subst eb
      cases rb
      cases e1 : mitems S a with
      | none => rw [e1] at e9; cases e9
      | some xs =>
        rw [e1] at e9
        obtain ⟨hc, e9⟩ := ite_some e9
        cases e9
        obtain ⟨l, vs, rfl, h1, h2, hl⟩ := mitems_lst rs ra e1
        obtain ⟨c1, c2, c3⟩ := of_decide_eq_true hc
        exact op_rep pins s σ H _ _ v u Q I rx ry ⟨l, j, vs, rfl, rfl, h1, c1, c2, by rw [← h2.length]; exact c3, fun p hp => new_lst rs (by rw [rep_len]; exact c3) (rep_rv h2 _) hp q⟩
    cases ra with
    | int i =>
      cases rb with
      | int j =>
        have e : (if mulOk i j = true then some (PV.int (i * j)) else none) = some c := e
        by_cases h : mulOk i j = true
        · rw [if_pos h] at e
          cases e
          exact op_mulW pins s σ H _ _ v u Q I rx ry ⟨i, j, rfl, rfl, mulOk_c h, q _ m H Ext.refl rs (.int _)⟩
        · rw [if_neg h] at e; cases e
      | _ => cases e
    | str z hz =>
      cases rb with
      | int j =>
        have e : (if (decide (0 ≤ j ∧ j ≤ 1000000 ∧ z.length * j.toNat ≤ 1000000) && okB (Txt.mul z j)) = true then some (PV.str (Txt.mul z j)) else none) = some c := e
        by_cases h : (decide (0 ≤ j ∧ j ≤ 1000000 ∧ z.length * j.toNat ≤ 1000000) && okB (Txt.mul z j)) = true
        · rw [if_pos h] at e
          cases e
          rw [Bool.and_eq_true] at h
          obtain ⟨t, rfl⟩ := rx
          obtain ⟨t', rfl⟩ := ry
          have hz2 : StrOk (Txt.mul z j) := by
            have := h.2
            unfold okB at this
            rw [Bool.and_eq_true] at this
            exact ⟨of_decide_eq_true this.1, this.2⟩
          exact SB.mul (mulS_ok (of_decide_eq_true h.1)) fun t2 k => ⟨.str _, H, I.tok _, ⟨_, rfl⟩, q _ m H Ext.refl rs (.str _ hz2)⟩
        · rw [if_neg h] at e; cases e
      | _ => cases e
    | @tup xs vs p hl h r =>
      cases rb with
      | int j =>
        have e : (if (!xs.isEmpty && decide (2 ≤ j ∧ j ≤ 1000 ∧ xs.length ≤ 1000)) = true then some (PV.tup (List.replicate j.toNat xs).flatten) else none) = some c := e
        obtain ⟨hc, e⟩ := ite_some e
        cases e
        rw [Bool.and_eq_true] at hc
        obtain ⟨c1, c2, c3⟩ := of_decide_eq_true hc.2
        refine op_repT pins s σ H _ _ v u Q I rx ry ⟨p, j, vs, rfl, rfl, h.sq, fun z => ?_, c1, c2, by rw [← r.length]; exact c3, fun p hp => new_tup rs ?_ (rep_rv r _) hp q⟩
        · have : xs = [] := by cases r with | nil => rfl | cons _ _ => cases z
          rw [this] at hc
          cases hc.1
        · rw [rep_len, sizeLine_eq]
          have h1 : j.toNat ≤ 1000 := by omega
          have : xs.length * j.toNat ≤ 1000 * 1000 := Nat.mul_le_mul c3 h1
          omega
      | _ => cases e
    | lv hl n h r =>
      cases rb with
      | int j => exact listsE rfl e
      | _ => cases e
    | loc h =>
      cases rb with
      | int j => exact listsE rfl e
      | _ => cases e
    | fz hl h r => cases rb <;> cases e
    | _ => cases rb <;> cases e
  | FloorDiv =>
    intro pins s σ H x y v u Q I rx ry ⟨m, S, a, b, c, rs, ra, rb, e, q⟩
    cases ra with
    | int i =>
      cases rb with
      | int j =>
        have e : (if divOk j = true then some (PV.int (i / j)) else none) = some c := e
        by_cases h : divOk j = true
        · rw [if_pos h] at e
          cases e
          exact op_fdivW pins s σ H _ _ v u Q I rx ry ⟨i, j, rfl, rfl, divOk_c h, q _ m H Ext.refl rs (.int _)⟩
        · rw [if_neg h] at e; cases e
      | _ => cases e
    | _ => cases e
  | Mod =>
    intro pins s σ H x y v u Q I rx ry ⟨m, S, a, b, c, rs, ra, rb, e, q⟩
    cases ra with
    | int i =>
      cases rb with
      | int j =>
        have e : (if 0 < j then some (PV.int (i % j)) else none) = some c := e
        by_cases h : 0 < j
        · rw [if_pos h] at e
          cases e
          exact op_mod pins s σ H _ _ v u Q I rx ry ⟨i, j, rfl, rfl, h, q _ m H Ext.refl rs (.int _)⟩
        · rw [if_neg h] at e; cases e
      | _ => cases e
    | _ => cases e
  | Pow =>
    intro pins s σ H x y v u Q I rx ry ⟨m, S, a, b, c, rs, ra, rb, e, q⟩
    cases ra with
    | int i =>
      cases rb with
      | int j =>
        have e : (if powOk i j = true then some (PV.int (i ^ j.toNat)) else none) = some c := e
        by_cases h : powOk i j = true
        · rw [if_pos h] at e
          cases e
          exact op_pow pins s σ H _ _ v u Q I rx ry ⟨i, j, rfl, rfl, powOk_c h, q _ m H Ext.refl rs (.int _)⟩
        · rw [if_neg h] at e; cases e
      | _ => cases e
    | _ => cases e
  | _ => intro pins s σ H x y v u Q I rx ry ⟨m, S, a, b, c, rs, ra, rb, e, q⟩; cases e
/-! ### subscripts -/
theorem atI_rv {K : PySem.W.Frag} {m : Mp} {H : Hp} {xs : List PV} {vs : List V} {i : Int} {c : PV} (r : RVs K m H xs vs) (e : atI xs i = some c) : ∃ z, atI vs i = some z ∧ RV K m H c z := by
  unfold atI at e ⊢
  rw [← r.length]
  cases h : ixN xs.length i with
  | none => rw [h] at e; cases e
  | some j =>
    rw [h] at e
    obtain ⟨z, h1, h2⟩ := r.get (show xs[j]? = some c from e)
    exact ⟨z, h1, h2⟩
theorem atI_mem {α : Type} {xs : List α} {i : Int} {c : α} (e : atI xs i = some c) : c ∈ xs := by
  unfold atI at e
  cases h : ixN xs.length i with
  | none => rw [h] at e; cases e
  | some j => rw [h] at e; exact List.mem_of_getElem? (show xs[j]? = some c from e)
theorem oi_all (hu : X.A.units + 190 < cLine) : IxR X (rBin X.K ixV) := by
  intro value slice pins s σ H x y v u Q I rx ry ⟨m, S, a, b, c, rs, ra, rb, e, q⟩ hs
  cases ra with
  | str z hz =>
    cases rb with
    | int i =>
      have e : (match atI z.cps.toList i with | some c => some (PV.str ⟨#[c]⟩) | none => none) = some c := e
      cases h : atI z.cps.toList i with
      | none => rw [h] at e; cases e
      | some d =>
        rw [h] at e
        cases e
        exact ix_str value slice pins s σ H _ _ v u Q I rx ry ⟨z, i, d, rfl, rfl, hz.1, h, q _ m H Ext.refl rs (.str _ (.one (strOk_iff.mp hz.2 d (atI_mem h))))⟩ hs
    | _ => cases e
  | tup hl h r =>
    cases rb with
    | int i =>
      obtain ⟨z, h1, h2⟩ := atI_rv r (show atI _ i = some c from e)
      exact ix_tup value slice pins s σ H _ _ v u Q I rx ry ⟨_, _, i, z, rfl, rfl, h.sq, h1, q _ m H Ext.refl rs h2⟩ hs
    | _ => cases e
  | lv hl n h r =>
    cases rb with
    | int i =>
      obtain ⟨z, h1, h2⟩ := atI_rv r (show atI _ i = some c from e)
      exact ix_list value slice pins s σ H _ _ v u Q I rx ry ⟨_, _, i, z, rfl, rfl, .of h, h1, q _ m H Ext.refl rs h2⟩ hs
    | _ => cases e
  | fz hl h r =>
    cases rb with
    | int i =>
      obtain ⟨z, h1, h2⟩ := atI_rv r (show atI _ i = some c from e)
      exact ix_list value slice pins s σ H _ _ v u Q I rx ry ⟨_, _, i, z, rfl, rfl, h.sq, h1, q _ m H Ext.refl rs h2⟩ hs
    | _ => cases e
  | @loc n p h =>
    rw [ixV] at e
    cases g : S[n]? with
    | none => rw [g] at e; cases e
    | some o =>
      rw [g] at e
      have ro := rs.at g h
      cases o with
      | lst xs =>
        obtain ⟨hl, vs, g1, g2⟩ := ro
        cases rb with
        | int i =>
          obtain ⟨z, h1, h2⟩ := atI_rv g2 (show atI _ i = some c from e)
          exact ix_list value slice pins s σ H _ _ v u Q I rx ry ⟨_, _, i, z, rfl, rfl, .of g1, h1, q _ m H Ext.refl rs h2⟩ hs
        | _ => cases e
      | dic kvs =>
        obtain ⟨vs, g1, g2⟩ := ro
        simp only at e
        cases hk : keyOf b with
        | none => rw [hk] at e; cases e
        | some k =>
          rw [hk] at e
          have e : getK kvs k = some c := e
          have ek := keyOf_rv rb hk
          rcases g2.get k with ⟨z1, _⟩ | ⟨z, w, z1, z2, z3⟩
          · rw [z1] at e; cases e
          · rw [z1] at e
            cases e
            obtain rfl : v = Value.ref p := rx
            have dg : DGet H p y (some w) := by rw [ek, ← z2]; exact .k g1
            exact tail_any (dict_typeIs I dg) PySem.F.slot_dict_getitem.lookup (d_getItem (by omega) I dg ry fun w' s' I' rw' => ⟨w, H, I', rw', q _ m H Ext.refl rs z3⟩) hs
      | ins c fs => cases e
  | @dv ks xs vs p hl n h r =>
    rw [ixV] at e
    cases hk : keyOf b with
    | none => rw [hk] at e; cases e
    | some k =>
      rw [hk] at e
      have e : getK (ks.zip xs) k = some c := e
      have ek := keyOf_rv rb hk
      rcases r.zip.get k with ⟨z1, _⟩ | ⟨z, w, z1, z2, z3⟩
      · rw [z1] at e; cases e
      · rw [z1] at e
        cases e
        obtain rfl : v = Value.ref p := rx
        have dg : DGet H p y (some w) := by rw [ek, ← z2]; exact .k h
        exact tail_any (dict_typeIs I dg) PySem.F.slot_dict_getitem.lookup (d_getItem (by omega) I dg ry fun w' s' I' rw' => ⟨w, H, I', rw', q _ m H Ext.refl rs z3⟩) hs
  | _ => cases e
/-! ### slices -/
def rSl (K : PySem.W.Frag) : V → Option Int → Option Int → Hp → VK → Prop := fun x lo hi H Q => ∃ m S a c, Rel K S m H ∧ RV K m H a x ∧ slV S a lo hi = some c ∧ ∀ z m' H', Ext m H m' H' → Rel K S m' H' → RV K m' H' c z → Q z H'
theorem cut_rv {K : PySem.W.Frag} {m : Mp} {H : Hp} {xs : List PV} {vs : List V} (r : RVs K m H xs vs) (lo hi : Option Int) : RVs K m H (cutP xs lo hi) (cutV vs lo hi) := by
  unfold cutP cutV
  rw [← r.length]
  exact (r.drop _).take _
theorem cut_le (xs : List PV) (lo hi : Option Int) : (cutP xs lo hi).length ≤ xs.length := by
  unfold cutP
  rw [List.length_take, List.length_drop]
  omega
theorem cut_whole {xs : List PV} {lo hi : Option Int} (h : HT.sIx xs.length 0 lo = 0 ∧ HT.sIx xs.length xs.length hi = xs.length) : cutP xs lo hi = xs := by
  unfold cutP
  rw [h.1, h.2]
  simp
theorem os_all : SlR X (rSl X.K) := by
  intro pins s σ H x v vl vu lo hi sl Q I rx hs pl pu ⟨m, S, a, c, rs, ra, e, q⟩
  have lists : ∀ {xs : List PV}, litems S a = some xs → some (PV.lv (cutP xs lo hi)) = some c → ∃ T id, typeLookup (.type T) "__getitem__" = pure (some (.builtin id)) ∧ s.TypeIs v T ∧ wpAny (model X.prog X.w) X.A (getItem v (.ref sl)) (EP X pins σ Q) X.xe s := by
    intro xs e1 e2
    cases e2
    obtain ⟨p, vs, ep, h1, h2, hl⟩ := litems_sq rs ra e1
    exact sl_list pins s σ H x v vl vu lo hi sl Q I rx hs pl pu ⟨p, vs, ep, h1, fun p' hp => new_lst rs (Nat.le_trans (cut_le _ _ _) hl) (cut_rv h2 lo hi) hp q⟩
  have listsE : (match litems S a with
      | some xs => some (PV.lv (cutP xs lo hi))
      | none => none) = some c → ∃ T id, typeLookup (.type T) "__getitem__" = pure (some (.builtin id)) ∧ s.TypeIs v T ∧ wpAny (model X.prog X.w) X.A (getItem v (.ref sl)) (EP X pins σ Q) X.xe s := by
    intro e
    cases e1 : litems S a with
    | none => rw [e1] at e; cases e
    | some xs => rw [e1] at e; exact lists e1 e
  cases ra with
  | str z hz =>
    cases (show some (PV.str (cutS z lo hi)) = some c from e)
    refine sl_str pins s σ H _ v vl vu lo hi sl Q I rx hs pl pu ⟨z, rfl, hz.1, q _ m H Ext.refl rs (.str _ ?_)⟩
    refine hz.sub ?_ fun d hd => ?_
    · rw [List.length_take, List.length_drop, ← length_cps]; omega
    · exact List.mem_of_mem_drop (List.mem_of_mem_take hd)
  | @tup xs vs p hl h r =>
    cases (show some (PV.tup (cutP xs lo hi)) = some c from e)
    refine sl_tupA pins s σ H _ v vl vu lo hi sl Q I rx hs pl pu ⟨p, vs, rfl, h.sq, fun hw => ?_, fun _ p' hp => new_tup rs (Nat.le_trans (cut_le _ _ _) hl) (cut_rv r lo hi) hp q⟩
    rw [← r.length] at hw
    exact q _ m H Ext.refl rs (by rw [cut_whole hw]; exact .tup hl h r)
  | lv hl n h r => exact listsE e
  | loc h => exact listsE e
  | fz hl h r => exact listsE e
  | _ => exact listsE e
end
end L2.PF

set_option Elab.async false
set_option linter.all false
set_option maxRecDepth 100000
set_option maxHeartbeats 4000000
/-! PFE: built-in functions and methods, by values. -/
namespace L2.PF
open PySem PySem.Spec PyProof.Rows

section
variable {K : PySem.W.Frag} {m : Mp} {H : Hp} {S : Store}
theorem okB_ok {x : Str} (h : okB x = true) : StrOk x := by
  unfold okB at h
  rw [Bool.and_eq_true] at h
  exact ⟨of_decide_eq_true h.1, h.2⟩
theorem ints_rv : ∀ {xs : List PV} {vs : List V} {is : List Int}, RVs K m H xs vs → intsOf xs = some is → vs = is.map V.int
  | _, _, _, .nil, e => by rw [intsOf] at e; cases e; rfl
  | x :: xs, _, _, .cons r t, e => by
    cases r with
    | int i =>
      rw [intsOf] at e
      cases q : intsOf xs with
      | none => rw [q] at e; cases e
      | some js => rw [q] at e; cases e; rw [ints_rv t q]; rfl
    | _ => rw [intsOf] at e <;> first | cases e | (intros; exact fun z => nomatch z)
theorem bools_rv : ∀ {xs : List PV} {vs : List V} {is : List Bool}, RVs K m H xs vs → boolsOf xs = some is → vs = is.map V.bl
  | _, _, _, .nil, e => by rw [boolsOf] at e; cases e; rfl
  | x :: xs, _, _, .cons r t, e => by
    cases r with
    | bl i =>
      rw [boolsOf] at e
      cases q : boolsOf xs with
      | none => rw [q] at e; cases e
      | some js => rw [q] at e; cases e; rw [bools_rv t q]; rfl
    | _ => rw [boolsOf] at e <;> first | cases e | (intros; exact fun z => nomatch z)
theorem strs_rv : ∀ {xs : List PV} {vs : List V} {is : List Str}, RVs K m H xs vs → strsOf xs = some is → vs = is.map V.str ∧ ∀ x ∈ is, StrOk x
  | _, _, _, .nil, e => by rw [strsOf] at e; cases e; exact ⟨rfl, fun x h => absurd h (by simp)⟩
  | x :: xs, _, _, .cons r t, e => by
    cases r with
    | str i hi =>
      rw [strsOf] at e
      cases q : strsOf xs with
      | none => rw [q] at e; cases e
      | some js =>
        rw [q] at e; cases e
        obtain ⟨h1, h2⟩ := strs_rv t q
        refine ⟨by rw [h1]; rfl, fun y hy => ?_⟩
        rcases List.mem_cons.mp hy with z | z
        · rw [z]; exact hi
        · exact h2 y z
    | _ => rw [strsOf] at e <;> first | cases e | (intros; exact fun z => nomatch z)
theorem join_cps (a : Str) : ∀ (ys : List Str) (c : Nat), c ∈ (Str.join a ys).cps.toList → c ∈ a.cps.toList ∨ ∃ y ∈ ys, c ∈ y.cps.toList
  | [], c, h => by
    have h : c ∈ ([] : List Nat) := h
    cases h
  | [x], c, h => .inr ⟨x, by simp, h⟩
  | x :: y :: r, c, h => by
    have h : c ∈ (x ++ a ++ Str.join a (y :: r)).cps.toList := h
    rw [cps_append, cps_append] at h
    rcases List.mem_append.mp h with h | h
    · rcases List.mem_append.mp h with h | h
      · exact .inr ⟨x, by simp, h⟩
      · exact .inl h
    · rcases join_cps a (y :: r) c h with h | ⟨z, h1, h2⟩
      · exact .inl h
      · exact .inr ⟨z, List.mem_cons_of_mem _ h1, h2⟩
theorem join_ok {a : Str} {ys : List Str} (ha : StrOk a) (h : ∀ x ∈ ys, StrOk x) (hl : (ys.map (·.length)).sum + ys.length * a.length ≤ 16777216) : StrOk (Txt.join a ys) := by
  rw [TL.join_eq]
  refine ⟨?_, strOk_iff.mpr fun c hc => ?_⟩
  · have h1 := StrLaws.join_length_le a ys
    rw [sizeLine_eq]
    omega
  · rcases join_cps a ys c hc with z | ⟨y, h1, h2⟩
    · exact strOk_iff.mp ha.2 c z
    · exact strOk_iff.mp (h y h1).2 c h2
end
/-- a call of f with such values -/
def rBlt (K : PySem.W.Frag) (f : Store → List PV → R PV) : List V → Hp → VK → Prop := fun xs H Q => ∃ m S vs, Rel K S m H ∧ RVs K m H vs xs ∧ Post K (RV K) m H (f S vs) Q fun _ _ _ _ => False
def rMth (K : PySem.W.Frag) (f : Store → PV → List PV → R PV) : V → List V → Hp → VK → Prop := fun x xs H Q => ∃ m S o vs, Rel K S m H ∧ RV K m H o x ∧ RVs K m H vs xs ∧ Post K (RV K) m H (f S o vs) Q fun _ _ _ _ => False
section
variable {X : Cx}
/-- a value without a heap's change -/
theorem blt_of {K : PySem.W.Frag} {m : Mp} {H : Hp} {S : Store} {b : Blt} {vs : List PV} {Q : V → Hp → Prop} (h : Post K (RV K) m H (R.ofO (bltV b S vs) S) Q fun _ _ _ _ => False) : ∃ c, bltV b S vs = some c ∧ ∀ z m' H', Ext m H m' H' → Rel K S m' H' → RV K m' H' c z → Q z H' := by
  obtain ⟨c, e, q⟩ := h.ofO
  exact ⟨c, e, q⟩
theorem map_some {α β : Type} {o : Option α} {f : α → β} {c : β} (e : o.map f = some c) : ∃ a, o = some a ∧ f a = c := by
  cases o with
  | none => cases e
  | some a => exact ⟨a, rfl, Option.some.inj e⟩
theorem rvs1 {K : PySem.W.Frag} {m : Mp} {H : Hp} {a : PV} {xs : List V} (r : RVs K m H [a] xs) : ∃ x, xs = [x] ∧ RV K m H a x := by
  cases r with
  | cons r t => cases t; exact ⟨_, rfl, r⟩
theorem rvs2 {K : PySem.W.Frag} {m : Mp} {H : Hp} {a b : PV} {xs : List V} (r : RVs K m H [a, b] xs) : ∃ x y, xs = [x, y] ∧ RV K m H a x ∧ RV K m H b y := by
  cases r with
  | cons r t =>
    cases t with
    | cons r2 t => cases t; exact ⟨_, _, rfl, r, r2⟩
theorem cb_len : CallR X (.builtin "len") (rBlt X.K (bltR .len)) := by
  intro pins s σ H xs us Q I rx ⟨m, S, vs, rs, rv, h⟩
  obtain ⟨c, e, q⟩ := blt_of h
  have q := fun z v => q z m H Ext.refl rs v
  match vs, rv, e with
  | [], _, e => cases e
  | _ :: _ :: _, _, e => cases e
  | [a], rv, e =>
    obtain ⟨x, rfl, ra⟩ := rvs1 rv
    have e : (lenV S a).map (fun (n : Nat) => PV.int n) = some c := e
    obtain ⟨n, e1, rfl⟩ := map_some e
    have q := q _ (.int _)
    cases ra with
    | str z hz => cases (show some z.length = some n from e1); exact call_len_str pins s σ H _ us Q I rx ⟨z, rfl, hz.1, q⟩
    | tup hl ht r => cases (show some _ = some n from e1); exact call_len_seq pins s σ H _ us Q I rx ⟨_, _, rfl, .inr ht.sq, by rw [← r.length]; exact q⟩
    | lv hl _ ht r => cases (show some _ = some n from e1); exact call_len_seq pins s σ H _ us Q I rx ⟨_, _, rfl, .inl (.of ht), by rw [← r.length]; exact q⟩
    | fz hl ht r => cases (show some _ = some n from e1); exact call_len_seq pins s σ H _ us Q I rx ⟨_, _, rfl, .inl ht.sq, by rw [← r.length]; exact q⟩
    | @loc k p hk =>
      rw [lenV] at e1
      cases g : S[k]? with
      | none => rw [g] at e1; cases e1
      | some o =>
        rw [g] at e1
        have ro := rs.at g hk
        cases o with
        | lst ys => obtain ⟨hl, vs, g1, g2⟩ := ro; cases e1; exact call_len_seq pins s σ H _ us Q I rx ⟨_, _, rfl, .inl (.of g1), by rw [← g2.length]; exact q⟩
        | dic kvs => obtain ⟨vs, g1, g2⟩ := ro; cases e1; exact call_lenD pins s σ H _ us Q I rx ⟨_, _, rfl, g1, by rw [← g2.length]; exact q⟩
        | ins c fs => cases e1
    | @dv ks ys ws p hl n ht r =>
      cases (show some (ks.zip ys).length = some _ from e1)
      exact call_lenD pins s σ H _ us Q I rx ⟨_, _, rfl, ht, by rw [← r.zip.length]; exact q⟩
    | _ => cases e1
theorem cb_int1 : CallR X (.type "int") (rBlt X.K (bltR .int1)) := by
  intro pins s σ H xs us Q I rx ⟨m, S, vs, rs, rv, h⟩
  obtain ⟨c, e, q⟩ := blt_of h
  have q := fun z v => q z m H Ext.refl rs v
  match vs, rv, e with
  | [], _, e => cases e
  | _ :: _ :: _, _, e => revert e; rename_i a _ _ _; cases a <;> exact fun e => nomatch e
  | [a], rv, e =>
    obtain ⟨x, rfl, ra⟩ := rvs1 rv
    cases ra with
    | int i => cases e; exact call_int1 pins s σ H _ us Q I rx (.inl ⟨i, rfl, q _ (.int _)⟩)
    | bl k => cases e; exact call_int1 pins s σ H _ us Q I rx (.inr ⟨k, rfl, q _ (.int _)⟩)
    | _ => cases e
theorem cb_tuple1 : CallR X (.type "tuple") (rBlt X.K (bltR .tuple1)) := by
  intro pins s σ H xs us Q I rx ⟨m, S, vs, rs, rv, h⟩
  obtain ⟨c, e, q⟩ := blt_of h
  match vs, rv, e with
  | [], _, e => cases e
  | _ :: _ :: _, _, e => cases e
  | [a], rv, e =>
    obtain ⟨x, rfl, ra⟩ := rvs1 rv
    have e : (items S a).map PV.tup = some c := e
    obtain ⟨ys, e1, rfl⟩ := map_some e
    cases ra with
    | tup hl ht r =>
      cases (show some _ = some ys from e1)
      exact call_tuple_of pins s σ H _ us Q I rx ⟨_, _, rfl, .inr ⟨ht.sq, q _ m H Ext.refl rs (.tup hl ht r)⟩⟩
    | lv hl n ht r =>
      cases (show some _ = some ys from e1)
      exact call_tuple_of pins s σ H _ us Q I rx ⟨_, _, rfl, .inl ⟨.of ht, fun p hp => new_tup rs hl r hp q⟩⟩
    | fz hl ht r =>
      cases (show some _ = some ys from e1)
      exact call_tuple_of pins s σ H _ us Q I rx ⟨_, _, rfl, .inl ⟨ht.sq, fun p hp => new_tup rs hl r hp q⟩⟩
    | @loc k p hk =>
      rw [items] at e1
      cases g : S[k]? with
      | none => rw [g] at e1; cases e1
      | some o =>
        rw [g] at e1
        have ro := rs.at g hk
        cases o with
        | lst zs => obtain ⟨hl, vs, g1, g2⟩ := ro; cases e1; exact call_tuple_of pins s σ H _ us Q I rx ⟨_, _, rfl, .inl ⟨.of g1, fun p hp => new_tup rs hl g2 hp q⟩⟩
        | dic kvs => cases e1
        | ins c fs => cases e1
    | _ => cases e1
theorem cb_list1 : CallR X (.type "list") (rBlt X.K (bltR .list1)) := by
  intro pins s σ H xs us Q I rx ⟨m, S, vs, rs, rv, h⟩
  obtain ⟨c, e, q⟩ := blt_of h
  match vs, rv, e with
  | [], _, e => cases e
  | _ :: _ :: _, _, e => cases e
  | [a], rv, e =>
    obtain ⟨x, rfl, ra⟩ := rvs1 rv
    have e : (items S a).map PV.lv = some c := e
    obtain ⟨ys, e1, rfl⟩ := map_some e
    obtain ⟨p, vs, rfl, sq, r, hl⟩ := items_sq rs ra e1
    exact call_list_of pins s σ H _ us Q I rx ⟨p, vs, rfl, sq, fun p' hp => new_lst rs hl r hp q⟩
theorem cb_list1m : CallR X (.type "list") (rBlt X.K (bltR .list1m)) := by
  intro pins s σ H xs us Q I rx ⟨m, S, vs, rs, rv, h⟩
  match vs, rv, h with
  | [], _, h => exact h.elim
  | _ :: _ :: _, _, h => exact h.elim
  | [a], rv, h =>
    obtain ⟨x, rfl, ra⟩ := rvs1 rv
    have h : Post X.K (RV X.K) m H (match items S a with
      | some xs => .ok (.loc S.length) (S ++ [PO.lst xs])
      | none => .bad) Q fun _ _ _ _ => False := h
    cases e1 : items S a with
    | none => rw [e1] at h; exact h.elim
    | some ys =>
      rw [e1] at h
      obtain ⟨p, vs, rfl, sq, r, hl⟩ := items_sq rs ra e1
      exact call_list_of pins s σ H _ us Q I rx ⟨p, vs, rfl, sq, fun p' hp => new_obj rs hl r hp h⟩
theorem cb_dict1 : CallR X (.type "dict") (rBlt X.K (bltR .dict1)) := by
  intro pins s σ H xs us Q I rx ⟨m, S, vs, rs, rv, h⟩
  match vs, rv, h with
  | [], _, h => exact h.elim
  | _ :: _ :: _, _, h => exact h.elim
  | [a], rv, h =>
    obtain ⟨x, rfl, ra⟩ := rvs1 rv
    have h : Post X.K (RV X.K) m H (match ditems S a with
      | some kvs => mkDict false kvs S
      | none => .bad) Q fun _ _ _ _ => False := h
    cases g : ditems S a with
    | none => rw [g] at h; exact h.elim
    | some kvs =>
      rw [g] at h
      obtain ⟨p, ws, rfl, g1, g2⟩ := ditems_dK rs ra g
      exact call_dictD pins s σ H _ us Q I rx ⟨p, ws, rfl, .inl g1, fun p' hp => new_dv rs g2 hp h⟩
theorem cb_dict1m : CallR X (.type "dict") (rBlt X.K (bltR .dict1m)) := by
  intro pins s σ H xs us Q I rx ⟨m, S, vs, rs, rv, h⟩
  match vs, rv, h with
  | [], _, h => exact h.elim
  | _ :: _ :: _, _, h => exact h.elim
  | [a], rv, h =>
    obtain ⟨x, rfl, ra⟩ := rvs1 rv
    have h : Post X.K (RV X.K) m H (match ditems S a with
      | some kvs => mkDict true kvs S
      | none => .bad) Q fun _ _ _ _ => False := h
    cases g : ditems S a with
    | none => rw [g] at h; exact h.elim
    | some kvs =>
      rw [g] at h
      obtain ⟨p, ws, rfl, g1, g2⟩ := ditems_dK rs ra g
      exact call_dictD pins s σ H _ us Q I rx ⟨p, ws, rfl, .inl g1, fun p' hp => new_dic rs g2 hp h⟩
theorem cb_max2 (hc : X.calm = true) : CallR X (.builtin "max") (rBlt X.K (bltR .max2)) := by
  intro pins s σ H xs us Q I rx ⟨m, S, vs, rs, rv, h⟩
  obtain ⟨c, e, q⟩ := blt_of h
  have q := fun z v => q z m H Ext.refl rs v
  match vs, rv, e with
  | [], _, e => cases e
  | [a], _, e => revert e; cases a <;> exact fun e => nomatch e
  | a :: b :: _ :: _, _, e => revert e; cases a <;> cases b <;> exact fun e => nomatch e
  | [a, b], rv, e =>
    obtain ⟨x, y, rfl, ra, rb⟩ := rvs2 rv
    cases ra <;> cases rb <;> first
      | (cases e; exact call_max2 hc pins s σ H _ us Q I rx ⟨_, _, rfl, q _ (.int _)⟩)
      | cases e
theorem cb_min2 (hc : X.calm = true) : CallR X (.builtin "min") (rBlt X.K (bltR .min2)) := by
  intro pins s σ H xs us Q I rx ⟨m, S, vs, rs, rv, h⟩
  obtain ⟨c, e, q⟩ := blt_of h
  have q := fun z v => q z m H Ext.refl rs v
  match vs, rv, e with
  | [], _, e => cases e
  | [a], _, e => revert e; cases a <;> exact fun e => nomatch e
  | a :: b :: _ :: _, _, e => revert e; cases a <;> cases b <;> exact fun e => nomatch e
  | [a, b], rv, e =>
    obtain ⟨x, y, rfl, ra, rb⟩ := rvs2 rv
    cases ra <;> cases rb <;> first
      | (cases e; exact call_min2 hc pins s σ H _ us Q I rx ⟨_, _, rfl, q _ (.int _)⟩)
      | cases e
theorem cb_all1 (hc : X.calm = true) : CallR X (.builtin "all") (rBlt X.K (bltR .all1)) := by
  intro pins s σ H xs us Q I rx ⟨m, S, vs, rs, rv, h⟩
  obtain ⟨c, e, q⟩ := blt_of h
  match vs, rv, e with
  | [], _, e => cases e
  | _ :: _ :: _, _, e => cases e
  | [a], rv, e =>
    obtain ⟨x, rfl, ra⟩ := rvs1 rv
    have e : (match litems S a with
      | some xs => (boolsOf xs).map fun bs => PV.bl (bs.all id)
      | none => none) = some c := e
    cases e1 : litems S a with
    | none => rw [e1] at e; cases e
    | some ys =>
      rw [e1] at e
      obtain ⟨bs, e2, rfl⟩ := map_some e
      obtain ⟨p, vs, rfl, sq, r, hl⟩ := litems_sq rs ra e1
      rw [bools_rv r e2] at sq
      exact cr_all hc pins s σ H _ us Q I rx ⟨p, bs, rfl, sq, q _ m H Ext.refl rs (.bl _)⟩
theorem cb_any1 (hc : X.calm = true) : CallR X (.builtin "any") (rBlt X.K (bltR .any1)) := by
  intro pins s σ H xs us Q I rx ⟨m, S, vs, rs, rv, h⟩
  obtain ⟨c, e, q⟩ := blt_of h
  match vs, rv, e with
  | [], _, e => cases e
  | _ :: _ :: _, _, e => cases e
  | [a], rv, e =>
    obtain ⟨x, rfl, ra⟩ := rvs1 rv
    have e : (match litems S a with
      | some xs => (boolsOf xs).map fun bs => PV.bl (bs.any id)
      | none => none) = some c := e
    cases e1 : litems S a with
    | none => rw [e1] at e; cases e
    | some ys =>
      rw [e1] at e
      obtain ⟨bs, e2, rfl⟩ := map_some e
      obtain ⟨p, vs, rfl, sq, r, hl⟩ := litems_sq rs ra e1
      rw [bools_rv r e2] at sq
      exact cr_any hc pins s σ H _ us Q I rx ⟨p, bs, rfl, sq, q _ m H Ext.refl rs (.bl _)⟩
theorem cb_sum1 (hc : X.calm = true) : CallR X (.builtin "sum") (rBlt X.K (bltR .sum1)) := by
  intro pins s σ H xs us Q I rx ⟨m, S, vs, rs, rv, h⟩
  obtain ⟨c, e, q⟩ := blt_of h
  match vs, rv, e with
  | [], _, e => cases e
  | _ :: _ :: _, _, e => cases e
  | [a], rv, e =>
    obtain ⟨x, rfl, ra⟩ := rvs1 rv
    have e : (match litems S a with
      | some xs => (intsOf xs).map fun is => PV.int is.sum
      | none => none) = some c := e
    cases e1 : litems S a with
    | none => rw [e1] at e; cases e
    | some ys =>
      rw [e1] at e
      obtain ⟨bs, e2, rfl⟩ := map_some e
      obtain ⟨p, vs, rfl, sq, r, hl⟩ := litems_sq rs ra e1
      rw [ints_rv r e2] at sq
      exact cr_sum hc pins s σ H _ us Q I rx ⟨p, bs, rfl, sq, q _ m H Ext.refl rs (.int _)⟩
theorem cb_str1 : CallR X (.type "str") (rBlt X.K (bltR .str1)) := by
  intro pins s σ H xs us Q I rx ⟨m, S, vs, rs, rv, h⟩
  obtain ⟨c, e, q⟩ := blt_of h
  have q := fun z v => q z m H Ext.refl rs v
  match vs, rv, e with
  | [], _, e => cases e
  | a :: _ :: _, _, e => revert e; cases a <;> exact fun e => nomatch e
  | [a], rv, e =>
    obtain ⟨x, rfl, ra⟩ := rvs1 rv
    cases ra with
    | int i =>
      have e : (if (decide (i.natAbs.log2 < 1920) && okB (Str.ofString (toString i))) = true then some (PV.str (Str.ofString (toString i))) else none) = some c := e
      by_cases h : (decide (i.natAbs.log2 < 1920) && okB (Str.ofString (toString i))) = true
      · rw [if_pos h] at e
        cases e
        rw [Bool.and_eq_true] at h
        exact call_str_int pins s σ H _ us Q I rx ⟨i, rfl, of_decide_eq_true h.1, q _ (.str _ (okB_ok h.2))⟩
      · rw [if_neg h] at e; cases e
    | _ => cases e
/-! ### methods -/
theorem mb_append : MtR X "list.append" (rMth X.K (mthV .append)) := by
  intro pins s σ H x xs v us Q I rx rxs ⟨m, S, o, vs, rs, ro, rv, h⟩
  cases ro with
  | @loc n p hn =>
    match vs, rv, h with
    | [], _, h => exact h.elim
    | _ :: _ :: _, _, h => exact h.elim
    | [a], rv, h =>
      obtain ⟨y, rfl, ra⟩ := rvs1 rv
      have h : Post X.K (RV X.K) m H (match S[n]? with
        | some (.lst xs) => if xs.length < sizeLine then .ok .non (S.set n (.lst (xs ++ [a]))) else .bad
        | _ => .bad) Q fun _ _ _ _ => False := h
      cases g : S[n]? with
      | none => rw [g] at h; exact h.elim
      | some u =>
        rw [g] at h
        have ru := rs.at g hn
        cases u with
        | lst ys =>
          obtain ⟨hl, ws, g1, g2⟩ := ru
          simp only at h
          by_cases hh : ys.length < sizeLine
          · rw [if_pos hh] at h
            refine mt_append pins s σ H _ _ v us Q I rx rxs ⟨p, ws, y, rfl, rfl, g1, by rw [← g2.length]; exact hh, ?_⟩
            refine h _ m _ (Ext.changed (mem_of_get hn)) (rs.change hn ⟨by rw [List.length_append, List.length_singleton]; omega, _, upd_same, ?_⟩) .non
            exact (g2.append (.cons ra .nil)).up (Ext.changed (mem_of_get hn))
          · rw [if_neg hh] at h; exact h.elim
        | _ => exact h.elim
  | _ => exact h.elim
theorem mb_extend : MtR X "list.extend" (rMth X.K (mthV .extend)) := by
  intro pins s σ H x xs v us Q I rx rxs ⟨m, S, o, vs, rs, ro, rv, h⟩
  cases ro with
  | @loc n p hn =>
    match vs, rv, h with
    | [], _, h => exact h.elim
    | _ :: _ :: _, _, h => exact h.elim
    | [a], rv, h =>
      obtain ⟨y, rfl, ra⟩ := rvs1 rv
      have h : Post X.K (RV X.K) m H (match S[n]?, mitems S a with
        | some (.lst xs), some ys => if xs.length + ys.length ≤ sizeLine then .ok .non (S.set n (.lst (xs ++ ys))) else .bad
        | _, _ => .bad) Q fun _ _ _ _ => False := h
      cases g : S[n]? with
      | none => rw [g] at h; exact h.elim
      | some u =>
        rw [g] at h
        have ru := rs.at g hn
        cases u with
        | lst ys =>
          obtain ⟨hl, ws, g1, g2⟩ := ru
          cases ea : mitems S a with
          | none => rw [ea] at h; exact h.elim
          | some zs =>
            rw [ea] at h
            obtain ⟨b, us', rfl, g3, g4, hl2⟩ := mitems_lst rs ra ea
            simp only at h
            by_cases hh : ys.length + zs.length ≤ sizeLine
            · rw [if_pos hh] at h
              refine mt_extend pins s σ H _ _ v us Q I rx rxs ⟨p, b, ws, us', rfl, rfl, g1, g3, by rw [← g2.length, ← g4.length]; exact hh, ?_⟩
              refine h _ m _ (Ext.changed (mem_of_get hn)) (rs.change hn ⟨by rw [List.length_append]; exact hh, _, upd_same, ?_⟩) .non
              exact (g2.append g4).up (Ext.changed (mem_of_get hn))
            · rw [if_neg hh] at h; exact h.elim
        | _ => exact h.elim
  | _ => exact h.elim
theorem mb_pop0 : MtR X "list.pop" (rMth X.K (mthV .pop0)) := by
  intro pins s σ H x xs v us Q I rx rxs ⟨m, S, o, vs, rs, ro, rv, h⟩
  cases ro with
  | @loc n p hn =>
    match vs, rv, h with
    | _ :: _, _, h => exact h.elim
    | [], rv, h =>
      cases rv
      have h : Post X.K (RV X.K) m H (match S[n]? with
        | some (.lst xs) => match xs[xs.length - 1]? with
          | some y => .ok y (S.set n (.lst xs.dropLast))
          | none => .bad
        | _ => .bad) Q fun _ _ _ _ => False := h
      cases g : S[n]? with
      | none => rw [g] at h; exact h.elim
      | some u =>
        rw [g] at h
        have ru := rs.at g hn
        cases u with
        | lst ys =>
          obtain ⟨hl, ws, g1, g2⟩ := ru
          simp only at h
          cases hh : ys[ys.length - 1]? with
          | none => rw [hh] at h; exact h.elim
          | some y =>
            rw [hh] at h
            obtain ⟨w, k1, k2⟩ := g2.get hh
            refine mt_pop pins s σ H _ _ v us Q I rx rxs ⟨p, ws, w, rfl, rfl, g1, by rw [← g2.length]; exact k1, ?_⟩
            refine h _ m _ (Ext.changed (mem_of_get hn)) (rs.change hn ⟨by rw [List.length_dropLast]; omega, _, upd_same, ?_⟩) (k2.up (Ext.changed (mem_of_get hn)))
            exact g2.dropLast.up (Ext.changed (mem_of_get hn))
        | _ => exact h.elim
  | _ => exact h.elim
theorem mb_pop1 : MtR X "list.pop" (rMth X.K (mthV .pop1)) := by
  intro pins s σ H x xs v us Q I rx rxs ⟨m, S, o, vs, rs, ro, rv, h⟩
  cases ro with
  | @loc n p hn =>
    match vs, rv, h with
    | [], _, h => exact h.elim
    | a :: _ :: _, _, h => revert h; cases a <;> exact fun h => h.elim
    | [a], rv, h =>
      obtain ⟨y, rfl, ra⟩ := rvs1 rv
      cases ra with
      | int i =>
        have h : Post X.K (RV X.K) m H (match S[n]? with
          | some (.lst xs) => match ixN xs.length i with
            | some k => match xs[k]? with
              | some y => .ok y (S.set n (.lst (xs.eraseIdx k)))
              | none => .bad
            | none => .bad
          | _ => .bad) Q fun _ _ _ _ => False := h
        cases g : S[n]? with
        | none => rw [g] at h; exact h.elim
        | some u =>
          rw [g] at h
          have ru := rs.at g hn
          cases u with
          | lst ys =>
            obtain ⟨hl, ws, g1, g2⟩ := ru
            simp only at h
            cases hk : ixN ys.length i with
            | none => rw [hk] at h; exact h.elim
            | some k =>
              rw [hk] at h
              simp only at h
              cases hh : ys[k]? with
              | none => rw [hh] at h; exact h.elim
              | some y =>
                rw [hh] at h
                obtain ⟨w, k1, k2⟩ := g2.get hh
                obtain ⟨c1, c2, c3, c4⟩ := ixN_seq hk
                have hz : sizeLine = 16777216 := sizeLine_eq
                refine mt_popAt pins s σ H _ _ v us Q I rx rxs ⟨p, ws, i, k, w, rfl, rfl, g1, by omega, by omega, by rw [← g2.length]; exact c1, k1, ?_⟩
                refine h _ m _ (Ext.changed (mem_of_get hn)) (rs.change hn ⟨Nat.le_trans (List.length_eraseIdx_le _ _) hl, _, upd_same, ?_⟩) (k2.up (Ext.changed (mem_of_get hn)))
                exact (g2.erase k).up (Ext.changed (mem_of_get hn))
          | _ => exact h.elim
      | _ => exact h.elim
  | _ => exact h.elim
theorem mb_get1 (hu : X.A.units + 190 < cLine) : MtR X "dict.get" (rMth X.K (mthV .get1)) := by
  intro pins s σ H x xs v us Q I rx rxs ⟨m, S, o, vs, rs, ro, rv, h⟩
  match vs, rv, h with
  | [], _, h => revert h; cases o <;> exact fun h => h.elim
  | _ :: _ :: _, _, h => revert h; cases o <;> exact fun h => h.elim
  | [a], rv, h =>
    obtain ⟨y, rfl, ra⟩ := rvs1 rv
    have h : Post X.K (RV X.K) m H (match ditems S o, keyOf a with
      | some kvs, some k => .ok ((getK kvs k).getD .non) S
      | _, _ => .bad) Q fun _ _ _ _ => False := by revert h; cases o <;> exact fun h => h
    cases g : ditems S o with
    | none => rw [g] at h; exact h.elim
    | some kvs =>
      rw [g] at h
      obtain ⟨p, ws, rfl, g1, g2⟩ := ditems_dK rs ro g
      cases hk : keyOf a with
      | none => rw [hk] at h; exact h.elim
      | some k =>
        rw [hk] at h
        have ek := keyOf_rv ra hk
        obtain ⟨u1, rfl, ru1⟩ := vals1 rxs
        obtain rfl : v = Value.ref p := rx
        have q : Q ((valV ws k).getD .non) H := by
          refine h _ m H Ext.refl rs ?_
          rcases g2.get k with ⟨z1, z2⟩ | ⟨z, w, z1, z2, z3⟩
          · rw [z1, z2]; exact .non
          · rw [z1, z2]; exact z3
        exact d_get1 (by omega) I (show DGet H p y (valV ws k) by rw [ek]; exact .k g1) ru1 fun w' s' I' rw' => ⟨_, H, I', rw', q⟩
theorem mb_get2 (hu : X.A.units + 190 < cLine) : MtR X "dict.get" (rMth X.K (mthV .get2)) := by
  intro pins s σ H x xs v us Q I rx rxs ⟨m, S, o, vs, rs, ro, rv, h⟩
  match vs, rv, h with
  | [], _, h => revert h; cases o <;> exact fun h => h.elim
  | [_], _, h => revert h; cases o <;> exact fun h => h.elim
  | _ :: _ :: _ :: _, _, h => revert h; cases o <;> exact fun h => h.elim
  | [a, b], rv, h =>
    obtain ⟨y, yb, rfl, ra, rb⟩ := rvs2 rv
    have h : Post X.K (RV X.K) m H (match ditems S o, keyOf a with
      | some kvs, some k => .ok ((getK kvs k).getD b) S
      | _, _ => .bad) Q fun _ _ _ _ => False := by revert h; cases o <;> exact fun h => h
    cases g : ditems S o with
    | none => rw [g] at h; exact h.elim
    | some kvs =>
      rw [g] at h
      obtain ⟨p, ws, rfl, g1, g2⟩ := ditems_dK rs ro g
      cases hk : keyOf a with
      | none => rw [hk] at h; exact h.elim
      | some k =>
        rw [hk] at h
        have ek := keyOf_rv ra hk
        obtain ⟨u1, u2, rfl, ru1, ru2⟩ := vals2 rxs
        obtain rfl : v = Value.ref p := rx
        have q : Q ((valV ws k).getD yb) H := by
          refine h _ m H Ext.refl rs ?_
          rcases g2.get k with ⟨z1, z2⟩ | ⟨z, w, z1, z2, z3⟩
          · rw [z1, z2]; exact rb
          · rw [z1, z2]; exact z3
        exact d_get2 (by omega) I (show DGet H p y (valV ws k) by rw [ek]; exact .k g1) ru1 ru2 fun w' s' I' rw' => ⟨_, H, I', rw', q⟩
theorem mb_join : MtR X "str.join" (rMth X.K (mthV .join)) := by
  intro pins s σ H x xs v us Q I rx rxs ⟨m, S, o, vs, rs, ro, rv, h⟩
  cases ro with
  | str a ha =>
    match vs, rv, h with
    | [], _, h => exact h.elim
    | _ :: _ :: _, _, h => exact h.elim
    | [b], rv, h =>
      obtain ⟨y, rfl, ra⟩ := rvs1 rv
      have h : Post X.K (RV X.K) m H (match litems S b with
        | some xs => match strsOf xs with
          | some ys => if (ys.map (·.length)).sum + ys.length * a.length ≤ 16777216 then .ok (.str (Txt.join a ys)) S else .bad
          | none => .bad
        | none => .bad) Q fun _ _ _ _ => False := h
      cases e1 : litems S b with
      | none => rw [e1] at h; exact h.elim
      | some zs =>
        rw [e1] at h
        simp only at h
        cases e2 : strsOf zs with
        | none => rw [e2] at h; exact h.elim
        | some ys =>
          rw [e2] at h
          simp only at h
          obtain ⟨p, ws, rfl, sq, r, hl⟩ := litems_sq rs ra e1
          obtain ⟨k1, k2⟩ := strs_rv r e2
          rw [k1] at sq
          by_cases hh : (ys.map (·.length)).sum + ys.length * a.length ≤ 16777216
          · rw [if_pos hh] at h
            exact mt_join pins s σ H _ _ v us Q I rx rxs ⟨a, p, ys, rfl, rfl, .inl sq, hh, h _ m H Ext.refl rs (.str _ (join_ok ha k2 hh))⟩
          · rw [if_neg hh] at h; exact h.elim
  | _ => exact h.elim
theorem mb_partition : MtR X "str.partition" (rMth X.K (mthV .partition)) := by
  intro pins s σ H x xs v us Q I rx rxs ⟨m, S, o, vs, rs, ro, rv, h⟩
  cases ro with
  | str a ha =>
    match vs, rv, h with
    | [], _, h => exact h.elim
    | b :: _ :: _, _, h => revert h; cases b <;> exact fun h => h.elim
    | [b], rv, h =>
      obtain ⟨y, rfl, ra⟩ := rvs1 rv
      cases ra with
      | str b hb =>
        have h : Post X.K (RV X.K) m H (if (!(b.length == 0) && okB (Txt.partition a b).1 && okB (Txt.partition a b).2.1 && okB (Txt.partition a b).2.2) = true then .ok (.tup [.str (Txt.partition a b).1, .str (Txt.partition a b).2.1, .str (Txt.partition a b).2.2]) S else .bad) Q fun _ _ _ _ => False := h
        by_cases hh : (!(b.length == 0) && okB (Txt.partition a b).1 && okB (Txt.partition a b).2.1 && okB (Txt.partition a b).2.2) = true
        · rw [if_pos hh] at h
          simp only [Bool.and_eq_true] at hh
          obtain ⟨⟨⟨h1, h2⟩, h3⟩, h4⟩ := hh
          refine mt_partition pins s σ H _ _ v us Q I rx rxs ⟨a, b, rfl, rfl, by simpa using h1, ha.1, fun p hp => ?_⟩
          exact new_tup (xs := [.str (Txt.partition a b).1, .str (Txt.partition a b).2.1, .str (Txt.partition a b).2.2]) rs (by show 3 ≤ sizeLine; rw [sizeLine_eq]; decide) (.cons (.str _ (okB_ok h2)) (.cons (.str _ (okB_ok h3)) (.cons (.str _ (okB_ok h4)) .nil))) hp h
        · rw [if_neg hh] at h; exact h.elim
      | _ => exact h.elim
  | _ => exact h.elim
theorem mb_count : MtR X "str.count" (rMth X.K (mthV .count)) := by
  intro pins s σ H x xs v us Q I rx rxs ⟨m, S, o, vs, rs, ro, rv, h⟩
  cases ro with
  | str a ha =>
    match vs, rv, h with
    | [], _, h => exact h.elim
    | b :: _ :: _, _, h => revert h; cases b <;> exact fun h => h.elim
    | [b], rv, h =>
      obtain ⟨y, rfl, ra⟩ := rvs1 rv
      cases ra with
      | str b hb =>
        have h : Post X.K (RV X.K) m H (.ok (.int (Txt.count a b)) S) Q fun _ _ _ _ => False := h
        exact mt_count pins s σ H _ _ v us Q I rx rxs ⟨a, b, rfl, rfl, h _ m H Ext.refl rs (.int _)⟩
      | _ => exact h.elim
  | _ => exact h.elim
theorem strs_rvs {K : PySem.W.Frag} {m : Mp} {H : Hp} : ∀ {ys : List Str}, ys.all okB = true → RVs K m H (ys.map PV.str) (ys.map V.str)
  | [], _ => .nil
  | y :: ys, h => by
    rw [List.all_cons, Bool.and_eq_true] at h
    exact .cons (.str y (okB_ok h.1)) (strs_rvs h.2)
theorem mb_split : MtR X "str.split" (rMth X.K (mthV .split)) := by
  intro pins s σ H x xs v us Q I rx rxs ⟨m, S, o, vs, rs, ro, rv, h⟩
  cases ro with
  | str a ha =>
    match vs, rv, h with
    | [], _, h => exact h.elim
    | b :: _ :: _, _, h => revert h; cases b <;> exact fun h => h.elim
    | [b], rv, h =>
      obtain ⟨y, rfl, ra⟩ := rvs1 rv
      cases ra with
      | str b hb =>
        have h : Post X.K (RV X.K) m H (if (!(b.length == 0) && decide (a.length + 2 ≤ sizeLine) && (Txt.split a b).all okB && decide ((Txt.split a b).length ≤ sizeLine)) = true then .ok (.lv ((Txt.split a b).map .str)) S else .bad) Q fun _ _ _ _ => False := h
        by_cases hh : (!(b.length == 0) && decide (a.length + 2 ≤ sizeLine) && (Txt.split a b).all okB && decide ((Txt.split a b).length ≤ sizeLine)) = true
        · rw [if_pos hh] at h
          simp only [Bool.and_eq_true] at hh
          obtain ⟨⟨⟨h1, h2⟩, h3⟩, h4⟩ := hh
          exact mt_split pins s σ H _ _ v us Q I rx rxs ⟨a, b, rfl, rfl, by simpa using h1, of_decide_eq_true h2, fun p hp => new_lst rs (by rw [List.length_map]; exact of_decide_eq_true h4) (strs_rvs h3) hp h⟩
        · rw [if_neg hh] at h; exact h.elim
      | _ => exact h.elim
  | _ => exact h.elim
theorem mb_clearL : MtR X "list.clear" (rMth X.K (mthV .clearL)) := by
  intro pins s σ H x xs v us Q I rx rxs ⟨m, S, o, vs, rs, ro, rv, h⟩
  cases ro with
  | @loc n p hn =>
    match vs, rv, h with
    | _ :: _, _, h => exact h.elim
    | [], rv, h =>
      cases rv
      have h : Post X.K (RV X.K) m H (match S[n]? with
        | some (.lst _) => .ok .non (S.set n (.lst []))
        | _ => .bad) Q fun _ _ _ _ => False := h
      cases g : S[n]? with
      | none => rw [g] at h; exact h.elim
      | some u =>
        rw [g] at h
        have ru := rs.at g hn
        cases u with
        | lst ys =>
          obtain ⟨hl, ws, g1, g2⟩ := ru
          refine mt_clear pins s σ H _ _ v us Q I rx rxs ⟨p, ws, rfl, rfl, g1, ?_⟩
          exact h _ m _ (Ext.changed (mem_of_get hn)) (rs.change hn ⟨Nat.zero_le _, _, upd_same, .nil⟩) .non
        | _ => exact h.elim
  | _ => exact h.elim
theorem mb_clearD : MtR X "dict.clear" (rMth X.K (mthV .clearD)) := by
  intro pins s σ H x xs v us Q I rx rxs ⟨m, S, o, vs, rs, ro, rv, h⟩
  cases ro with
  | @loc n p hn =>
    match vs, rv, h with
    | _ :: _, _, h => exact h.elim
    | [], rv, h =>
      cases rv
      have h : Post X.K (RV X.K) m H (match S[n]? with
        | some (.dic _) => .ok .non (S.set n (.dic []))
        | _ => .bad) Q fun _ _ _ _ => False := h
      cases g : S[n]? with
      | none => rw [g] at h; exact h.elim
      | some u =>
        rw [g] at h
        have ru := rs.at g hn
        cases u with
        | dic ys =>
          obtain ⟨ws, g1, g2⟩ := ru
          refine mtd_clear pins s σ H _ _ v us Q I rx rxs ⟨p, ws, rfl, rfl, g1, ?_⟩
          exact h _ m _ (Ext.changed (mem_of_get hn)) (rs.change hn ⟨_, upd_same, .nil⟩) .non
        | _ => exact h.elim
  | _ => exact h.elim
end
end L2.PF

set_option Elab.async false
set_option linter.all false
set_option maxRecDepth 100000
set_option maxHeartbeats 4000000
/-! PFF: from the program's own text to PFA's language; the parts' promises. -/
namespace L2.PF
open PySem PySem.Spec PyProof.Rows

/-! ### forms of the text -/
def noStar : Expr → Bool
  | .Starred .. => false
  | _ => true
def noSlice : Expr → Bool
  | .Slice .. => false
  | _ => true
/-- whose truth is that of its value -/
def plainTruth : Expr → Bool
  | .UnaryOp .Not _ _ => false
  | .BoolOp .. => false
  | .IfExp .. => false
  | .Compare .. => false
  | _ => true
def noComp : Expr → Bool
  | .ListComp .. => false
  | .SetComp .. => false
  | .DictComp .. => false
  | _ => true
def noSet : Expr → Bool
  | .Set .. => false
  | _ => true
def plainBase : Expr → Bool
  | .Call (.Name ..) [] [] _ => false
  | _ => true
section
variable {env : PySem.Env} {e : Expr} {es : List Expr} {pos : Pos}
theorem star_cons (h : noStar e = true) : starEach (e :: es) env = (false, eval e env) :: starEach es env := by
  cases e <;> first | rfl | cases h
theorem star_any : ∀ {es : List Expr}, es.all noStar = true → (backTo pos (starEach es env)).any (·.1) = false
  | [], _ => rfl
  | e :: es, h => by
    rw [List.all_cons, Bool.and_eq_true] at h
    rw [star_cons h.1]
    show (false || (backTo pos (starEach es env)).any (·.1)) = false
    rw [star_any h.2]
    rfl
theorem star_all : ∀ {es : List Expr}, es.all noStar = true → (backTo pos (starEach es env)).all (fun x => !x.1) = true
  | [], _ => rfl
  | e :: es, h => by
    rw [List.all_cons, Bool.and_eq_true] at h
    rw [star_cons h.1]
    show (true && (backTo pos (starEach es env)).all (fun x => !x.1)) = true
    rw [star_all h.2]
    rfl
theorem slice_plain (h : noSlice e = true) : ∀ o i, subscripted e false o i = operate [o, i] (getItem o i) := by
  cases e <;> first | (intro o i; rfl) | cases h
theorem truth_plain (h : plainTruth e = true) : ∀ whole, isTrue e env whole = (do let v ← whole; standAt e.pos; holding [v] (truthy v)) := by
  cases e with
  | UnaryOp op x p => cases op <;> first | (intro w; rfl) | cases h
  | BoolOp => cases h
  | IfExp => cases h
  | Compare => cases h
  | _ => intro w; rfl
theorem swaps_plain (h : noComp e = true) (t : Option Expr) (l : Nat) : swapsWith e t l env = pure false := by
  cases e <;> first | rfl | cases h
theorem base_plain (h : plainBase e = true) (attr : Str) : attributeBase e attr env (eval e env) = eval e env := by
  cases e with
  | Call f as ks p =>
    cases f <;> first
      | rfl
      | (cases as with
         | nil =>
           cases ks with
           | nil => cases h
           | cons _ _ => rfl
         | cons _ _ => rfl)
  | _ => rfl
theorem folded_plain (h : noSet e = true) : ∀ x, foldedSetIterable e env x = pure x := by
  cases e <;> first | (intro x; rfl) | cases h
theorem behind_plain (h : noSet e = true) (op : CmpOp) : behindInMarks op e = false := by
  cases e <;> first | rfl | cases h
end

/-! ### the translation -/
structure Tab where
  /-- the defs: name, number, how many parameters -/
  fns : List (Str × Nat × Nat)
  /-- the constants -/
  gls : List (Str × PV)
  /-- the built-in names that the top leaves alone -/
  bls : List Str
  /-- where lists are laid in the store -/
  lays : List Pos

def visible (sc : Scope) (x : Str) : Bool := match sc.names.lookup x with
  | some .local => true
  | some .cell => true
  | some .free => true
  | _ => false
def ownName (sc : Scope) (x : Str) : Bool := match sc.names.lookup x with
  | some .local => true
  | some .cell => true
  | _ => false
def isGlobal (sc : Scope) (x : Str) : Bool := match sc.names.lookup x with
  | some .globalImplicit => true
  | _ => false
def oddName (x : Str) : Bool := x == ("__debug__" : Str) || x == ("__classdict__" : Str) || x == ("__name__" : Str)
/-- the slot of a name -/
def slotOf (N : List Str) (x : Str) : Option Nat := N.findIdx? fun y => decide (y = x)
/-- is x the built-in of that name? -/
def isB (B : Tab) (sc : Scope) (x : Str) : Bool := isGlobal sc x && B.bls.contains x && !oddName x
def trL {α β : Type} (f : α → Option β) : List α → Option (List β)
  | [] => some []
  | x :: xs => match f x with
    | none => none
    | some y => match trL f xs with
      | none => none
      | some ys => some (y :: ys)
/-- the type's names, in isinstance -/
def typeOk (s : String) : Bool := s == "int" || s == "bool" || s == "str" || s == "tuple" || s == "list" || s == "dict"
def trType (B : Tab) (sc : Scope) : Expr → Option String
  | .Name x _ => if isB B sc x then (if x = ("int" : Str) then some "int" else if x = ("bool" : Str) then some "bool" else if x = ("str" : Str) then some "str" else if x = ("tuple" : Str) then some "tuple" else
    if x = ("list" : Str) then some "list" else if x = ("dict" : Str) then some "dict" else none) else none
  | _ => none
def trName (B : Tab) (N : List Str) (sc : Scope) (x : Str) : Option X :=
  if oddName x then none else if visible sc x then (slotOf N x).map .v else if isGlobal sc x then (B.gls.lookup x).map .c else none
def trConst : Const → Option X
  | .int i => some (.c (.int i))
  | .bool b => some (.c (.bl b))
  | .none => some (.c .non)
  | .str x => if okB x then some (.c (.str x)) else none
  | _ => none
/-- the built-in functions by name and number of arguments -/
def bltOf (lay : Bool) (x : Str) (n : Nat) : Option Blt :=
  if x = ("len" : Str) then (if n = 1 then some .len else none)
  else if x = ("int" : Str) then (if n = 1 then some .int1 else none)
  else if x = ("tuple" : Str) then (if n = 1 then some .tuple1 else none)
  else if x = ("list" : Str) then (if n = 1 then some (if lay then .list1m else .list1) else none)
  else if x = ("dict" : Str) then (if n = 1 then some (if lay then .dict1m else .dict1) else none)
  else if x = ("max" : Str) then (if n = 2 then some .max2 else none)
  else if x = ("min" : Str) then (if n = 2 then some .min2 else none)
  else if x = ("all" : Str) then (if n = 1 then some .all1 else none)
  else if x = ("any" : Str) then (if n = 1 then some .any1 else none)
  else if x = ("sum" : Str) then (if n = 1 then some .sum1 else none)
  else if x = ("str" : Str) then (if n = 1 then some .str1 else none)
  else none
def mthOf (x : Str) (n : Nat) : Option Mth :=
  if x = ("append" : Str) then (if n = 1 then some .append else none)
  else if x = ("extend" : Str) then (if n = 1 then some .extend else none)
  else if x = ("pop" : Str) then (if n = 0 then some .pop0 else if n = 1 then some .pop1 else none)
  else if x = ("get" : Str) then (if n = 1 then some .get1 else if n = 2 then some .get2 else none)
  else if x = ("join" : Str) then (if n = 1 then some .join else none)
  else if x = ("partition" : Str) then (if n = 1 then some .partition else none)
  else if x = ("count" : Str) then (if n = 1 then some .count else none)
  else if x = ("split" : Str) then (if n = 1 then some .split else none)
  else if x = ("clear" : Str) then (if n = 0 then some .clearD else none)
  else none
def lays (B : Tab) (p : Pos) : Bool := B.lays.contains p
/-- a target: a name, a tuple of names -/
def trTg (N : List Str) (sc : Scope) : Expr → Option Tg
  | .Name x _ => if ownName sc x then (slotOf N x).map .n else none
  | .Tuple es _ _ => (trL (fun e => match e with | .Name x _ => if ownName sc x then slotOf N x else none | _ => none) es).map .t
  | _ => none
def tgIn (l : List Nat) : Tg → Bool
  | .n i => l.contains i
  | .t is => is.all fun i => l.contains i
def isTuple : Expr → Bool
  | .Tuple .. => true
  | _ => false
/-- what a for, a comprehension walks -/
def trIt (B : Tab) (sc : Scope) (rec : Expr → Option X) (tg : Expr) : Expr → Option (IK × List X)
  | .Call (.Name x p) as [] pos =>
    if isB B sc x && decide (x = ("range" : Str)) then (if as.all noStar && decide (as.length = 1) then (trL rec as).map fun xs => (.rng1, xs) else if as.all noStar && decide (as.length = 2) then (trL rec as).map fun xs => (.rng2, xs) else none)
    else if isB B sc x && decide (x = ("enumerate" : Str)) then (if isTuple tg && as.all noStar && decide (as.length = 1) then (trL rec as).map fun xs => (.enum, xs) else none)
    else if isB B sc x && decide (x = ("zip" : Str)) then (if isTuple tg && as.all noStar && decide (as.length = 2) then (trL rec as).map fun xs => (.zip, xs) else none)
    else (rec (.Call (.Name x p) as [] pos)).map fun y => (.seq, [y])
  | e => if noSet e then (rec e).map fun y => (.seq, [y]) else none
/-- the own names of a comprehension that have slots -/
def ownOf (N : List Str) (scope : Scope) : List (Str × Nat) := scope.names.filterMap fun y => match y.2 with
  | .local => (slotOf N y.1).map fun i => (y.1, i)
  | .cell => (slotOf N y.1).map fun i => (y.1, i)
  | _ => none
def trCall (B : Tab) (sc : Scope) (rec : Expr → Option X) (x : Str) (as : List Expr) (pos : Pos) : Option X :=
  if oddName x || !isGlobal sc x || !as.all noStar then none else
  match B.fns.lookup x with
  | some (f, np) => if as.length = np && decide (0 < np) then (trL rec as).map (.fn f) else none
  | none =>
    if !B.bls.contains x then none else
    if x = ("isinstance" : Str) then (match as with
      | [a, .Tuple ts _ _] => match rec a, trL (trType B sc) ts with
        | some a, some cs => if ts.length ≤ 20 then some (.isi a cs) else none
        | _, _ => none
      | [a, t] => match rec a, trType B sc t with
        | some a, some t => some (.isi a [t])
        | _, _ => none
      | _ => none)
    else match bltOf (lays B pos) x as.length with
      | some b => (trL rec as).map (.blt b)
      | none => none
def trMeth (B : Tab) (rec : Expr → Option X) (o : Expr) (m : Str) (apos : Pos) (as : List Expr) (cpos : Pos) : Option X :=
  if plainBase o && as.all noStar && (apos.endLine == cpos.line) && decide (as.length < 20) then
    match mthOf m as.length, rec o, trL rec as with
    | some b, some o, some xs => some (.mth b o xs)
    | _, _, _ => none
  else none
def optX (rec : Expr → Option X) : Option Expr → Option X
  | none => some (.c .non)
  | some e => (rec e).map .num
def keysOf : List (Option Expr) → Option (List Expr)
  | [] => some []
  | some e :: r => (keysOf r).map (e :: ·)
  | none :: _ => none
/-- the pairs of a display -/
def trKV (rec : Expr → Option X) : List (Option Expr) → List Expr → Option (List X)
  | [], [] => some []
  | some k :: ks, v :: vs => match rec k, rec v, trKV rec ks vs with
    | some k, some v, some r => some (k :: v :: r)
    | _, _, _ => none
  | _, _ => none
def trComp (own : List Nat) (l : Bool) : Option (IK × List X) → Option Tg → Option (List X) → Option X → Option X
  | some (k, its), some t, some cs, some x => if tgIn own t then some (.comp l x own t k its cs) else none
  | _, _, _, _ => none
def tr (B : Tab) (N : List Str) : Nat → Scope → Expr → Option X
  | 0, _, _ => none
  | n + 1, sc, e => match e with
    | .Constant c _ _ => trConst c
    | .Name x _ => trName B N sc x
    | .BoolOp op [a] _ => tr B N n sc a
    | .BoolOp op (a :: b :: r) pos => match tr B N n sc a, tr B N n sc (.BoolOp op (b :: r) pos) with
      | some x, some y => some (match op with | .And => .and x y | .Or => .or x y)
      | _, _ => none
    | .UnaryOp .Not a _ => (tr B N n sc a).map .not
    | .UnaryOp .USub a _ => (tr B N n sc a).map .neg
    | .BinOp a op b _ => match tr B N n sc a, tr B N n sc b with
      | some x, some y => some (.bin op x y)
      | _, _ => none
    | .IfExp c a b _ => match tr B N n sc c, tr B N n sc a, tr B N n sc b with
      | some c, some x, some y => some (.ite c x y)
      | _, _, _ => none
    | .Compare a [op] [b] _ => if noSet b then (match tr B N n sc a, tr B N n sc b with
      | some x, some y => some (.cmp op x y)
      | _, _ => none) else none
    | .Compare a [o1, o2] [b, c] _ => if noSet b && noSet c then (match tr B N n sc a, tr B N n sc b, tr B N n sc c with
      | some x, some y, some z => some (.chn o1 o2 x y z)
      | _, _, _ => none) else none
    | .Tuple es _ _ => if es.all noStar then (trL (tr B N n sc) es).map .tup else none
    | .List es pos => if es.all noStar then (trL (tr B N n sc) es).map (.lst (lays B pos)) else none
    | .Dict ks vs pos => if ks.isEmpty && vs.isEmpty then some (.dic (lays B pos) []) else if decide (ks.length ≤ 15) then (trKV (tr B N n sc) ks vs).map (.dic (lays B pos)) else none
    | .Subscript a (.Slice lo hi none _) _ => match tr B N n sc a, optX (tr B N n sc) lo, optX (tr B N n sc) hi with
      | some x, some l, some h => some (.sl x l h)
      | _, _, _ => none
    | .Subscript a b _ => if noSlice b then (match tr B N n sc a, tr B N n sc b with
      | some x, some y => some (.ix x y)
      | _, _ => none) else none
    | .Call (.Name x _) as [] pos => trCall B sc (tr B N n sc) x as pos
    | .Call (.Attribute o m apos) as [] cpos => trMeth B (tr B N n sc) o m apos as cpos
    | .ListComp elt [⟨tg, iter, ifs, 0⟩] scope pos =>
      if blkC N sc scope (ownOf N scope) && decide (ifs.length ≤ 1) && noSet iter then
        trComp ((ownOf N scope).map (·.2)) (lays B pos) (trIt B sc (tr B N n sc) tg iter) (trTg N scope tg) (trL (tr B N n (relS scope sc)) ifs) (tr B N n (relS scope sc) elt)
      else none
    | _ => none
end L2.PF

set_option Elab.async false
set_option linter.all false
set_option maxRecDepth 100000
set_option maxHeartbeats 4000000
/-! PFG: the parts keep their promises. -/
namespace L2.PF
open PySem PySem.Spec PyProof.Rows

/-- how an exception of the class c with the fields fs lies: its class's value, its own dict -/
abbrev XRel := Str → List (Str × PV) → Mp → Hp → Value → Option Addr → Prop
def wx (XR : XRel) (W : St → WP) : WX := fun cls d σ H => ∃ c fs m, XR c fs m H cls d ∧ W σ c fs m H
/-- a def's promise -/
def spOf (K : PySem.W.Frag) (XR : XRel) (f : List PV → Store → R PV) (np : Nat) : Sp := fun vs H Q E => vs.length = np ∧ ∃ m S ps, Rel K S m H ∧ RVs K m H ps vs ∧ ps.length = np ∧
  Post K (RV K) m H (f ps S) Q fun c fs m' H' => ∀ cls d, XR c fs m' H' cls d → E cls d H'
def FnAt (XR : XRel) (B : Tab) (cf : Nat → List PV → Store → R PV) (k : Nat) (X : Cx) : Prop :=
  ∀ (x : Str) (f np : Nat), B.fns.lookup x = some (f, np) → ∃ (a : Addr) (fd : FuncData) (ps : List Str), X.mg x = some (.ref a) ∧ PySem.W.keepIn X.K (.ref a) = true ∧ ps.length = np ∧ Binds X.K fd ps [] ∧
    FnOk X.prog X.w X.K X.mg X.base (L2.CX X.prog X.w) k a fd ps (spOf X.K XR (cf f) np)
structure Cok (XR : XRel) (B : Tab) (cf : Nat → List PV → Store → R PV) (N : List Str) (sc : Scope) (k : Nat) (W : St → WP) (X : Cx) : Prop where
  calm : X.calm = true
  names : X.N = N
  nd : N.Nodup
  scope : X.env.scope = sc
  room : Room k X.A
  fns : FnAt XR B cf k X
  gls : ∀ (x : Str) (v : PV), B.gls.lookup x = some v → ∃ (u : Value) (w : V), X.mg x = some u ∧ RelV w u ∧ ∀ m H, RV X.K m H v w
  bls : ∀ x : Str, B.bls.contains x = true → X.mg x = none
  tk : Takes X (wx XR W)
  own : PassesOwn (model X.prog X.w) X.A X.env X.xe
section
variable {XR : XRel} {B : Tab} {cf : Nat → List PV → Store → R PV} {N : List Str} {sc : Scope} {k : Nat} {W : St → WP} {X : Cx}
theorem Cok.hu (C : Cok XR B cf N sc k W X) : X.A.units + 190 < cLine := by
  have := C.room.un
  omega
theorem not_odd {x : Str} (h : oddName x = false) : (x == ("__debug__" : Str)) = false ∧ (x == ("__classdict__" : Str)) = false ∧ x ≠ "__name__" := by
  unfold oddName at h
  simp only [Bool.or_eq_false_iff] at h
  exact ⟨h.1.1, h.1.2, fun e => by rw [e] at h; exact absurd h.2 (by decide)⟩
theorem slot_get {x : Str} {i : Nat} (h : slotOf N x = some i) : N[i]? = some x := by
  unfold slotOf at h
  have h2 := List.findIdx?_eq_some_iff_getElem.mp h
  obtain ⟨hi, h1, _⟩ := h2
  rw [List.getElem?_eq_getElem hi]
  simpa using h1
theorem Cok.vis (C : Cok XR B cf N sc k W X) {x : Str} (h : visible sc x = true) : Vis X.env.scope x := by
  unfold visible at h
  rw [C.scope]
  unfold Vis
  cases e : sc.names.lookup x with
  | none => rw [e] at h; cases h
  | some y => rw [e] at h; cases y <;> simp_all
theorem Cok.glob (C : Cok XR B cf N sc k W X) {x : Str} (h : isGlobal sc x = true) : Gl X x := by
  unfold isGlobal at h
  show X.env.scope.names.lookup x = some .globalImplicit
  rw [C.scope]
  cases e : sc.names.lookup x with
  | none => rw [e] at h; cases h
  | some y => rw [e] at h; cases y <;> simp_all
/-- what is promised of a test -/
def evT (cf : Nat → List PV → Store → R PV) (x : PF.X) (e : Env) (S : Store) : R Bool := (ev cf x e S).bind fun v S => R.ofO (truth S v) S
def Snd (XR : XRel) (B : Tab) (cf : Nat → List PV → Store → R PV) (N : List Str) (k : Nat) (sc : Scope) (e : Expr) (x : PF.X) : Prop :=
  ∀ (W : St → WP) (X : Cx), Cok XR B cf N sc k W X → PE X e (can X.K W (ev cf x)) ∧ PT X e (canT X.K W (evT cf x)) ∧ ∀ op vs pos, e = .BoolOp op vs pos → PW X e (canT X.K W (evT cf x))
theorem pt_of {e : Expr} {f : Env → Store → R PV} (hp : plainTruth e = true) (h : PE X e (can X.K W f)) : PT X e (canT X.K W fun e S => (f e S).bind fun v S => R.ofO (truth S v) S) :=
  pt_imp (pt_truth h (truth_plain hp)) fun σ H Q ⟨m, e, S, re, rs, q⟩ => ⟨m, e, S, re, rs, q.bind fun a S1 x m1 H1 _ rs1 rx h1 => by
    obtain ⟨c, ec, q⟩ := h1.ofO
    exact ⟨c, truth_ok rs1 rx ec, q c m1 H1 Ext.refl rs1 rfl⟩⟩
theorem snd_plain {e : Expr} {x : PF.X} (hp : plainTruth e = true) (hb : ∀ op vs pos, e ≠ .BoolOp op vs pos) (h : ∀ (W : St → WP) (X : Cx), Cok XR B cf N sc k W X → PE X e (can X.K W (ev cf x))) : Snd XR B cf N k sc e x :=
  fun W X C => ⟨h W X C, pt_of hp (h W X C), fun op vs pos z => absurd z (hb op vs pos)⟩
/-- a value without any change -/
theorem can_c {m : Mp} {H : Hp} {σ : St} {e : Env} {S : Store} {v : PV} {z : V} {Q : VK} (rs : Rel X.K S m H) (h : Post X.K (RV X.K) m H (.ok v S) Q (W σ)) (r : RV X.K m H v z) : Q z H := h z m H Ext.refl rs r

/-! ### names, constants -/
theorem snd_const {c : Const} {j : Nat} {pos : Pos} {x : PF.X} (h : trConst c = some x) : Snd XR B cf N k sc (.Constant c j pos) x := by
  refine snd_plain rfl (fun _ _ _ => nofun) fun W X C => ?_
  cases c with
  | int i => cases h; exact pe_imp pe_int fun σ H Q ⟨m, e, S, re, rs, q⟩ => q.get rs (.int i)
  | bool b => cases h; exact pe_imp pe_bl fun σ H Q ⟨m, e, S, re, rs, q⟩ => q.get rs (.bl b)
  | none => cases h; exact pe_imp pe_non fun σ H Q ⟨m, e, S, re, rs, q⟩ => q.get rs .non
  | str s =>
    have h : (if okB s = true then some (PF.X.c (.str s)) else none) = some x := h
    by_cases hs : okB s = true
    · rw [if_pos hs] at h
      cases h
      exact pe_imp pe_str fun σ H Q ⟨m, e, S, re, rs, q⟩ => q.get rs (.str s (okB_ok hs))
    · rw [if_neg hs] at h; cases h
  | _ => cases h
theorem snd_name {y : Str} {pos : Pos} {x : PF.X} (h : trName B N sc y = some x) : Snd XR B cf N k sc (.Name y pos) x := by
  refine snd_plain rfl (fun _ _ _ => nofun) fun W X C => ?_
  unfold trName at h
  cases ho : oddName y with
  | true => rw [ho] at h; cases h
  | false =>
    obtain ⟨h1, h2, h3⟩ := not_odd ho
    rw [ho] at h
    simp only [Bool.false_eq_true, if_false] at h
    by_cases hv : visible sc y = true
    · rw [if_pos hv] at h
      obtain ⟨i, hi, rfl⟩ := map_some h
      refine pe_imp (pe_var (i := i) (by rw [C.names]; exact slot_get hi) (C.vis hv) h1 h2) fun σ H Q ⟨m, e, S, re, rs, q⟩ => ?_
      have q : Post X.K (RV X.K) m H (match e[i]? with
        | some (some v) => .ok v S
        | _ => .bad) Q (W σ) := q
      cases hg : e[i]? with
      | none => rw [hg] at q; exact q.elim
      | some o =>
        cases o with
        | none => rw [hg] at q; exact q.elim
        | some v =>
          rw [hg] at q
          obtain ⟨u, g1, g2⟩ := re.get hg
          exact ⟨u, g1, q.get rs g2⟩
    · rw [if_neg hv] at h
      by_cases hg : isGlobal sc y = true
      · rw [if_pos hg] at h
        obtain ⟨v, hv, rfl⟩ := map_some h
        obtain ⟨u, w, g1, g2, g3⟩ := C.gls y v hv
        exact pe_imp (pe_glob (C.glob hg) g1 g2 h1) fun σ H Q ⟨m, e, S, re, rs, q⟩ => q.get rs (g3 m H)
      · rw [if_neg hg] at h; cases h

/-! ### operators -/
theorem snd_bin {a b : Expr} {op : Operator} {pos : Pos} {x y : PF.X} (ha : Snd XR B cf N k sc a x) (hb : Snd XR B cf N k sc b y) : Snd XR B cf N k sc (.BinOp a op b pos) (.bin op x y) := by
  refine snd_plain rfl (fun _ _ _ => nofun) fun W X C => ?_
  refine pe_imp (pe_op (ob_all op) (ha W X C).1 (hb W X C).1) fun σ H Q ⟨m, e, S, re, rs, q⟩ => ?_
  have q : Post X.K (RV X.K) m H ((ev cf x e S).bind fun v S => (ev cf y e S).bind fun u S => R.ofO (binV op S v u) S) Q (W σ) := by rw [ev] at q; exact q
  refine ⟨m, e, S, re, rs, q.bind fun v S1 z1 m1 H1 e1 rs1 r1 q1 => ⟨m1, e, S1, re.up e1, rs1, q1.bind fun u S2 z2 m2 H2 e2 rs2 r2 q2 => ?_⟩⟩
  obtain ⟨c, ec, q3⟩ := q2.ofO
  exact ⟨m2, S2, v, u, c, rs2, r1.up e2, r2, ec, q3⟩
theorem snd_neg {a : Expr} {pos : Pos} {x : PF.X} (ha : Snd XR B cf N k sc a x) : Snd XR B cf N k sc (.UnaryOp .USub a pos) (.neg x) := by
  refine snd_plain rfl (fun _ _ _ => nofun) fun W X C => ?_
  refine pe_imp (pe_un un_neg (ha W X C).1) fun σ H Q ⟨m, e, S, re, rs, q⟩ => ?_
  have q : Post X.K (RV X.K) m H ((ev cf x e S).bind fun v S => match v with | .int i => .ok (.int (-i)) S | _ => .bad) Q (W σ) := by rw [ev] at q; exact q
  refine ⟨m, e, S, re, rs, q.bind fun v S1 z1 m1 H1 e1 rs1 r1 q1 => ?_⟩
  cases r1 with
  | int i => exact ⟨i, rfl, q1.get rs1 (.int _)⟩
  | _ => exact q1.elim
theorem bind_assoc {α β γ : Type} (r : R α) (f : α → Store → R β) (g : β → Store → R γ) : (r.bind f).bind g = r.bind fun a S => (f a S).bind g := by cases r <;> rfl
theorem snd_cmp {a b : Expr} {op : CmpOp} {pos : Pos} {x y : PF.X} (hs : noSet b = true) (ha : Snd XR B cf N k sc a x) (hb : Snd XR B cf N k sc b y) : Snd XR B cf N k sc (.Compare a [op] [b] pos) (.cmp op x y) := by
  intro W X C
  refine ⟨pe_imp (pe_cmpR (oc_all C.hu op) (ha W X C).1 (hb W X C).1 (behind_plain hs op)) ?_, ?_, fun _ _ _ z => nomatch z⟩
  · intro σ H Q ⟨m, e, S, re, rs, q⟩
    have q : Post X.K (RV X.K) m H ((ev cf x e S).bind fun v S => (ev cf y e S).bind fun u S => R.ofO ((cmpV op S v u).map .bl) S) Q (W σ) := by rw [ev] at q; exact q
    refine ⟨m, e, S, re, rs, q.bind fun v S1 z1 m1 H1 e1 rs1 r1 q1 => ⟨m1, e, S1, re.up e1, rs1, q1.bind fun u S2 z2 m2 H2 e2 rs2 r2 q2 => ?_⟩⟩
    obtain ⟨c, ec, q3⟩ := q2.ofO
    obtain ⟨d, ed, rfl⟩ := map_some ec
    exact ⟨m2, S2, v, u, d, rs2, r1.up e2, r2, ed, q3.get rs2 (.bl _)⟩
  · refine pt_imp (pt_cmpR (oc_all C.hu op) (ha W X C).1 (hb W X C).1 (behind_plain hs op)) fun σ H Q ⟨m, e, S, re, rs, q⟩ => ?_
    have q : Post X.K Same2 m H ((ev cf x e S).bind fun v S => (ev cf y e S).bind fun u S => (R.ofO ((cmpV op S v u).map .bl) S).bind fun v S => R.ofO (truth S v) S) Q (W σ) := by
      unfold evT at q; rw [ev, bind_assoc] at q; simp only [bind_assoc] at q; exact q
    refine ⟨m, e, S, re, rs, q.bind fun v S1 z1 m1 H1 e1 rs1 r1 q1 => ⟨m1, e, S1, re.up e1, rs1, q1.bind fun u S2 z2 m2 H2 e2 rs2 r2 q2 => ?_⟩⟩
    cases ed : cmpV op S2 v u with
    | none => rw [ed] at q2; exact q2.elim
    | some d =>
      rw [ed] at q2
      exact ⟨m2, S2, v, u, d, rs2, r1.up e2, r2, ed, d, rfl, q2 d m2 H2 Ext.refl rs2 rfl⟩
theorem marks_plain {o1 o2 : CmpOp} {b c : Expr} (hc : noSet c = true) : lastMarks [o1, o2] [b, c] = false := by
  show behindInMarks o2 c = false
  exact behind_plain hc o2
theorem snd_chn {a b c : Expr} {o1 o2 : CmpOp} {pos : Pos} {x y z : PF.X} (hs : noSet c = true) (ha : Snd XR B cf N k sc a x) (hb : Snd XR B cf N k sc b y) (hc : Snd XR B cf N k sc c z) :
    Snd XR B cf N k sc (.Compare a [o1, o2] [b, c] pos) (.chn o1 o2 x y z) := by
  intro W X C
  refine ⟨pe_imp (pe_chain (oc_all C.hu o1) (oc_all C.hu o2) (ha W X C).1 (hb W X C).1 (hc W X C).1 (marks_plain hs)) ?_, ?_, fun _ _ _ z => nomatch z⟩
  · intro σ H Q ⟨m, e, S, re, rs, q⟩
    have q : Post X.K (RV X.K) m H ((ev cf x e S).bind fun v S => (ev cf y e S).bind fun u S => (R.ofO (cmpV o1 S v u) S).bind fun k S => if k = true then (ev cf z e S).bind fun w S => R.ofO ((cmpV o2 S u w).map .bl) S else .ok (.bl false) S) Q (W σ) := by rw [ev] at q; exact q
    refine ⟨m, e, S, re, rs, q.bind fun v S1 z1 m1 H1 e1 rs1 r1 q1 => ⟨m1, e, S1, re.up e1, rs1, q1.bind fun u S2 z2 m2 H2 e2 rs2 r2 q2 => ?_⟩⟩
    obtain ⟨d, ed, q3⟩ := q2.pass
    refine ⟨m2, S2, v, u, d, rs2, r1.up e2, r2, ed, d, rfl, ?_⟩
    cases d with
    | false => exact q3.get rs2 (.bl _)
    | true =>
      refine ⟨m2, e, S2, (re.up e1).up e2, rs2, q3.bind fun w S3 z3 m3 H3 e3 rs3 r3 q4 => ?_⟩
      obtain ⟨c, ec, q5⟩ := q4.ofO
      obtain ⟨d, ed, rfl⟩ := map_some ec
      exact ⟨m3, S3, u, w, d, rs3, r2.up e3, r3, ed, q5.get rs3 (.bl _)⟩
  · refine pt_imp (pt_chain (oc_all C.hu o1) (oc_all C.hu o2) (ha W X C).1 (hb W X C).1 (hc W X C).1 (marks_plain hs)) fun σ H Q ⟨m, e, S, re, rs, q⟩ => ?_
    have q : Post X.K Same2 m H ((ev cf x e S).bind fun v S => (ev cf y e S).bind fun u S => (R.ofO (cmpV o1 S v u) S).bind fun k S => (if k = true then (ev cf z e S).bind fun w S => R.ofO ((cmpV o2 S u w).map .bl) S else .ok (.bl false) S).bind fun v S => R.ofO (truth S v) S) Q (W σ) := by
      unfold evT at q; rw [ev, bind_assoc] at q; simp only [bind_assoc] at q; exact q
    refine ⟨m, e, S, re, rs, q.bind fun v S1 z1 m1 H1 e1 rs1 r1 q1 => ⟨m1, e, S1, re.up e1, rs1, q1.bind fun u S2 z2 m2 H2 e2 rs2 r2 q2 => ?_⟩⟩
    obtain ⟨d, ed, q3⟩ := q2.pass
    refine ⟨m2, S2, v, u, d, rs2, r1.up e2, r2, ed, d, rfl, ?_⟩
    cases d with
    | false => exact ⟨false, rfl, q3 false m2 H2 Ext.refl rs2 rfl⟩
    | true =>
      have q3 : Post X.K Same2 m2 H2 ((ev cf z e S2).bind fun w S => (R.ofO ((cmpV o2 S u w).map .bl) S).bind fun v S => R.ofO (truth S v) S) Q (W σ) := by
        rw [if_pos rfl, bind_assoc] at q3; exact q3
      refine ⟨m2, e, S2, (re.up e1).up e2, rs2, q3.bind fun w S3 z3 m3 H3 e3 rs3 r3 q4 => ?_⟩
      cases ed : cmpV o2 S3 u w with
      | none => rw [ed] at q4; exact q4.elim
      | some d =>
        rw [ed] at q4
        exact ⟨m3, S3, u, w, d, rs3, r2.up e3, r3, ed, d, rfl, q4 d m3 H3 Ext.refl rs3 rfl⟩
/-! ### and, or, not, if .. else -/
theorem snd_not {a : Expr} {pos : Pos} {x : PF.X} (ha : Snd XR B cf N k sc a x) : Snd XR B cf N k sc (.UnaryOp .Not a pos) (.not x) := by
  intro W X C
  refine ⟨pe_imp (pe_notT (ha W X C).1) ?_, pt_imp (pt_not (ha W X C).2.1) ?_, fun _ _ _ z => nomatch z⟩
  · intro σ H Q ⟨m, e, S, re, rs, q⟩
    have q : Post X.K (RV X.K) m H ((ev cf x e S).bind fun v S => (R.ofO (truth S v) S).bind fun k S => .ok (.bl (!k)) S) Q (W σ) := by rw [ev] at q; exact q
    refine ⟨m, e, S, re, rs, q.bind fun v S1 z1 m1 H1 e1 rs1 r1 q1 => ?_⟩
    obtain ⟨d, ed, q2⟩ := q1.pass
    exact ⟨d, truth_ok rs1 r1 ed, q2.get rs1 (.bl _)⟩
  · intro σ H Q ⟨m, e, S, re, rs, q⟩
    have q : Post X.K Same2 m H ((evT cf x e S).bind fun k S => .ok (!k) S) Q (W σ) := by
      unfold evT at q ⊢
      rw [ev, bind_assoc] at q
      rw [bind_assoc]
      simp only [bind_assoc] at q
      exact q
    exact ⟨m, e, S, re, rs, q.bind fun d S1 z1 m1 H1 e1 rs1 r1 q1 => by cases r1; exact q1 (!d) m1 H1 Ext.refl rs1 rfl⟩
theorem evT_and {x y : PF.X} {e : Env} {S : Store} : evT cf (.and x y) e S = (evT cf x e S).bind fun k S => if k = true then evT cf y e S else .ok false S := by
  unfold evT
  rw [ev, bind_assoc, bind_assoc]
  congr 1
  funext v S
  cases h : truth S v with
  | none => rfl
  | some d =>
    cases d with
    | true => rfl
    | false => simp [h]
theorem evT_or {x y : PF.X} {e : Env} {S : Store} : evT cf (.or x y) e S = (evT cf x e S).bind fun k S => if k = true then .ok true S else evT cf y e S := by
  unfold evT
  rw [ev, bind_assoc, bind_assoc]
  congr 1
  funext v S
  cases h : truth S v with
  | none => rfl
  | some d =>
    cases d with
    | false => rfl
    | true => simp [h]
theorem evT_ite {c x y : PF.X} {e : Env} {S : Store} : evT cf (.ite c x y) e S = (evT cf c e S).bind fun k S => if k = true then evT cf x e S else evT cf y e S := by
  unfold evT
  rw [ev, bind_assoc, bind_assoc]
  congr 1
  funext v S
  cases h : truth S v with
  | none => rfl
  | some d => cases d <;> rfl
theorem canT_and {K : PySem.W.Frag} {x y : PF.X} {σ : St} {H : Hp} {Q : Bool → Hp → Prop} (h : canT K W (evT cf (.and x y)) σ H Q) : tAnd (canT K W (evT cf x)) (canT K W (evT cf y)) σ H Q := by
  obtain ⟨m, e, S, re, rs, q⟩ := h
  rw [evT_and] at q
  refine ⟨m, e, S, re, rs, q.bind fun d S1 z1 m1 H1 e1 rs1 r1 q1 => ?_⟩
  cases r1
  cases d with
  | true => exact ⟨m1, e, S1, re.up e1, rs1, q1⟩
  | false => exact q1 false m1 H1 Ext.refl rs1 rfl
theorem canT_or {K : PySem.W.Frag} {x y : PF.X} {σ : St} {H : Hp} {Q : Bool → Hp → Prop} (h : canT K W (evT cf (.or x y)) σ H Q) : tOr (canT K W (evT cf x)) (canT K W (evT cf y)) σ H Q := by
  obtain ⟨m, e, S, re, rs, q⟩ := h
  rw [evT_or] at q
  refine ⟨m, e, S, re, rs, q.bind fun d S1 z1 m1 H1 e1 rs1 r1 q1 => ?_⟩
  cases r1
  cases d with
  | false => exact ⟨m1, e, S1, re.up e1, rs1, q1⟩
  | true => exact q1 true m1 H1 Ext.refl rs1 rfl
theorem snd_one {a : Expr} {op : BoolOp} {pos : Pos} {x : PF.X} (ha : Snd XR B cf N k sc a x) : Snd XR B cf N k sc (.BoolOp op [a] pos) x := by
  intro W X C
  have hw : PW X (.BoolOp op [a] pos) (canT X.K W (evT cf x)) := by
    cases op with
    | And => exact pw_and1 (ha W X C).2.1
    | Or => exact pw_or1 (ha W X C).2.1
  exact ⟨pe_one (ha W X C).1, hw.pt, fun _ _ _ _ => hw⟩
theorem snd_and {a b : Expr} {r : List Expr} {pos : Pos} {x y : PF.X} (ha : Snd XR B cf N k sc a x) (hb : Snd XR B cf N k sc (.BoolOp .And (b :: r) pos) y) : Snd XR B cf N k sc (.BoolOp .And (a :: b :: r) pos) (.and x y) := by
  intro W X C
  have hw : PW X (.BoolOp .And (a :: b :: r) pos) (canT X.K W (evT cf (.and x y))) := pw_imp (pw_and (ha W X C).2.1 ((hb W X C).2.2 _ _ _ rfl)) fun σ H Q h => canT_and h
  refine ⟨pe_imp (pe_andT (ha W X C).1 (hb W X C).1) ?_, hw.pt, fun _ _ _ _ => hw⟩
  intro σ H Q ⟨m, e, S, re, rs, q⟩
  have q : Post X.K (RV X.K) m H ((ev cf x e S).bind fun v S => (R.ofO (truth S v) S).bind fun k S => if k = true then ev cf y e S else .ok v S) Q (W σ) := by rw [ev] at q; exact q
  refine ⟨m, e, S, re, rs, q.bind fun v S1 z1 m1 H1 e1 rs1 r1 q1 => ?_⟩
  obtain ⟨d, ed, q2⟩ := q1.pass
  refine ⟨d, truth_ok rs1 r1 ed, ?_⟩
  cases d with
  | true => exact ⟨m1, e, S1, re.up e1, rs1, q2⟩
  | false => exact q2.get rs1 r1
theorem snd_or {a b : Expr} {r : List Expr} {pos : Pos} {x y : PF.X} (ha : Snd XR B cf N k sc a x) (hb : Snd XR B cf N k sc (.BoolOp .Or (b :: r) pos) y) : Snd XR B cf N k sc (.BoolOp .Or (a :: b :: r) pos) (.or x y) := by
  intro W X C
  have hw : PW X (.BoolOp .Or (a :: b :: r) pos) (canT X.K W (evT cf (.or x y))) := pw_imp (pw_or (ha W X C).2.1 ((hb W X C).2.2 _ _ _ rfl)) fun σ H Q h => canT_or h
  refine ⟨pe_imp (pe_orT (ha W X C).1 (hb W X C).1) ?_, hw.pt, fun _ _ _ _ => hw⟩
  intro σ H Q ⟨m, e, S, re, rs, q⟩
  have q : Post X.K (RV X.K) m H ((ev cf x e S).bind fun v S => (R.ofO (truth S v) S).bind fun k S => if k = true then .ok v S else ev cf y e S) Q (W σ) := by rw [ev] at q; exact q
  refine ⟨m, e, S, re, rs, q.bind fun v S1 z1 m1 H1 e1 rs1 r1 q1 => ?_⟩
  obtain ⟨d, ed, q2⟩ := q1.pass
  refine ⟨d, truth_ok rs1 r1 ed, ?_⟩
  cases d with
  | false => exact ⟨m1, e, S1, re.up e1, rs1, q2⟩
  | true => exact q2.get rs1 r1
theorem pt_ifX {c a b : Expr} {pos : Pos} {tc ta tb : TT} (hc : PT X c tc) (ha : PT X a ta) (hb : PT X b tb) : PT X (.IfExp c a b pos) (fun σ H Q => tc σ H fun d H1 => if d = true then ta σ H1 Q else tb σ H1 Q) := by
  refine ⟨fun pins s σ H Q I h => ?_⟩
  show wpAny _ _ (do if ← isTrue c X.env (eval c X.env) then isTrue a X.env (eval a X.env) else isTrue b X.env (eval b X.env)) _ _ s
  refine wpAny_bind (thn (hc.run pins s σ H _ I h) fun d s1 ⟨H1, I1, q1⟩ => ?_)
  cases d with
  | true => exact ha.run pins s1 σ H1 Q I1 q1
  | false => exact hb.run pins s1 σ H1 Q I1 q1
theorem snd_ite {c a b : Expr} {pos : Pos} {z x y : PF.X} (hc : Snd XR B cf N k sc c z) (ha : Snd XR B cf N k sc a x) (hb : Snd XR B cf N k sc b y) : Snd XR B cf N k sc (.IfExp c a b pos) (.ite z x y) := by
  intro W X C
  refine ⟨pe_imp (pe_ifExp (hc W X C).2.1 (ha W X C).1 (hb W X C).1) ?_, pt_imp (pt_ifX (hc W X C).2.1 (ha W X C).2.1 (hb W X C).2.1) ?_, fun _ _ _ z => nomatch z⟩
  · intro σ H Q ⟨m, e, S, re, rs, q⟩
    have q : Post X.K (RV X.K) m H ((evT cf z e S).bind fun k S => if k = true then ev cf x e S else ev cf y e S) Q (W σ) := by
      unfold evT; rw [bind_assoc]; rw [ev] at q; exact q
    refine ⟨m, e, S, re, rs, q.bind fun d S1 z1 m1 H1 e1 rs1 r1 q1 => ?_⟩
    cases r1
    cases d with
    | true => exact ⟨m1, e, S1, re.up e1, rs1, q1⟩
    | false => exact ⟨m1, e, S1, re.up e1, rs1, q1⟩
  · intro σ H Q ⟨m, e, S, re, rs, q⟩
    rw [evT_ite] at q
    refine ⟨m, e, S, re, rs, q.bind fun d S1 z1 m1 H1 e1 rs1 r1 q1 => ?_⟩
    cases r1
    cases d with
    | true => exact ⟨m1, e, S1, re.up e1, rs1, q1⟩
    | false => exact ⟨m1, e, S1, re.up e1, rs1, q1⟩
/-! ### displays, subscripts, slices -/
inductive SndL (XR : XRel) (B : Tab) (cf : Nat → List PV → Store → R PV) (N : List Str) (k : Nat) (sc : Scope) : List Expr → List PF.X → Prop
  | nil : SndL XR B cf N k sc [] []
  | cons {e : Expr} {x : PF.X} {es : List Expr} {xs : List PF.X} (h : Snd XR B cf N k sc e x) (t : SndL XR B cf N k sc es xs) : SndL XR B cf N k sc (e :: es) (x :: xs)
theorem snd_list {f : Expr → Option PF.X} (hf : ∀ e x, f e = some x → Snd XR B cf N k sc e x) : ∀ {es : List Expr} {xs : List PF.X}, trL f es = some xs → SndL XR B cf N k sc es xs
  | [], xs, h => by cases h; exact .nil
  | e :: es, xs, h => by
    rw [trL] at h
    cases h1 : f e with
    | none => rw [h1] at h; cases h
    | some y =>
      rw [h1] at h
      cases h2 : trL f es with
      | none => rw [h2] at h; cases h
      | some ys => rw [h2] at h; cases h; exact .cons (hf e y h1) (snd_list hf h2)
theorem pa_of (C : Cok XR B cf N sc k W X) : ∀ {es : List Expr} {xs : List PF.X}, SndL XR B cf N k sc es xs → es.all noStar = true → PA X es (canA X.K W (evs cf xs))
  | _, _, .nil, _ => pa_imp pa_nil fun σ H Q ⟨m, e, S, re, rs, q⟩ => q [] m H Ext.refl rs .nil
  | e :: es, _, .cons (x := x) (xs := xs) h t, hs => by
    rw [List.all_cons, Bool.and_eq_true] at hs
    refine pa_imp (pa_cons (h W X C).1 (pa_of C t hs.2) (star_cons hs.1)) fun σ H Q ⟨m, e, S, re, rs, q⟩ => ?_
    have q : Post X.K (RVs X.K) m H ((ev cf x e S).bind fun v S => (evs cf xs e S).bind fun vs S => .ok (v :: vs) S) Q (W σ) := by rw [evs] at q; exact q
    refine ⟨m, e, S, re, rs, q.bind fun v S1 z1 m1 H1 e1 rs1 r1 q1 => ⟨m1, e, S1, re.up e1, rs1, q1.bind fun vs S2 z2 m2 H2 e2 rs2 r2 q2 => q2 _ m2 H2 Ext.refl rs2 (.cons (r1.up e2) r2)⟩⟩
theorem snd_tup {es : List Expr} {j : Nat} {pos : Pos} {xs : List PF.X} (hs : es.all noStar = true) (h : SndL XR B cf N k sc es xs) : Snd XR B cf N k sc (.Tuple es j pos) (.tup xs) := by
  refine snd_plain rfl (fun _ _ _ => nofun) fun W X C => ?_
  refine pe_imp (pe_tup (pa_of C h hs)) fun σ H Q ⟨m, e, S, re, rs, q⟩ => ?_
  have q : Post X.K (RV X.K) m H ((evs cf xs e S).bind fun vs S => if vs.length ≤ sizeLine then .ok (.tup vs) S else .bad) Q (W σ) := by rw [ev] at q; exact q
  refine ⟨m, e, S, re, rs, q.bind fun vs S1 z1 m1 H1 e1 rs1 r1 q1 => ?_⟩
  by_cases hl : vs.length ≤ sizeLine
  · rw [if_pos hl] at q1
    exact ⟨by rw [← r1.length]; exact hl, fun p hp => new_tup rs1 hl r1 hp q1⟩
  · rw [if_neg hl] at q1; exact q1.elim
theorem snd_lst {es : List Expr} {pos : Pos} {xs : List PF.X} {l : Bool} (hs : es.all noStar = true) (h : SndL XR B cf N k sc es xs) : Snd XR B cf N k sc (.List es pos) (.lst l xs) := by
  refine snd_plain rfl (fun _ _ _ => nofun) fun W X C => ?_
  refine pe_imp (pe_lst (pa_of C h hs)) fun σ H Q ⟨m, e, S, re, rs, q⟩ => ?_
  have q : Post X.K (RV X.K) m H ((evs cf xs e S).bind fun vs S => if vs.length ≤ sizeLine then mkList l vs S else .bad) Q (W σ) := by rw [ev] at q; exact q
  refine ⟨m, e, S, re, rs, q.bind fun vs S1 z1 m1 H1 e1 rs1 r1 q1 => ?_⟩
  by_cases hl : vs.length ≤ sizeLine
  · rw [if_pos hl] at q1
    refine ⟨by rw [← r1.length]; exact hl, fun p hp => ?_⟩
    cases l with
    | true => exact new_obj rs1 hl r1 hp q1
    | false => exact new_lst rs1 hl r1 hp q1
  · rw [if_neg hl] at q1; exact q1.elim
theorem snd_dic0 {pos : Pos} {l : Bool} : Snd XR B cf N k sc (.Dict [] [] pos) (.dic l []) := by
  refine snd_plain rfl (fun _ _ _ => nofun) fun W X C => ?_
  refine pe_imp pe_dnewK fun σ H Q ⟨m, e, S, re, rs, q⟩ => ?_
  have q : Post X.K (RV X.K) m H (mkDict l [] S) Q (W σ) := q
  cases l with
  | true => exact fun p hp => new_dic rs .nil hp q
  | false => exact fun p hp => new_dv rs .nil hp q
theorem snd_ix {a b : Expr} {pos : Pos} {x y : PF.X} (hs : noSlice b = true) (ha : Snd XR B cf N k sc a x) (hb : Snd XR B cf N k sc b y) : Snd XR B cf N k sc (.Subscript a b pos) (.ix x y) := by
  refine snd_plain rfl (fun _ _ _ => nofun) fun W X C => ?_
  refine pe_imp (pe_ix (oi_all C.hu) (ha W X C).1 (hb W X C).1 (slice_plain hs)) fun σ H Q ⟨m, e, S, re, rs, q⟩ => ?_
  have q : Post X.K (RV X.K) m H ((ev cf x e S).bind fun v S => (ev cf y e S).bind fun u S => R.ofO (ixV S v u) S) Q (W σ) := by rw [ev] at q; exact q
  refine ⟨m, e, S, re, rs, q.bind fun v S1 z1 m1 H1 e1 rs1 r1 q1 => ⟨m1, e, S1, re.up e1, rs1, q1.bind fun u S2 z2 m2 H2 e2 rs2 r2 q2 => ?_⟩⟩
  obtain ⟨c, ec, q3⟩ := q2.ofO
  exact ⟨m2, S2, v, u, c, rs2, r1.up e2, r2, ec, q3⟩
/-- a slice's bound -/
inductive SndO (XR : XRel) (B : Tab) (cf : Nat → List PV → Store → R PV) (N : List Str) (k : Nat) (sc : Scope) : Option Expr → PF.X → Prop
  | none : SndO XR B cf N k sc none (.c .non)
  | some {e : Expr} {x : PF.X} (h : Snd XR B cf N k sc e x) : SndO XR B cf N k sc (some e) (.num x)
/-- the reading of a slice's bound -/
def canO (K : PySem.W.Frag) (W : St → WP) (f : Env → Store → R (Option Int)) : TO := fun σ H Q => ∃ m e S, RE K m H e σ ∧ Rel K S m H ∧ Post K Same2 m H (f e S) Q (W σ)
theorem po_of (C : Cok XR B cf N sc k W X) {o : Option Expr} {x : PF.X} (h : SndO XR B cf N k sc o x) :
    ∃ t, L2.PO X o t ∧ ∀ (σ : St) (H : Hp) (Q : Option Int → Hp → Prop), canO X.K W (fun e S => (ev cf x e S).bind fun l S => R.ofO (bound l) S) σ H Q → t σ H Q := by
  cases h with
  | none => exact ⟨_, po_none, fun σ H Q ⟨m, e, S, re, rs, q⟩ => q none m H Ext.refl rs rfl⟩
  | @some a y h =>
    refine ⟨_, po_some (h W X C).1, fun σ H Q ⟨m, e, S, re, rs, q⟩ => ?_⟩
    have q : Post X.K Same2 m H ((ev cf y e S).bind fun v S => (match v with | .int i => R.ok (.int i) S | _ => .bad : R PV).bind fun l S => R.ofO (bound l) S) Q (W σ) := by
      simp only [ev, bind_assoc] at q; exact q
    refine ⟨m, e, S, re, rs, q.bind fun v S1 z1 m1 H1 e1 rs1 r1 q1 => ?_⟩
    cases r1 with
    | int i => exact ⟨i, rfl, q1 (some i) m1 H1 Ext.refl rs1 rfl⟩
    | _ => exact q1.elim
theorem snd_sl {a : Expr} {lo hi : Option Expr} {pos p2 : Pos} {x l h : PF.X} (ha : Snd XR B cf N k sc a x) (hl : SndO XR B cf N k sc lo l) (hh : SndO XR B cf N k sc hi h) : Snd XR B cf N k sc (.Subscript a (.Slice lo hi none p2) pos) (.sl x l h) := by
  refine snd_plain rfl (fun _ _ _ => nofun) fun W X C => ?_
  obtain ⟨tl, pl, kl⟩ := po_of C hl
  obtain ⟨th, ph, kh⟩ := po_of C hh
  refine pe_imp (pe_slice os_all (ha W X C).1 pl ph) fun σ H Q ⟨m, e, S, re, rs, q⟩ => ?_
  have q : Post X.K (RV X.K) m H ((ev cf x e S).bind fun v S => ((ev cf l e S).bind fun l S => R.ofO (bound l) S).bind fun l S => ((ev cf h e S).bind fun h S => R.ofO (bound h) S).bind fun h S => R.ofO (slV S v l h) S) Q (W σ) := by
    simp only [ev, bind_assoc] at q ⊢; exact q
  refine ⟨m, e, S, re, rs, q.bind fun v S1 z1 m1 H1 e1 rs1 r1 q1 => kl _ _ _ ⟨m1, e, S1, re.up e1, rs1, q1.bind fun l S2 z2 m2 H2 e2 rs2 r2 q2 => kh _ _ _ ⟨m2, e, S2, (re.up e1).up e2, rs2, q2.bind fun h S3 z3 m3 H3 e3 rs3 r3 q3 => ?_⟩⟩⟩
  obtain ⟨c, ec, q4⟩ := q3.ofO
  cases r2
  cases r3
  exact ⟨m3, S3, v, c, rs3, (r1.up e2).up e3, ec, q4⟩
/-! ### calls -/
theorem lookup_map {α : Type} {l : List (Str × α)} {x : Str} {y : α} (h : l.lookup x = some y) : (x, y) ∈ l := PySem.mem_of_lookup h
theorem run_sp (C : Cok XR B cf N sc k W X) {f np : Nat} {σ : St} {H : Hp} {Q : VK} {m : Mp} {S : Store} {vs : List PV} {us : List V} (hl : vs.length = np) (rs : Rel X.K S m H) (r : RVs X.K m H vs us) (q : Post X.K (RV X.K) m H (cf f vs S) Q (W σ)) :
    spOf X.K XR (cf f) np (us ++ []) H Q (WE (wx XR W) σ) := by
  rw [List.append_nil]
  refine ⟨by rw [← r.length]; exact hl, m, S, vs, rs, r, hl, ?_⟩
  cases h : cf f vs S with
  | ok v S' => rw [h] at q; exact q
  | exc c fs S' =>
    rw [h] at q
    exact fun m' H' e rs' cls d xr => ⟨c, fs, m', xr, q m' H' e rs'⟩
  | bad => rw [h] at q; exact q
theorem snd_fn {y : Str} {p pos : Pos} {a : Expr} {as : List Expr} {xs : List PF.X} {f np : Nat} (ho : oddName y = false) (hg : isGlobal sc y = true) (hs : (a :: as).all noStar = true) (hf : B.fns.lookup y = some (f, np)) (hl : (a :: as).length = np)
    (h : SndL XR B cf N k sc (a :: as) xs) : Snd XR B cf N k sc (.Call (.Name y p) (a :: as) [] pos) (.fn f xs) := by
  refine snd_plain rfl (fun _ _ _ => nofun) fun W X C => ?_
  obtain ⟨ad, fd, ps, g1, g2, g3, g4, g5⟩ := C.fns y f np hf
  have hs' := hs
  rw [List.all_cons, Bool.and_eq_true] at hs'
  refine pe_imp (pe_callSD g5 C.room (C.glob hg) g1 g2 g4 .nil (fun σ => passAt C.tk σ) (pa_of C h hs) (not_odd ho).1 (star_cons hs'.1) (star_any hs'.2)) fun σ H Q ⟨m, e, S, re, rs, q⟩ => ?_
  have q : Post X.K (RV X.K) m H ((evs cf xs e S).bind fun vs S => cf f vs S) Q (W σ) := by rw [ev] at q; exact q
  have hx : xs.length = (a :: as).length := by
    have : ∀ {es : List Expr} {xs : List PF.X}, SndL XR B cf N k sc es xs → xs.length = es.length := by
      intro es xs h
      induction h with
      | nil => rfl
      | cons _ _ ih => rw [List.length_cons, List.length_cons, ih]
    exact this h
  refine ⟨m, e, S, re, rs, ?_⟩
  cases hv : evs cf xs e S with
  | ok vs S1 =>
    rw [hv] at q
    intro us m1 H1 e1 rs1 r1
    have hlen : vs.length = np := by
      have : ∀ (xs : List PF.X) (e : Env) (S : Store) (vs : List PV) (S1 : Store), evs cf xs e S = .ok vs S1 → vs.length = xs.length := by
        intro xs
        induction xs with
        | nil => intro e S vs S1 h; rw [evs] at h; cases h; rfl
        | cons x xs ih =>
          intro e S vs S1 h
          rw [evs] at h
          cases h1 : ev cf x e S with
          | ok v S2 =>
            rw [h1] at h
            simp only [R.bind_ok] at h
            cases h2 : evs cf xs e S2 with
            | ok ws S3 => rw [h2] at h; simp only [R.bind_ok] at h; cases h; rw [List.length_cons, List.length_cons, ih _ _ _ _ h2]
            | exc c fs S3 => rw [h2] at h; cases h
            | bad => rw [h2] at h; cases h
          | exc c fs S2 => rw [h1] at h; cases h
          | bad => rw [h1] at h; cases h
      rw [this _ _ _ _ _ hv, hx, hl]
    exact run_sp C hlen rs1 r1 (Post.up e1 q)
  | exc c fs S1 => rw [hv] at q; exact q
  | bad => rw [hv] at q; exact q.elim
end
end L2.PF

set_option Elab.async false
set_option linter.all false
set_option maxRecDepth 100000
set_option maxHeartbeats 4000000
/-! PFH: built-in functions, isinstance, methods, in the text. -/
namespace L2.PF
open PySem PySem.Spec PyProof.Rows
section
variable {XR : XRel} {B : Tab} {cf : Nat → List PV → Store → R PV} {N : List Str} {sc : Scope} {k : Nat} {W : St → WP} {X : Cx}
theorem Post.noexc {α β : Type} {K : PySem.W.Frag} {rel : Mp → Hp → α → β → Prop} {m : Mp} {H : Hp} {r : R α} {Q : β → Hp → Prop} {W W' : WP} (hn : ∀ c fs S, r ≠ .exc c fs S) (h : Post K rel m H r Q W) : Post K rel m H r Q W' := by
  cases r with
  | ok a S => exact h
  | exc c fs S => exact absurd rfl (hn c fs S)
  | bad => exact h
theorem ofO_noexc {α : Type} {o : Option α} {S : Store} (c fs S') : (R.ofO o S : R α) ≠ .exc c fs S' := by cases o <;> exact fun h => nomatch h
theorem bltR_noexc {b : Blt} {S : Store} {vs : List PV} (c fs S') : bltR b S vs ≠ .exc c fs S' := by
  unfold bltR mkDict
  repeat' split
  all_goals first
    | exact ofO_noexc c fs S'
    | (intro h; cases h; done)
    | trace_state
theorem mthV_noexc {b : Mth} {S : Store} {o : PV} {vs : List PV} (c fs S') : mthV b S o vs ≠ .exc c fs S' := by
  unfold mthV
  repeat' split
  all_goals exact fun h => nomatch h
theorem trL_length {α β : Type} {f : α → Option β} : ∀ {es : List α} {xs : List β}, trL f es = some xs → xs.length = es.length
  | [], xs, h => by cases h; rfl
  | e :: es, xs, h => by
    rw [trL] at h
    cases h1 : f e with
    | none => rw [h1] at h; cases h
    | some y =>
      rw [h1] at h
      cases h2 : trL f es with
      | none => rw [h2] at h; cases h
      | some ys => rw [h2] at h; cases h; rw [List.length_cons, List.length_cons, trL_length h2]
theorem isB_ok (C : Cok XR B cf N sc k W X) {x : Str} (h1 : isGlobal sc x = true) (h2 : B.bls.contains x = true) (h3 : oddName x = false) : Gl X x ∧ X.mg x = none ∧ x ≠ "__name__" ∧ (x == ("__debug__" : Str)) = false :=
  ⟨C.glob h1, C.bls x h2, (not_odd h3).2.2, (not_odd h3).1⟩
theorem blt_core {K : PySem.W.Frag} {b : Blt} {xs : List PF.X} {σ : St} {H : Hp} {Q : VK} (h : can K W (ev cf (.blt b xs)) σ H Q) : tCB (rBlt K (bltR b)) (canA K W (evs cf xs)) σ H Q := by
  obtain ⟨m, e, S, re, rs, q⟩ := h
  have q : Post K (RV K) m H ((evs cf xs e S).bind fun vs S => bltR b S vs) Q (W σ) := by rw [ev] at q; exact q
  exact ⟨m, e, S, re, rs, q.bind fun vs S1 z1 m1 H1 e1 rs1 r1 q1 => ⟨m1, S1, vs, rs1, r1, Post.noexc (fun _ _ _ => bltR_noexc _ _ _) q1⟩⟩
theorem snd_blt {y : Str} {p pos : Pos} {a : Expr} {as : List Expr} {xs : List PF.X} {b : Blt} {l : Bool} (ho : oddName y = false) (hg : isGlobal sc y = true) (hs : (a :: as).all noStar = true) (hf : B.bls.contains y = true)
    (hb : bltOf l y (a :: as).length = some b) (h : SndL XR B cf N k sc (a :: as) xs) : Snd XR B cf N k sc (.Call (.Name y p) (a :: as) [] pos) (.blt b xs) := by
  refine snd_plain rfl (fun _ _ _ => nofun) fun W X C => ?_
  obtain ⟨g1, g2, g3, g4⟩ := isB_ok C hg hf ho
  have hs' := hs
  rw [List.all_cons, Bool.and_eq_true] at hs'
  have viaB : ∀ {id : String}, CallR X (.builtin id) (rBlt X.K (bltR b)) → bootBuiltins y = some (.builtin id) → PE X (.Call (.Name y p) (a :: as) [] pos) (can X.K W (ev cf (.blt b xs))) :=
    fun {id} hc hv => pe_imp (pe_callB hc g1 g2 hv (pa_of C h hs) g3 g4 (star_cons hs'.1) (star_any hs'.2)) fun σ H Q q => blt_core q
  have viaT : ∀ {id : String}, CallR X (.type id) (rBlt X.K (bltR b)) → bootBuiltins y = some (.type id) → PE X (.Call (.Name y p) (a :: as) [] pos) (can X.K W (ev cf (.blt b xs))) :=
    fun {id} hc hv => pe_imp (pe_callTy hc g1 g2 hv (pa_of C h hs) g3 g4 (star_cons hs'.1) (star_any hs'.2)) fun σ H Q q => blt_core q
  unfold bltOf at hb
  by_cases e : y = ("len" : Str)
  · rw [if_pos e] at hb
    obtain ⟨_, hb⟩ := ite_some hb
    subst e
    cases hb
    exact viaB cb_len PySem.boot_len
  rw [if_neg e] at hb
  clear e
  by_cases e : y = ("int" : Str)
  · rw [if_pos e] at hb
    obtain ⟨_, hb⟩ := ite_some hb
    subst e
    cases hb
    exact viaT cb_int1 (by decide +kernel)
  rw [if_neg e] at hb
  clear e
  by_cases e : y = ("tuple" : Str)
  · rw [if_pos e] at hb
    obtain ⟨_, hb⟩ := ite_some hb
    subst e
    cases hb
    exact viaT cb_tuple1 (by decide +kernel)
  rw [if_neg e] at hb
  clear e
  by_cases e : y = ("list" : Str)
  · rw [if_pos e] at hb
    obtain ⟨_, hb⟩ := ite_some hb
    subst e
    cases l with
    | true => cases hb; exact viaT cb_list1m (by decide +kernel)
    | false => cases hb; exact viaT cb_list1 (by decide +kernel)
  rw [if_neg e] at hb
  clear e
  by_cases e : y = ("dict" : Str)
  · rw [if_pos e] at hb
    obtain ⟨_, hb⟩ := ite_some hb
    subst e
    cases l with
    | true => cases hb; exact viaT cb_dict1m (by decide +kernel)
    | false => cases hb; exact viaT cb_dict1 (by decide +kernel)
  rw [if_neg e] at hb
  clear e
  by_cases e : y = ("max" : Str)
  · rw [if_pos e] at hb
    obtain ⟨_, hb⟩ := ite_some hb
    subst e
    cases hb
    exact viaB (cb_max2 C.calm) (by decide +kernel)
  rw [if_neg e] at hb
  clear e
  by_cases e : y = ("min" : Str)
  · rw [if_pos e] at hb
    obtain ⟨_, hb⟩ := ite_some hb
    subst e
    cases hb
    exact viaB (cb_min2 C.calm) (by decide +kernel)
  rw [if_neg e] at hb
  clear e
  by_cases e : y = ("all" : Str)
  · rw [if_pos e] at hb
    obtain ⟨_, hb⟩ := ite_some hb
    subst e
    cases hb
    exact viaB (cb_all1 C.calm) (by decide +kernel)
  rw [if_neg e] at hb
  clear e
  by_cases e : y = ("any" : Str)
  · rw [if_pos e] at hb
    obtain ⟨_, hb⟩ := ite_some hb
    subst e
    cases hb
    exact viaB (cb_any1 C.calm) (by decide +kernel)
  rw [if_neg e] at hb
  clear e
  by_cases e : y = ("sum" : Str)
  · rw [if_pos e] at hb
    obtain ⟨_, hb⟩ := ite_some hb
    subst e
    cases hb
    exact viaB (cb_sum1 C.calm) (by decide +kernel)
  rw [if_neg e] at hb
  clear e
  by_cases e : y = ("str" : Str)
  · rw [if_pos e] at hb
    obtain ⟨_, hb⟩ := ite_some hb
    subst e
    cases hb
    exact viaT cb_str1 (by decide +kernel)
  rw [if_neg e] at hb
  clear e
  cases hb
/-! ### isinstance -/
theorem tyx_of {K : PySem.W.Frag} {m : Mp} {H : Hp} {S : Store} {v : PV} {x : V} {t : String} (rs : Rel K S m H) (r : RV K m H v x) (e : tyName S v = some t) : TyX K H x (.type t) := by
  cases r with
  | non => cases e; exact .base .non
  | bl b => cases e; exact .base (.bl b)
  | int i => cases e; exact .base (.int i)
  | str z _ => cases e; exact .base (.str z)
  | tup hl h r =>
    cases e
    rcases h with ⟨_, h⟩ | ⟨o, its, n, h1, h2, _⟩
    · exact .base (.tup h)
    · exact .kTuple h1 h2
  | lv hl n h r => cases e; exact .base (.lst h)
  | fz hl h r => cases e
  | @loc n p h =>
    rw [tyName] at e
    cases g : S[n]? with
    | none => rw [g] at e; cases e
    | some o =>
      rw [g] at e
      have ro := rs.at g h
      cases o with
      | lst xs => obtain ⟨_, vs, g1, _⟩ := ro; cases e; exact .base (.lst g1)
      | dic kvs => obtain ⟨vs, g1, _⟩ := ro; cases e; exact .base (.dK g1)
      | ins c fs => cases e
  | dv hl n h r => cases e; exact .base (.dK h)
  | iv hl n h hC r => cases e
def tyNames : List String := ["NoneType", "bool", "int", "str", "tuple", "list", "dict"]
def clNames : List String := ["int", "bool", "str", "tuple", "list", "dict"]
theorem kit_table : (tyNames.all fun t => clNames.all fun c => kitB t c == some (isT t c)) = true := by decide +kernel
theorem kit_get {K : PySem.W.Frag} {t c : String} (ht : t ∈ tyNames) (hc : c ∈ clNames) : PySem.W.kitOne K (.type t) (.type c) = some (isT t c) := by
  have h := kit_table
  rw [List.all_eq_true] at h
  have h2 := h t ht
  rw [List.all_eq_true] at h2
  exact kit_ty (by simpa using h2 c hc)
theorem tyName_in {S : Store} {v : PV} {t : String} (e : tyName S v = some t) : t ∈ tyNames := by
  cases v with
  | loc n =>
    rw [tyName] at e
    split at e <;> first | (cases e; decide) | cases e
  | fz xs => cases e
  | iv c ns xs => cases e
  | _ => cases e; decide
theorem kit_any {K : PySem.W.Frag} {t : String} (ht : t ∈ tyNames) : ∀ {ts : List String}, (∀ c ∈ ts, c ∈ clNames) → PySem.W.kitAny K (.type t) (ts.map Value.type) = some (ts.any (isT t))
  | [], _ => rfl
  | c :: ts, h => by
    have ih := kit_any (K := K) ht (ts := ts) fun c hc => h c (List.mem_cons_of_mem _ hc)
    refine kitAny_cons (kit_get ht (h c (by simp))) (fun e => ?_) (fun e => ?_)
    · rw [List.any_cons, e, Bool.false_or]; exact ih
    · rw [List.any_cons, e, Bool.true_or]
theorem trType_ok (C : Cok XR B cf N sc k W X) {e : Expr} {t : String} (h : trType B sc e = some t) : noStar e = true ∧ isTuple e = false ∧ t ∈ clNames ∧ PE X e (tC (.ty t)) := by
  cases e with
  | Name x p =>
    rw [trType] at h
    by_cases hb : isB B sc x = true
    · rw [if_pos hb] at h
      unfold isB at hb
      simp only [Bool.and_eq_true, Bool.not_eq_true'] at hb
      obtain ⟨g1, g2, g3, g4⟩ := isB_ok C hb.1.1 hb.1.2 hb.2
      refine ⟨rfl, rfl, ?_⟩
      by_cases e : x = ("int" : Str)
      · rw [if_pos e] at h; subst e; cases h; exact ⟨by decide, pe_bltn g1 g2 (by decide +kernel) rfl g3 g4⟩
      rw [if_neg e] at h
      clear e
      by_cases e : x = ("bool" : Str)
      · rw [if_pos e] at h; subst e; cases h; exact ⟨by decide, pe_bltn g1 g2 (by decide +kernel) rfl g3 g4⟩
      rw [if_neg e] at h
      clear e
      by_cases e : x = ("str" : Str)
      · rw [if_pos e] at h; subst e; cases h; exact ⟨by decide, pe_bltn g1 g2 (by decide +kernel) rfl g3 g4⟩
      rw [if_neg e] at h
      clear e
      by_cases e : x = ("tuple" : Str)
      · rw [if_pos e] at h; subst e; cases h; exact ⟨by decide, pe_bltn g1 g2 (by decide +kernel) rfl g3 g4⟩
      rw [if_neg e] at h
      clear e
      by_cases e : x = ("list" : Str)
      · rw [if_pos e] at h; subst e; cases h; exact ⟨by decide, pe_bltn g1 g2 (by decide +kernel) rfl g3 g4⟩
      rw [if_neg e] at h
      clear e
      by_cases e : x = ("dict" : Str)
      · rw [if_pos e] at h; subst e; cases h; exact ⟨by decide, pe_bltn g1 g2 (by decide +kernel) rfl g3 g4⟩
      rw [if_neg e] at h
      clear e
      cases h
    · rw [if_neg hb] at h; cases h
  | _ => cases h
theorem trTypes_ok (C : Cok XR B cf N sc k W X) : ∀ {es : List Expr} {ts : List String}, trL (trType B sc) es = some ts → (∀ c ∈ ts, c ∈ clNames) ∧ PA X es (fun _ H Q => Q (ts.map V.ty) H)
  | [], ts, h => by cases h; exact ⟨fun c hc => absurd hc (by simp), pa_imp pa_nil fun _ _ _ q => q⟩
  | e :: es, ts, h => by
    rw [trL] at h
    cases h1 : trType B sc e with
    | none => rw [h1] at h; cases h
    | some t =>
      rw [h1] at h
      cases h2 : trL (trType B sc) es with
      | none => rw [h2] at h; cases h
      | some r =>
        rw [h2] at h
        cases h
        obtain ⟨a1, _, a2, a3⟩ := trType_ok C h1
        obtain ⟨b1, b2⟩ := trTypes_ok C h2
        refine ⟨fun c hc => ?_, pa_imp (pa_cons a3 b2 (star_cons a1)) fun _ _ _ q => q⟩
        rcases List.mem_cons.mp hc with z | z
        · rw [z]; exact a2
        · exact b1 c z
theorem cls_pair : ∀ ts : List String, Paired ClsV (ts.map V.ty) (ts.map Value.type)
  | [] => .nil
  | t :: ts => .cons (.ty t) (cls_pair ts)
theorem snd_isi1 {p pos : Pos} {a t : Expr} {x : PF.X} {c : String} (hn : noStar a = true) (hg : isGlobal sc "isinstance" = true) (hf : B.bls.contains ("isinstance" : Str) = true) (ha : Snd XR B cf N k sc a x) (ht : trType B sc t = some c) :
    Snd XR B cf N k sc (.Call (.Name "isinstance" p) [a, t] [] pos) (.isi x [c]) := by
  refine snd_plain rfl (fun _ _ _ => nofun) fun W X C => ?_
  obtain ⟨g1, g2, g3, g4⟩ := isB_ok C hg hf (by decide)
  obtain ⟨a1, _, a2, a3⟩ := trType_ok C ht
  refine pe_imp (pe_callB call_isi g1 g2 boot_isinstance (pa_cons (ha W X C).1 (pa_cons a3 pa_nil (star_cons a1)) (star_cons hn)) g3 g4 (star_cons hn) (star_any (by rw [List.all_cons, a1]; rfl))) fun σ H Q ⟨m, e, S, re, rs, q⟩ => ?_
  have q : Post X.K (RV X.K) m H ((ev cf x e S).bind fun v S => (R.ofO (tyName S v) S).bind fun t S => .ok (.bl ([c].any (isT t))) S) Q (W σ) := by rw [ev] at q; exact q
  refine ⟨m, e, S, re, rs, q.bind fun v S1 z1 m1 H1 e1 rs1 r1 q1 => ?_⟩
  obtain ⟨t', et, q2⟩ := q1.pass
  refine ⟨z1, .ty c, .type t', .type c, isT t' c, rfl, .ty c, tyx_of rs1 r1 et, kit_get (tyName_in et) a2, ?_⟩
  have : [c].any (isT t') = isT t' c := by simp
  rw [this] at q2
  exact q2.get rs1 (.bl _)
theorem snd_isiT {p pos tp : Pos} {j : Nat} {a : Expr} {ts : List Expr} {x : PF.X} {cs : List String} (hn : noStar a = true) (hg : isGlobal sc "isinstance" = true) (hf : B.bls.contains ("isinstance" : Str) = true) (ha : Snd XR B cf N k sc a x) (hl : ts.length ≤ 20) (ht : trL (trType B sc) ts = some cs) :
    Snd XR B cf N k sc (.Call (.Name "isinstance" p) [a, .Tuple ts j tp] [] pos) (.isi x cs) := by
  refine snd_plain rfl (fun _ _ _ => nofun) fun W X C => ?_
  obtain ⟨g1, g2, g3, g4⟩ := isB_ok C hg hf (by decide)
  obtain ⟨a2, a3⟩ := trTypes_ok C ht
  refine pe_imp (pe_callB call_isiT g1 g2 boot_isinstance (pa_cons (ha W X C).1 (pa_cons (pe_tup a3) pa_nil) (star_cons hn)) g3 g4 (star_cons hn) rfl) fun σ H Q ⟨m, e, S, re, rs, q⟩ => ?_
  have q : Post X.K (RV X.K) m H ((ev cf x e S).bind fun v S => (R.ofO (tyName S v) S).bind fun t S => .ok (.bl (cs.any (isT t))) S) Q (W σ) := by rw [ev] at q; exact q
  refine ⟨m, e, S, re, rs, q.bind fun v S1 z1 m1 H1 e1 rs1 r1 q1 => ?_⟩
  obtain ⟨t', et, q2⟩ := q1.pass
  have hcs : cs.length = ts.length := trL_length ht
  refine ⟨by rw [List.length_map, sizeLine_eq]; omega, fun tp hp => ?_⟩
  have ex : Ext m1 H1 m1 (upd H1 tp (.tup (cs.map V.ty))) := Ext.laid hp
  refine ⟨z1, tp, cs.map V.ty, .type t', cs.map Value.type, cs.any (isT t'), rfl, upd_same, cls_pair cs, tyx_of (rs1.laid hp) (r1.up ex) et, kit_any (tyName_in et) a2, ?_⟩
  exact q2 _ m1 _ ex (rs1.laid hp) (.bl _)
/-! ### methods -/
theorem tyV_of {K : PySem.W.Frag} {m : Mp} {H : Hp} {S : Store} {v : PV} {x : V} {b : Mth} (rs : Rel K S m H) (r : RV K m H v x) (e : mthIs b S v = true) : tyV K (mthT b) x H := by
  unfold mthIs at e
  have e : tyName S v = some (mthT b) := by simpa using e
  cases r with
  | non => have e : some "NoneType" = some (mthT b) := e; cases b <;> exact absurd e (by decide)
  | bl _ => have e : some "bool" = some (mthT b) := e; cases b <;> exact absurd e (by decide)
  | int _ => have e : some "int" = some (mthT b) := e; cases b <;> exact absurd e (by decide)
  | str z _ => exact (Option.some.inj (show some "str" = some (mthT b) from e)).symm
  | tup hl h r => have e : some "tuple" = some (mthT b) := e; cases b <;> exact absurd e (by decide)
  | lv hl n h r => exact .inl ⟨(Option.some.inj e).symm, _, .of h⟩
  | fz hl h r => cases e
  | @loc n p h =>
    rw [tyName] at e
    cases g : S[n]? with
    | none => rw [g] at e; cases e
    | some o =>
      rw [g] at e
      have ro := rs.at g h
      cases o with
      | lst xs => obtain ⟨_, vs, g1, _⟩ := ro; exact .inl ⟨(Option.some.inj e).symm, _, .of g1⟩
      | dic kvs => obtain ⟨vs, g1, _⟩ := ro; exact .inr (.inr (.inl ⟨(Option.some.inj e).symm, .inl ⟨_, g1⟩⟩))
      | ins c fs => cases e
  | dv hl n h r => exact .inr (.inr (.inl ⟨(Option.some.inj e).symm, .inl ⟨_, h⟩⟩))
  | iv hl n h hC r => cases e
theorem mth_q {K : PySem.W.Frag} {b : Mth} {o : PF.X} {xs : List PF.X} {m : Mp} {e : Env} {S : Store} {H : Hp} {Q : VK} {w : WP} (q : Post K (RV K) m H (ev cf (.mth b o xs) e S) Q w) :
    Post K (RV K) m H ((ev cf o e S).bind fun v S => if mthIs b S v then (evs cf xs e S).bind fun vs S => mthV b S v vs else .bad) Q w := by rw [ev] at q; exact q
theorem mth_core {b : Mth} {o : PF.X} {xs : List PF.X} {σ : St} {H : Hp} {Q : VK} (h : can X.K W (ev cf (.mth b o xs)) σ H Q) : tBM X.K (mthT b) (rMth X.K (mthV b)) (can X.K W (ev cf o)) (canA X.K W (evs cf xs)) σ H Q := by
  obtain ⟨m, e, S, re, rs, q⟩ := h
  refine ⟨m, e, S, re, rs, (mth_q q).bind fun v S1 z1 m1 H1 e1 rs1 r1 q1 => ?_⟩
  by_cases ht : mthIs b S1 v = true
  · rw [if_pos ht] at q1
    refine ⟨tyV_of rs1 r1 ht, m1, e, S1, re.up e1, rs1, q1.bind fun vs S2 z2 m2 H2 e2 rs2 r2 q2 => ?_⟩
    exact ⟨m2, S2, v, vs, rs2, r1.up e2, r2, Post.noexc (fun _ _ _ => mthV_noexc _ _ _) q2⟩
  · rw [if_neg ht] at q1; exact q1.elim
theorem mth_core0 {b : Mth} {o : PF.X} {σ : St} {H : Hp} {Q : VK} (h : can X.K W (ev cf (.mth b o [])) σ H Q) : tBM0 X.K (mthT b) (rMth X.K (mthV b)) (can X.K W (ev cf o)) σ H Q := by
  obtain ⟨m, e, S, re, rs, q⟩ := h
  refine ⟨m, e, S, re, rs, (mth_q q).bind fun v S1 z1 m1 H1 e1 rs1 r1 q1 => ?_⟩
  by_cases ht : mthIs b S1 v = true
  · rw [if_pos ht] at q1
    refine ⟨tyV_of rs1 r1 ht, m1, S1, v, [], rs1, r1, .nil, Post.noexc (fun _ _ _ => mthV_noexc _ _ _) q1⟩
  · rw [if_neg ht] at q1; exact q1.elim
theorem few_ok {env : PySem.Env} {cpos : Pos} {es : List Expr} (h1 : es.all noStar = true) (h2 : es.length < 20) : ((backTo cpos (starEach es env)).all (fun x => !x.1) && (backToKw cpos (keywordEach [] env)).all (fun x => x.1.isSome)
      && decide (es.length + ([] : List Keyword).length + (if ([] : List Keyword).isEmpty then 0 else 1) < 30)) = true := by
  rw [star_all h1]
  have : decide (es.length + ([] : List Keyword).length + (if ([] : List Keyword).isEmpty then 0 else 1) < 30) = true := decide_eq_true (by simp; omega)
  rw [this]
  rfl
theorem snd_mth {o : Expr} {m : Str} {apos cpos : Pos} {es : List Expr} {x : PF.X} {xs : List PF.X} {b : Mth} (h1 : plainBase o = true) (h2 : es.all noStar = true) (h3 : (apos.endLine == cpos.line) = true) (h4 : es.length < 20) (hb : mthOf m es.length = some b)
    (ho : Snd XR B cf N k sc o x) (h : SndL XR B cf N k sc es xs) : Snd XR B cf N k sc (.Call (.Attribute o m apos) es [] cpos) (.mth b x xs) := by
  refine snd_plain rfl (fun _ _ _ => nofun) fun W X C => ?_
  cases es with
  | nil =>
    cases h
    have via : ∀ {T id : String}, PlainAttrs T → Slot T m id → typeOf (.builtin id) = pure (.type "method_descriptor") → MtR X id (rMth X.K (mthV b)) → T = mthT b → PE X (.Call (.Attribute o m apos) [] [] cpos) (can X.K W (ev cf (.mth b x []))) := by
      intro T id pa sl ty mt e
      subst e
      exact pe_imp (pe_bm0 pa sl ty mt (ho W X C).1 (base_plain h1 m) h3) fun σ H Q q => mth_core0 q
    unfold mthOf at hb
    by_cases e : m = ("append" : Str)
    · rw [if_pos e] at hb; obtain ⟨z, _⟩ := ite_some hb; cases z
    rw [if_neg e] at hb; clear e
    by_cases e : m = ("extend" : Str)
    · rw [if_pos e] at hb; obtain ⟨z, _⟩ := ite_some hb; cases z
    rw [if_neg e] at hb; clear e
    by_cases e : m = ("pop" : Str)
    · rw [if_pos e, if_pos (show ([] : List Expr).length = 0 from rfl)] at hb
      subst e
      cases hb
      exact via PySem.F.plainAttrs_list PySem.F.slot_list_pop PySem.F.type_list_pop mb_pop0 rfl
    rw [if_neg e] at hb; clear e
    by_cases e : m = ("get" : Str)
    · rw [if_pos e, if_neg (by decide), if_neg (by decide)] at hb; cases hb
    rw [if_neg e] at hb; clear e
    by_cases e : m = ("join" : Str)
    · rw [if_pos e] at hb; obtain ⟨z, _⟩ := ite_some hb; cases z
    rw [if_neg e] at hb; clear e
    by_cases e : m = ("partition" : Str)
    · rw [if_pos e] at hb; obtain ⟨z, _⟩ := ite_some hb; cases z
    rw [if_neg e] at hb; clear e
    by_cases e : m = ("count" : Str)
    · rw [if_pos e] at hb; obtain ⟨z, _⟩ := ite_some hb; cases z
    rw [if_neg e] at hb; clear e
    by_cases e : m = ("split" : Str)
    · rw [if_pos e] at hb; obtain ⟨z, _⟩ := ite_some hb; cases z
    rw [if_neg e] at hb; clear e
    by_cases e : m = ("clear" : Str)
    · rw [if_pos e, if_pos (show ([] : List Expr).length = 0 from rfl)] at hb
      subst e
      cases hb
      exact via PySem.F.plainAttrs_dict PySem.F.slot_dict_clear PySem.F.type_dict_clear mb_clearD rfl
    rw [if_neg e] at hb; clear e
    cases hb
  | cons a as =>
    have h2' := h2
    rw [List.all_cons, Bool.and_eq_true] at h2'
    have via : ∀ {T id : String}, PlainAttrs T → Slot T m id → typeOf (.builtin id) = pure (.type "method_descriptor") → MtR X id (rMth X.K (mthV b)) → T = mthT b → PE X (.Call (.Attribute o m apos) (a :: as) [] cpos) (can X.K W (ev cf (.mth b x xs))) := by
      intro T id pa sl ty mt e
      subst e
      exact pe_imp (pe_bm pa sl ty mt (ho W X C).1 (pa_of C h h2) (base_plain h1 m) (few_ok h2 h4) h3 (star_cons h2'.1) (star_any h2'.2)) fun σ H Q q => mth_core q
    unfold mthOf at hb
    by_cases e : m = ("append" : Str)
    · rw [if_pos e] at hb; obtain ⟨_, hb⟩ := ite_some hb; subst e; cases hb; exact via PySem.F.plainAttrs_list PySem.F.slot_list_append PySem.F.type_list_append mb_append rfl
    rw [if_neg e] at hb; clear e
    by_cases e : m = ("extend" : Str)
    · rw [if_pos e] at hb; obtain ⟨_, hb⟩ := ite_some hb; subst e; cases hb; exact via PySem.F.plainAttrs_list PySem.F.slot_list_extend PySem.F.type_list_extend mb_extend rfl
    rw [if_neg e] at hb; clear e
    by_cases e : m = ("pop" : Str)
    · rw [if_pos e, if_neg (by simp)] at hb
      obtain ⟨_, hb⟩ := ite_some hb
      subst e
      cases hb
      exact via PySem.F.plainAttrs_list PySem.F.slot_list_pop PySem.F.type_list_pop mb_pop1 rfl
    rw [if_neg e] at hb; clear e
    by_cases e : m = ("get" : Str)
    · rw [if_pos e] at hb
      subst e
      by_cases e1 : (a :: as).length = 1
      · rw [if_pos e1] at hb; cases hb; exact via PySem.F.plainAttrs_dict PySem.F.slot_dict_get PySem.F.type_dict_get (mb_get1 C.hu) rfl
      · rw [if_neg e1] at hb; obtain ⟨_, hb⟩ := ite_some hb; cases hb; exact via PySem.F.plainAttrs_dict PySem.F.slot_dict_get PySem.F.type_dict_get (mb_get2 C.hu) rfl
    rw [if_neg e] at hb; clear e
    by_cases e : m = ("join" : Str)
    · rw [if_pos e] at hb; obtain ⟨_, hb⟩ := ite_some hb; subst e; cases hb; exact via PySem.F.plainAttrs_str PySem.F.slot_str_join PySem.F.type_str_join mb_join rfl
    rw [if_neg e] at hb; clear e
    by_cases e : m = ("partition" : Str)
    · rw [if_pos e] at hb; obtain ⟨_, hb⟩ := ite_some hb; subst e; cases hb; exact via PySem.F.plainAttrs_str PySem.F.slot_str_partition PySem.F.type_str_partition mb_partition rfl
    rw [if_neg e] at hb; clear e
    by_cases e : m = ("count" : Str)
    · rw [if_pos e] at hb; obtain ⟨_, hb⟩ := ite_some hb; subst e; cases hb; exact via PySem.F.plainAttrs_str PySem.F.slot_str_count PySem.F.type_str_count mb_count rfl
    rw [if_neg e] at hb; clear e
    by_cases e : m = ("split" : Str)
    · rw [if_pos e] at hb; obtain ⟨_, hb⟩ := ite_some hb; subst e; cases hb; exact via PySem.F.plainAttrs_str PySem.F.slot_str_split PySem.F.type_str_split mb_split rfl
    rw [if_neg e] at hb; clear e
    by_cases e : m = ("clear" : Str)
    · rw [if_pos e] at hb; obtain ⟨z, _⟩ := ite_some hb; simp at z
    rw [if_neg e] at hb; clear e
    cases hb
end
end L2.PF

set_option Elab.async false
set_option linter.all false
set_option maxRecDepth 100000
set_option maxHeartbeats 4000000
/-! PFI: what a for walks. -/
namespace PySem
open Sem (wp)
open AutoSeq1 (wpAny_loadPart')
theorem meets_enumerate_newT (l : Addr) (items : Array Value) (n : Nat) (dct : Option Addr) (sl : Array (Option Value)) :
    Meets (Builtin.«enumerate.__new__» ⟨[.type "enumerate", .ref l], []⟩) (fun _ R s => s.heap.get? l = some { cls := .type "tuple", dict := dct, data := .seq items n, slots := sl } ∧
      R (.ok (.ret (.ref (s.heap.push { cls := .type "tuple_iterator", data := .fields #[.ref l, .int 0 0] }).objs.size)))
        { s with heap := (s.heap.push { cls := .type "tuple_iterator", data := .fields #[.ref l, .int 0 0] }).push { cls := .type "enumerate", data := .fields #[.none, .bool false, .ref s.heap.objs.size, rawInt 0, .none, .none] } }) :=
  .of_wp fun prog w A R s h => by
    obtain ⟨hp, g, d, tk, os⟩ := s; obtain ⟨hl, h⟩ := h
    have hsub := sub_enumerate
    have hL : Heap.IsTuple (Shared.heap ⟨hp, g, d, tk, os⟩) l items := ⟨_, hl, rfl, n, rfl⟩
    wp_walk using wpAny_loadPart' hl
    refine wpAny_stack_any fun st => wpAny_pure ?_
    split
    · rename_i c _ _ _ _ _
      cases (c == Value.type "enumerate")
      · wp_walk using wpAny_loadPart' hl, wpAny_pyIter_tuple hL
        exact ⟨_, rfl, h⟩
      · wp_walk using wpAny_loadPart' hl, wpAny_pyIter_tuple hL
        exact ⟨_, rfl, h⟩
    · wp_walk using wpAny_loadPart' hl, wpAny_pyIter_tuple hL
      exact ⟨_, rfl, h⟩
section
variable {prog : Program} {w : World} {A : Around} {E : Value → Shared → Prop} {s : Shared}
theorem call_enumerate_tuple {l : Addr} {items : Array Value} {Q : Value → Shared → Prop} (hL : s.heap.IsTuple l items)
    (h : ∀ h', IsEnum h' (s.heap.objs.size + 1) s.heap.objs.size 0 .none → h'.IsTupleIter s.heap.objs.size l 0 → h'.objs.size = s.heap.objs.size + 2 →
      (∀ b o, s.heap.get? b = some o → h'.get? b = some o) → Q (.ref (s.heap.objs.size + 1)) { s with heap := h' }) :
    wpAny (model prog w) A (call (.type "enumerate") [.ref l]) Q E s := by
  obtain ⟨⟨c, dct, dt, sl⟩, hl, hc, n, hd⟩ := hL
  replace hc : c = .type "tuple" := hc
  replace hd : dt = .seq items n := hd
  subst hc hd
  refine callType_new F.called_enumerate (by decide) (F.typeCall_enumerate_1 _) (F.newCall_enumerate_1 _) (fun obj => F.args_object_init_2 obj _) F.entry_enumerate_new
    (meets_enumerate_newT l items n dct sl) ⟨hl, ?_⟩
  have hz : (s.heap.push { cls := .type "tuple_iterator", data := .fields #[.ref l, .int 0 0] }).objs.size = s.heap.objs.size + 1 := Heap.size_push ..
  show _ ∧ _
  rw [hz]
  have he : IsEnum ((s.heap.push { cls := .type "tuple_iterator", data := .fields #[.ref l, .int 0 0] }).push
      { cls := .type "enumerate", data := .fields #[.none, .bool false, .ref s.heap.objs.size, rawInt 0, .none, .none] }) (s.heap.objs.size + 1) s.heap.objs.size 0 .none := by
    have := Heap.get?_push_size (s.heap.push { cls := .type "tuple_iterator", data := .fields #[.ref l, .int 0 0] })
      (o := { cls := .type "enumerate", data := .fields #[.none, .bool false, .ref s.heap.objs.size, rawInt 0, .none, .none] }) rfl
    rw [hz] at this; exact this
  refine ⟨⟨_, he, rfl⟩, h _ he ⟨_, Heap.get?_push_of_some _ (Heap.get?_push_size _ rfl), rfl, rfl⟩ (by rw [Heap.size_push, hz]) fun b o x => Heap.get?_push_of_some _ (Heap.get?_push_of_some _ x)⟩
end
end PySem
namespace L2.PF
open PySem PySem.Spec PyProof.Rows
/-! ### enumerate(tuple) -/
def IteT (K : PySem.W.Frag) (a : Addr) : It :=
  ⟨fun i H => ∃ (xs : List V) (x : V), SqT K H a xs ∧ xs[i]? = some x, fun i H v H' => ∃ T x, v = .ref T ∧ H T = none ∧ H' = upd H T (.tup [.int (i : Nat), x]) ∧ ∀ xs, SqT K H a xs → xs[i]? = some x, fun i H => ∃ xs : List V, SqT K H a xs ∧ xs.length ≤ i⟩
theorem turn_enumT {P : Program} {w : World} {K : PySem.W.Frag} {elts : List Expr} {kk : Nat} {tpos : Pos} (a e it : Addr) (hai : a ≠ it) :
    Turn P w K (.Tuple elts kk tpos) (IteT K a) [e, it] e (fun i h => (∃ old, IsEnum h e it ((i : Nat) : Int) old) ∧ h.IsTupleIter it a i ∧ e ≠ it ∧ e ≠ a) where
  mem := by simp
  obj := fun i h st b hb => by
    obtain ⟨⟨old, he⟩, ⟨o, ho, hc, hd⟩, _⟩ := st
    have e' : b = e ∨ b = it := by simpa using hb
    rcases e' with z | z
    · rw [z]; exact ⟨_, he, fun v q => nomatch q⟩
    · rw [z]; exact ⟨o, ho, fun v q => by rw [hd] at q; cases q⟩
  keep := fun i h h' st k => let ⟨⟨old, he⟩, hi, hne⟩ := st; ⟨⟨old, k e (by simp) _ he⟩, hi.at fun o q => k it (by simp) o q, hne⟩
  item := by
    intro X hP hw hK hc i pins s σ H E I hf st hg
    subst hP hw hK
    obtain ⟨⟨old, he⟩, hit, hne, hea⟩ := st
    obtain ⟨xs, x, hq, hx⟩ := hg
    obtain ⟨its, rv, p, hz⟩ := I.tuple hq
    obtain ⟨u, hu, ru⟩ := rv.get hx
    have hel : e < s.heap.objs.size := Heap.lt_size he
    have hil : it < s.heap.objs.size := by obtain ⟨_, q, _⟩ := hit; exact Heap.lt_size q
    have hlt : i < its.toArray.size := by
      have := (List.getElem?_eq_some_iff.mp hu).1
      simpa using this
    refine wpAny_pyNext_enum_itemD (Draws.tuple (A := X.A.in1) (by first | exact I.ok.hd hc | (rw [show X.A.in1.handled = X.A.handled from rfl]; exact I.ok.hd hc)) it a hai its.toArray) he ⟨hit, (show s.heap.IsTuple a its.toArray from p)⟩ hlt hne (by simp [hne, hea]) fun x' h' tk hx' ho hit' hT hsz hk => ?_
    have ex : x' = u := by
      have h1 : its.toArray[i]? = some x' := hx'
      have h2 : its.toArray[i]? = some u := by simpa using hu
      rw [h1] at h2
      exact Option.some.inj h2
    subst ex
    refine ⟨_, rfl, wpAny_letOwnedTupleGo_enum (s := { s with heap := h', toks := tk + 1 }) ho fun h'' he' sb => ?_⟩
    have hT2 : h''.get? s.heap.objs.size = some { cls := .type "tuple", data := .seq #[.int i tk, x'] } := (sb.2 _ (Nat.ne_of_gt hel)).trans hT
    have new : ObjOk X.prog X.w (upd H s.heap.objs.size (.tup [.int (i : Nat), x])) h'' s.heap.objs.size (.tup [.int (i : Nat), x]) :=
      ⟨by show 2 ≤ sizeLine; decide, [.int i tk, x'], .cons ⟨_, rfl⟩ (.cons ru .nil), ⟨_, hT2, rfl, _, rfl⟩⟩
    have I1 : Inv X pins σ (upd H s.heap.objs.size (.tup [.int (i : Nat), x])) { s with heap := h'', toks := tk + 1 } :=
      I.turnedNew (ch := [e, it]) (fun b ob hb q => (sb.2 b (fun z => hb (by simp [z]))).trans (hk b ob (fun z => hb (by simp [z])) (fun z => hb (by simp [z])) q)) hf (Nat.le_refl _) new
    refine ⟨.ref s.heap.objs.size, _, I1, rfl, ⟨_, x, rfl, I.hok.fresh (Nat.le_refl _), rfl, fun ys hy => by rw [I.tuple_inj hy hq]; exact hx⟩, ⟨⟨x', ?_⟩, hit'.1.at fun o q => (sb.2 it (Ne.symm hne)).trans q, hne, hea⟩, fun b hb => ?_⟩
    · have e1 : ((i + 1 : Nat) : Int) = (i : Int) + 1 := by omega
      rw [e1]; exact he'
    · have hb' : b < s.heap.objs.size := by
        have e' : b = e ∨ b = it := by simpa using hb
        rcases e' with z | z
        · rw [z]; exact hel
        · rw [z]; exact hil
      rw [upd_ne (Nat.ne_of_lt hb')]
      exact (hf b hb).1
  done := by
    intro X hP hw hK hc i pins s σ H E I hf st hg
    subst hP hw hK
    obtain ⟨⟨old, he⟩, hit, hne, hea⟩ := st
    obtain ⟨xs, hq, hx⟩ := hg
    obtain ⟨its, rv, p, hz⟩ := I.tuple hq
    obtain ⟨f0, f1, f2, f3, f4, f5⟩ := hf it (by simp)
    have hl := rv.length
    have hsz : its.toArray.size ≤ i := by simp; omega
    have hh : X.A.in1.handled = none := I.ok.hd hc
    have hT : s.TypeIs (.ref e) "enumerate" := ⟨_, he, rfl⟩
    unfold pyNext
    refine wpAny_bind (wpAny_attempt (wpAny_callSpecial?_slot (name := Str.ofString "__next__") hT F.slot_enumerate_next
      (wpAny_call_entry F.slot_enumerate_next hT F.entry_enumerate_next ?_ (F.args_enumerate_next_1 _))))
    show wpAny _ _ (field (.ref e) 2 >>= _) _ _ _
    refine wpAny_bind (wpAny_field he rfl (x := .ref it) rfl ?_)
    refine wpAny_bind (wpAny_nextOf_tuple_end hh hit (show s.heap.IsTuple a its.toArray from p) (by simp; omega) fun h' x he' hx' => ?_)
    obtain ⟨o, ho, hc⟩ := hx'
    refine wpAny_bind (wpAny_isInstance (T := "StopIteration") (b := true) ⟨o, ho, hc⟩ isSubtype_stop ?_)
    exact wpAny_pure ⟨rfl, I.turned (t' := s.toks) (fun b o hb q => he' b o hb q) f0 f1 f3 f4 f5⟩
  self := fun A i s Q E st h => let ⟨⟨_, he⟩, _⟩ := st; wpAny_pyIter_enum he h
end L2.PF

set_option Elab.async false
set_option linter.all false
set_option maxRecDepth 100000
set_option maxHeartbeats 4000000
/-! PFJ: what a for walks, in the text; comprehensions. -/
namespace L2.PF
open PySem PySem.Spec PyProof.Rows
/-- enumerate, of a list or of a tuple -/
def iEnumA (K : PySem.W.Frag) (ta : TA) : TI := fun σ H R => ta σ H fun vs H1 => ∃ a, vs = [.ref a] ∧ ((∃ xs, SqL K H1 a xs ∧ R (Ite K a) H1) ∨ ∃ xs, SqT K H1 a xs ∧ R (IteT K a) H1)
theorem pi_enumA {X : Cx} {e : Expr} {ta : TA} {p pos tpos : Pos} {elts : List Expr} {kk : Nat} (hg : Gl X "enumerate") (hm : X.mg "enumerate" = none) (ha : PA X [e] ta) (hs : starEach [e] X.env = [(false, eval e X.env)]) :
    PI X (.Tuple elts kk tpos) (.Call (.Name "enumerate" p) [e] [] pos) (iEnumA X.K ta) := by
  refine ⟨fun pins s σ H R I h => ?_⟩
  refine Call_ (ld_blt I hg hm boot_enumerate (PyProof.Rows.callWith_type1 (thn (ha.run pos pins s σ H _ I h) fun us s1 ⟨vs, H1, I1, r1, q1⟩ => ?_) hs rfl))
  obtain ⟨a, ex, q1⟩ := q1
  subst ex
  cases r1 with
  | cons r rr =>
    cases rr
    cases r
    have low : ∀ b, b ∈ [s1.heap.objs.size + 1, s1.heap.objs.size] → s1.heap.objs.size ≤ b := fun b hb => by
      have e' : b = s1.heap.objs.size + 1 ∨ b = s1.heap.objs.size := by simpa using hb
      rcases e' with z | z
      · rw [z]; exact Nat.le_add_right _ _
      · rw [z]; exact Nat.le_refl _
    rcases q1 with ⟨xs, hq, q⟩ | ⟨xs, hq, q⟩
    · obtain ⟨its, rv, p', hz⟩ := I1.list hq
      refine call_enumerate_list p'.isList fun h' he hit hsz hk => wpAny_pyIter_enum he ?_
      have I2 : Inv X pins σ H1 { s1 with heap := h' } := I1.kept (t' := s1.toks) hk
      exact ⟨s1.heap.objs.size + 1, [s1.heap.objs.size + 1, s1.heap.objs.size], _, _, H1, rfl, I2, turn_enum a (s1.heap.objs.size + 1) s1.heap.objs.size, ⟨⟨.none, he⟩, hit, Nat.succ_ne_self _⟩, fun b hb => I1.fpOk (low b hb) (I1.hok.fresh (low b hb)), q⟩
    · obtain ⟨its, rv, p', hz⟩ := I1.tuple hq
      obtain ⟨ot, hot, _⟩ := id p'
      have hlt := Heap.lt_size hot
      refine PySem.call_enumerate_tuple (show s1.heap.IsTuple a its.toArray from p') fun h' he hit hsz hk => wpAny_pyIter_enum he ?_
      have I2 : Inv X pins σ H1 { s1 with heap := h' } := I1.kept (t' := s1.toks) hk
      exact ⟨s1.heap.objs.size + 1, [s1.heap.objs.size + 1, s1.heap.objs.size], _, _, H1, rfl, I2, turn_enumT a (s1.heap.objs.size + 1) s1.heap.objs.size (Nat.ne_of_lt hlt), ⟨⟨.none, he⟩, hit, Nat.succ_ne_self _, Ne.symm (Nat.ne_of_lt (Nat.lt_succ_of_lt hlt))⟩, fun b hb => I1.fpOk (low b hb) (I1.hok.fresh (low b hb)), q⟩
/-- a list, a tuple, a text -/
def iAny (K : PySem.W.Frag) (tl : TE) : TI := fun σ H R => tl σ H fun x H1 => (∃ a, x = .ref a ∧ (∃ xs, SqL K H1 a xs) ∧ R (Itl K a) H1) ∨ (∃ a, x = .ref a ∧ (∃ xs, SqT K H1 a xs) ∧ R (Itt K a) H1) ∨ ∃ z, x = .str z ∧ R (Its z) H1
theorem pi_any {X : Cx} {tg l : Expr} {tl : TE} (hl : PE X l tl) : PI X tg l (iAny X.K tl) := by
  refine ⟨fun pins s σ H R I h => ?_⟩
  refine thn (hl.run pins s σ H _ I h) fun v s1 ⟨x, H1, I1, r1, q1⟩ => ?_
  have one : ∀ b, b ∈ [s1.heap.objs.size] → FpOk X pins H1 b := fun b hb => by
    have e : b = s1.heap.objs.size := by simpa using hb
    subst e
    exact I1.fpOk (Nat.le_refl _) (I1.hok.fresh (Nat.le_refl _))
  rcases q1 with ⟨a, e, ⟨xs, hq⟩, q⟩ | ⟨a, e, ⟨xs, hq⟩, q⟩ | ⟨z, e, q⟩
  · subst e
    cases r1
    obtain ⟨its, rv, p, hz⟩ := I1.list hq
    refine wpAny_pyIter_list p.isList ?_
    exact ⟨s1.heap.objs.size, [s1.heap.objs.size], _, _, H1, rfl, I1.kept (t' := s1.toks) fun b o e => Heap.get?_push_of_some _ e, turn_list a _, ⟨_, Heap.get?_push_size _ rfl, rfl, rfl⟩, one, q⟩
  · subst e
    cases r1
    obtain ⟨its, rv, p, hz⟩ := I1.tuple hq
    refine wpAny_pyIter_tuple (show s1.heap.IsTuple a its.toArray from p) ?_
    exact ⟨s1.heap.objs.size, [s1.heap.objs.size], _, _, H1, rfl, I1.kept (t' := s1.toks) fun b o e => Heap.get?_push_of_some _ e, turn_tuple a _, ⟨_, Heap.get?_push_size _ rfl, rfl, rfl⟩, one, q⟩
  · subst e
    obtain ⟨t, rfl⟩ := r1
    cases ha : z.cps.all (· < 128)
    · exact wpAny_pyIter_wide ha (pi_one (tk := s1.toks) I1 _ (turn_str _ z t "str_iterator" (.inr rfl)) ⟨_, Heap.get?_push_size _ rfl, rfl, rfl⟩ q)
    · exact wpAny_pyIter_ascii ha (pi_one (tk := s1.toks) I1 _ (turn_str _ z t "str_ascii_iterator" (.inl rfl)) ⟨_, Heap.get?_push_size _ rfl, rfl, rfl⟩ q)
/-- the iterator J yields xs from the heap H0 on, as long as g stands -/
def Walks (K : PySem.W.Frag) (J : It) (g : Grd) (xs : List PV) (m0 : Mp) (H0 : Hp) : Prop :=
  ∀ i m S H, Lat m0 H0 m H → Rel K S m H → grdOk g S = true →
    (∀ x, xs[i]? = some x → J.go i H ∧ ∀ v H', J.yld i H v H' → Ext m H m H' ∧ Rel K S m H' ∧ RV K m H' x v) ∧ (xs[i]? = none → J.stop i H)
def WalksL (K : PySem.W.Frag) : Mp → Hp → List PV × Grd → It → Prop := fun m H p J => p.1.length ≤ sizeLine ∧ Walks K J p.2 p.1 m H
def canI (K : PySem.W.Frag) (W : St → WP) (f : Env → Store → R (List PV × Grd)) : TI := fun σ H Q => ∃ m e S, RE K m H e σ ∧ Rel K S m H ∧ Post K (WalksL K) m H (f e S) Q (W σ)
def evI (cf : Nat → List PV → Store → R PV) (k : IK) (its : List PF.X) (e : Env) (S : Store) : R (List PV × Grd) := (evs cf its e S).bind fun vs S => R.ofO (iterV k S vs) S
theorem pi_imp {X : Cx} {tg e : Expr} {t t' : TI} (h : PI X tg e t) (k : ∀ σ H R, t' σ H R → t σ H R) : PI X tg e t' := ⟨fun pins s σ H R I q => h.run pins s σ H R I (k σ H R q)⟩
section
variable {K : PySem.W.Frag} {m m0 : Mp} {H H0 : Hp} {S S0 : Store}
theorem grd_app {g g' : Grd} (h : grdOk (g ++ g') S = true) : grdOk g S = true ∧ grdOk g' S = true := by
  unfold grdOk at h ⊢
  rw [List.all_append, Bool.and_eq_true] at h
  exact h
/-- how a list or tuple that is walked lies, later -/
theorem seq_atT {xs : List PV} {x : V} (r : RV K m0 H0 (.tup xs) x) : ∃ a, x = .ref a ∧ xs.length ≤ sizeLine ∧ ∀ (g : Grd) m S H, Lat m0 H0 m H → Rel K S m H → grdOk g S = true → ∃ vs, SqT K H a vs ∧ RVs K m H xs vs := by
  cases r with
  | tup hl h t => exact ⟨_, rfl, hl, fun g m S H ex rs' _ => by
      have := RV.mono ex _ _ (.tup hl h t)
      cases this with
      | tup _ h' t' => exact ⟨_, h'.sq, t'⟩⟩
theorem seq_atL (rs : Rel K S0 m0 H0) {v : PV} {x : V} {xs : List PV} (r : RV K m0 H0 v x) (e : litems S0 v = some xs) : ∃ a, x = .ref a ∧ xs.length ≤ sizeLine ∧
    ∀ m S H, Lat m0 H0 m H → Rel K S m H → grdOk (grd S0 v) S = true → ∃ vs, SqL K H a vs ∧ RVs K m H xs vs := by
  cases r with
  | lv hl n h t => rw [litems] at e; cases e; exact ⟨_, rfl, hl, fun m S H ex rs' _ => by
      have := RV.mono ex _ _ (.lv hl n h t)
      cases this with
      | lv _ _ h' t' => exact ⟨_, .of h', t'⟩⟩
  | fz hl h t => rw [litems] at e; cases e; exact ⟨_, rfl, hl, fun m S H ex rs' _ => by
      have := RV.mono ex _ _ (.fz hl h t)
      cases this with
      | fz _ h' t' => exact ⟨_, h'.sq, t'⟩⟩
  | @loc n a h =>
    rw [litems] at e
    cases q : S0[n]? with
    | none => rw [q] at e; cases e
    | some o =>
      rw [q] at e
      cases o with
      | lst ys =>
        cases e
        have ro := rs.at q h
        refine ⟨a, rfl, ro.1, fun m S H ex rs' g => ?_⟩
        rw [grd, q] at g
        have g : S[n]? = some (.lst xs) := by simpa [grdOk] using g
        obtain ⟨_, vs, h1, h2⟩ := rs'.at g (ex.get h)
        exact ⟨vs, .of h1, h2⟩
      | dic kvs => cases e
      | ins c fs => cases e
  | _ => rw [litems] at e <;> first | cases e | (intros; exact fun z => nomatch z)
theorem items_cases {v : PV} {xs : List PV} (e : items S v = some xs) : v = .tup xs ∨ litems S v = some xs := by
  cases v with
  | tup ys => cases e; exact .inl rfl
  | _ => exact .inr e
theorem seq_at (rs : Rel K S0 m0 H0) {v : PV} {x : V} {xs : List PV} (r : RV K m0 H0 v x) (e : items S0 v = some xs) : ∃ a, x = .ref a ∧ xs.length ≤ sizeLine ∧
    ((∀ m S H, Lat m0 H0 m H → Rel K S m H → grdOk (grd S0 v) S = true → ∃ vs, SqL K H a vs ∧ RVs K m H xs vs) ∨ (∀ m S H, Lat m0 H0 m H → Rel K S m H → grdOk (grd S0 v) S = true → ∃ vs, SqT K H a vs ∧ RVs K m H xs vs)) := by
  rcases items_cases e with h | h
  · subst h
    obtain ⟨a, e1, hl, h⟩ := seq_atT r
    exact ⟨a, e1, hl, .inr (h _)⟩
  · obtain ⟨a, e1, hl, h⟩ := seq_atL rs r h
    exact ⟨a, e1, hl, .inl h⟩
theorem RVs.none {xs : List PV} {vs : List V} {i : Nat} (r : RVs K m H xs vs) (h : xs[i]? = none) : vs.length ≤ i := by
  rw [← r.length]
  exact List.getElem?_eq_none_iff.mp h
theorem walks_list {a : Addr} {g : Grd} {xs : List PV} (h : ∀ m S H, Lat m0 H0 m H → Rel K S m H → grdOk g S = true → ∃ vs, SqL K H a vs ∧ RVs K m H xs vs) : Walks K (Itl K a) g xs m0 H0 := by
  intro i m S H ex rs g
  obtain ⟨vs, h1, h2⟩ := h m S H ex rs g
  refine ⟨fun x hx => ?_, fun hx => ⟨vs, h1, h2.none hx⟩⟩
  obtain ⟨v, hv, rv⟩ := h2.get hx
  refine ⟨⟨vs, v, h1, hv⟩, fun v' H' y => ?_⟩
  obtain ⟨rfl, y⟩ := y
  have := y vs h1
  rw [hv] at this
  cases this
  exact ⟨Ext.refl, rs, rv⟩
theorem walks_tup {a : Addr} {g : Grd} {xs : List PV} (h : ∀ m S H, Lat m0 H0 m H → Rel K S m H → grdOk g S = true → ∃ vs, SqT K H a vs ∧ RVs K m H xs vs) : Walks K (Itt K a) g xs m0 H0 := by
  intro i m S H ex rs g
  obtain ⟨vs, h1, h2⟩ := h m S H ex rs g
  refine ⟨fun x hx => ?_, fun hx => ⟨vs, h1, h2.none hx⟩⟩
  obtain ⟨v, hv, rv⟩ := h2.get hx
  refine ⟨⟨vs, v, h1, hv⟩, fun v' H' y => ?_⟩
  obtain ⟨rfl, y⟩ := y
  have := y vs h1
  rw [hv] at this
  cases this
  exact ⟨Ext.refl, rs, rv⟩
theorem pair_laid (rs : Rel K S m H) {T : Addr} {x y : PV} {v w : V} (hT : H T = none) (rx : RV K m H x v) (ry : RV K m H y w) :
    Ext m H m (upd H T (.tup [v, w])) ∧ Rel K S m (upd H T (.tup [v, w])) ∧ RV K m (upd H T (.tup [v, w])) (.tup [x, y]) (.ref T) :=
  ⟨Ext.laid hT, rs.laid hT, .tup (by show 2 ≤ sizeLine; rw [sizeLine_eq]; decide) (.inl ⟨rs.out hT, upd_same⟩) (.cons (rx.up (Ext.laid hT)) (.cons (ry.up (Ext.laid hT)) .nil))⟩
theorem enumP_get {xs : List PV} {i : Nat} : (enumP xs)[i]? = (xs[i]?).map fun x => .tup [.int (i : Int), x] := by
  unfold enumP
  rw [List.getElem?_mapIdx]
theorem enumP_length {xs : List PV} : (enumP xs).length = xs.length := by unfold enumP; rw [List.length_mapIdx]
theorem intRow_get {lo : Int} {n i : Nat} : (intRow lo n)[i]? = if i < n then some (.int (lo + i)) else none := by
  unfold intRow
  rw [List.getElem?_map]
  by_cases h : i < n
  · rw [if_pos h, List.getElem?_range h]; rfl
  · rw [if_neg h, List.getElem?_eq_none (by simp; omega)]; rfl
theorem intRow_length {lo : Int} {n : Nat} : (intRow lo n).length = n := by unfold intRow; simp
theorem walks_range {lo : Int} {n : Nat} : Walks K (Itr lo n) [] (intRow lo n) m0 H0 := by
  intro i m S H ex rs _
  rw [intRow_get]
  refine ⟨fun x hx => ?_, fun hx => ?_⟩
  · by_cases h : i < n
    · rw [if_pos h] at hx
      cases hx
      exact ⟨h, fun v H' ⟨e1, e2⟩ => by subst e1 e2; exact ⟨Ext.refl, rs, .int _⟩⟩
    · rw [if_neg h] at hx; cases hx
  · by_cases h : i < n
    · rw [if_pos h] at hx; cases hx
    · exact Nat.le_of_not_lt h
theorem walks_str {z : Str} (hz : StrOk z) : Walks K (Its z) [] (z.cps.toList.map fun c => .str ⟨#[c]⟩) m0 H0 := by
  intro i m S H ex rs _
  rw [List.getElem?_map, Array.getElem?_toList]
  refine ⟨fun x hx => ?_, fun hx => ?_⟩
  · obtain ⟨c, hc, rfl⟩ := map_some hx
    refine ⟨(Array.getElem?_eq_some_iff.mp hc).1, fun v H' ⟨e1, d, e2, e3⟩ => ?_⟩
    subst e1 e3
    rw [hc] at e2
    cases e2
    refine ⟨Ext.refl, rs, .str _ (.one (strOk_iff.mp hz.2 c ?_))⟩
    exact Array.mem_toList_iff.mpr (Array.mem_of_getElem? hc)
  · have : z.cps[i]? = none := by
      cases e : z.cps[i]? with
      | none => rfl
      | some c => rw [e] at hx; cases hx
    exact Array.getElem?_eq_none_iff.mp this
theorem walks_enumL {a : Addr} {g : Grd} {xs : List PV} (h : ∀ m S H, Lat m0 H0 m H → Rel K S m H → grdOk g S = true → ∃ vs, SqL K H a vs ∧ RVs K m H xs vs) : Walks K (Ite K a) g (enumP xs) m0 H0 := by
  intro i m S H ex rs g
  obtain ⟨vs, h1, h2⟩ := h m S H ex rs g
  rw [enumP_get]
  refine ⟨fun x hx => ?_, fun hx => ⟨vs, h1, h2.none (by cases e : xs[i]? with | none => rfl | some y => rw [e] at hx; cases hx)⟩⟩
  obtain ⟨y, hy, rfl⟩ := map_some hx
  obtain ⟨v, hv, rv⟩ := h2.get hy
  refine ⟨⟨vs, v, h1, hv⟩, fun v' H' y => ?_⟩
  obtain ⟨T, w, rfl, hT, rfl, y⟩ := y
  have := y vs h1
  rw [hv] at this
  cases this
  exact pair_laid rs hT (.int _) rv
theorem walks_enumT {a : Addr} {g : Grd} {xs : List PV} (h : ∀ m S H, Lat m0 H0 m H → Rel K S m H → grdOk g S = true → ∃ vs, SqT K H a vs ∧ RVs K m H xs vs) : Walks K (IteT K a) g (enumP xs) m0 H0 := by
  intro i m S H ex rs g
  obtain ⟨vs, h1, h2⟩ := h m S H ex rs g
  rw [enumP_get]
  refine ⟨fun x hx => ?_, fun hx => ⟨vs, h1, h2.none (by cases e : xs[i]? with | none => rfl | some y => rw [e] at hx; cases hx)⟩⟩
  obtain ⟨y, hy, rfl⟩ := map_some hx
  obtain ⟨v, hv, rv⟩ := h2.get hy
  refine ⟨⟨vs, v, h1, hv⟩, fun v' H' y => ?_⟩
  obtain ⟨T, w, rfl, hT, rfl, y⟩ := y
  have := y vs h1
  rw [hv] at this
  cases this
  exact pair_laid rs hT (.int _) rv
theorem zipP_some {xs ys : List PV} {i : Nat} {z : PV} (h : (zipP xs ys)[i]? = some z) : ∃ x y, xs[i]? = some x ∧ ys[i]? = some y ∧ z = .tup [x, y] := by
  unfold zipP at h
  rw [List.getElem?_zipWith] at h
  cases h1 : xs[i]? with
  | none => rw [h1] at h; cases h
  | some x =>
    cases h2 : ys[i]? with
    | none => rw [h1, h2] at h; cases h
    | some y => rw [h1, h2] at h; cases h; exact ⟨x, y, rfl, rfl, rfl⟩
theorem zipP_none {xs ys : List PV} {i : Nat} (h : (zipP xs ys)[i]? = none) : xs[i]? = none ∨ ys[i]? = none := by
  unfold zipP at h
  rw [List.getElem?_zipWith] at h
  cases h1 : xs[i]? with
  | none => exact .inl rfl
  | some x =>
    cases h2 : ys[i]? with
    | none => exact .inr rfl
    | some y => rw [h1, h2] at h; cases h
theorem walks_zipL {a b : Addr} {g g' : Grd} {xs ys : List PV} (h : ∀ m S H, Lat m0 H0 m H → Rel K S m H → grdOk g S = true → ∃ vs, SqL K H a vs ∧ RVs K m H xs vs) (h' : ∀ m S H, Lat m0 H0 m H → Rel K S m H → grdOk g' S = true → ∃ vs, SqL K H b vs ∧ RVs K m H ys vs) :
    Walks K (Itz K a b) (g ++ g') (zipP xs ys) m0 H0 := by
  intro i m S H ex rs g
  obtain ⟨vs, h1, h2⟩ := h m S H ex rs (grd_app g).1
  obtain ⟨ws, h3, h4⟩ := h' m S H ex rs (grd_app g).2
  refine ⟨fun x hx => ?_, fun hx => ⟨vs, ws, h1, h3, (zipP_none hx).imp (fun z => h2.none z) fun z => h4.none z⟩⟩
  obtain ⟨y, z, hy, hz, rfl⟩ := zipP_some hx
  obtain ⟨v, hv, rv⟩ := h2.get hy
  obtain ⟨w, hw, rw'⟩ := h4.get hz
  refine ⟨⟨vs, ws, v, w, h1, h3, hv, hw⟩, fun v' H' y => ?_⟩
  obtain ⟨T, v2, w2, rfl, hT, rfl, y, z⟩ := y
  have e1 := y vs h1
  have e2 := z ws h3
  rw [hv] at e1
  rw [hw] at e2
  cases e1
  cases e2
  exact pair_laid rs hT rv rw'
theorem walks_zipT {a b : Addr} {g g' : Grd} {xs ys : List PV} (h : ∀ m S H, Lat m0 H0 m H → Rel K S m H → grdOk g S = true → ∃ vs, SqT K H a vs ∧ RVs K m H xs vs) (h' : ∀ m S H, Lat m0 H0 m H → Rel K S m H → grdOk g' S = true → ∃ vs, SqT K H b vs ∧ RVs K m H ys vs) :
    Walks K (RZ.ItzT K a b) (g ++ g') (zipP xs ys) m0 H0 := by
  intro i m S H ex rs g
  obtain ⟨vs, h1, h2⟩ := h m S H ex rs (grd_app g).1
  obtain ⟨ws, h3, h4⟩ := h' m S H ex rs (grd_app g).2
  refine ⟨fun x hx => ?_, fun hx => ⟨vs, ws, h1, h3, (zipP_none hx).imp (fun z => h2.none z) fun z => h4.none z⟩⟩
  obtain ⟨y, z, hy, hz, rfl⟩ := zipP_some hx
  obtain ⟨v, hv, rv⟩ := h2.get hy
  obtain ⟨w, hw, rw'⟩ := h4.get hz
  refine ⟨⟨vs, ws, v, w, h1, h3, hv, hw⟩, fun v' H' y => ?_⟩
  obtain ⟨T, v2, w2, rfl, hT, rfl, y, z⟩ := y
  have e1 := y vs h1
  have e2 := z ws h3
  rw [hv] at e1
  rw [hw] at e2
  cases e1
  cases e2
  exact pair_laid rs hT rv rw'
end
section
variable {XR : XRel} {B : Tab} {cf : Nat → List PV → Store → R PV} {N : List Str} {sc : Scope} {k : Nat} {W : St → WP} {X : Cx}
/-- the promise of what is walked -/
def SndI (XR : XRel) (B : Tab) (cf : Nat → List PV → Store → R PV) (N : List Str) (k : Nat) (sc : Scope) (tg iter : Expr) (ik : IK) (its : List PF.X) : Prop :=
  ∀ (W : St → WP) (X : Cx), Cok XR B cf N sc k W X → PI X tg iter (canI X.K W (evI cf ik its))
theorem sndI_seq {tg e : Expr} {x : PF.X} (h : Snd XR B cf N k sc e x) : SndI XR B cf N k sc tg e .seq [x] := by
  intro W X C
  refine pi_imp (pi_any (h W X C).1) fun σ H Q ⟨m, e, S, re, rs, q⟩ => ?_
  have q : Post X.K (WalksL X.K) m H ((ev cf x e S).bind fun v S => R.ofO (iterV .seq S [v]) S) Q (W σ) := by
    unfold evI at q
    rw [evs] at q
    simp only [bind_assoc, evs, R.bind_ok] at q
    exact q
  refine ⟨m, e, S, re, rs, q.bind fun v S1 z1 m1 H1 e1 rs1 r1 q1 => ?_⟩
  obtain ⟨p, ep, q2⟩ := q1.ofO
  have gen : (items S1 v).map (fun xs => (xs, grd S1 v)) = some p → (∃ a, z1 = .ref a ∧ (∃ xs, SqL X.K H1 a xs) ∧ Q (Itl X.K a) H1) ∨ (∃ a, z1 = .ref a ∧ (∃ xs, SqT X.K H1 a xs) ∧ Q (Itt X.K a) H1) ∨ ∃ z, z1 = .str z ∧ Q (Its z) H1 := by
    intro ep
    obtain ⟨xs, ex, rfl⟩ := map_some ep
    have g0 : grdOk (grd S1 v) S1 = true := by
      unfold grdOk grd
      split
      · split <;> simp_all
      · rfl
    obtain ⟨a, rfl, hl, h | h⟩ := seq_at rs1 r1 ex
    · obtain ⟨vs, h1, _⟩ := h m1 S1 H1 Ext.refl.lat rs1 g0
      exact .inl ⟨a, rfl, ⟨vs, h1⟩, q2.get rs1 ⟨hl, walks_list h⟩⟩
    · obtain ⟨vs, h1, _⟩ := h m1 S1 H1 Ext.refl.lat rs1 g0
      exact .inr (.inl ⟨a, rfl, ⟨vs, h1⟩, q2.get rs1 ⟨hl, walks_tup h⟩⟩)
  cases r1 with
  | str z hz =>
    cases (show some (z.cps.toList.map (fun c => PV.str ⟨#[c]⟩), ([] : Grd)) = some p from ep)
    exact .inr (.inr ⟨z, rfl, q2.get rs1 ⟨by rw [List.length_map, ← length_cps]; exact hz.1, walks_str hz⟩⟩)
  | _ => exact gen ep
theorem grd_self {S : Store} {v : PV} : grdOk (grd S v) S = true := by
  unfold grdOk grd
  split
  · split <;> simp_all
  · rfl
theorem sndI_enum {p pos tpos : Pos} {elts : List Expr} {kk : Nat} {e : Expr} {x : PF.X} (hb : isB B sc "enumerate" = true) (hs : noStar e = true) (h : Snd XR B cf N k sc e x) : SndI XR B cf N k sc (.Tuple elts kk tpos) (.Call (.Name "enumerate" p) [e] [] pos) .enum [x] := by
  intro W X C
  unfold isB at hb
  simp only [Bool.and_eq_true, Bool.not_eq_true'] at hb
  obtain ⟨g1, g2, g3, g4⟩ := isB_ok C hb.1.1 hb.1.2 hb.2
  refine pi_imp (pi_enumA g1 g2 (pa_of C (.cons h .nil) (by rw [List.all_cons, hs]; rfl)) (by rw [star_cons hs]; rfl)) fun σ H Q ⟨m, e, S, re, rs, q⟩ => ?_
  refine ⟨m, e, S, re, rs, Post.bind q fun vs S1 z1 m1 H1 e1 rs1 r1 q1 => ?_⟩
  obtain ⟨p, ep, q2⟩ := q1.ofO
  match vs, r1, ep with
  | [], _, ep => cases ep
  | _ :: _ :: _, _, ep => cases ep
  | [v], r1, ep =>
    obtain ⟨z, rfl, rv⟩ := rvs1 r1
    obtain ⟨xs, ex, rfl⟩ := map_some (show (items S1 v).map (fun xs => (enumP xs, grd S1 v)) = some p from ep)
    obtain ⟨a, rfl, hl, h | h⟩ := seq_at rs1 rv ex
    · obtain ⟨vs, h1, _⟩ := h m1 S1 H1 Ext.refl.lat rs1 grd_self
      exact ⟨a, rfl, .inl ⟨vs, h1, q2.get rs1 ⟨by rw [enumP_length]; exact hl, walks_enumL h⟩⟩⟩
    · obtain ⟨vs, h1, _⟩ := h m1 S1 H1 Ext.refl.lat rs1 grd_self
      exact ⟨a, rfl, .inr ⟨vs, h1, q2.get rs1 ⟨by rw [enumP_length]; exact hl, walks_enumT h⟩⟩⟩
theorem small_c {i : Int} (h : small i = true) : -(2 ^ 62) ≤ i ∧ i < 2 ^ 62 := of_decide_eq_true h
theorem sndI_rng1 {tg : Expr} {p pos : Pos} {e : Expr} {x : PF.X} (hb : isB B sc "range" = true) (hs : noStar e = true) (h : Snd XR B cf N k sc e x) : SndI XR B cf N k sc tg (.Call (.Name "range" p) [e] [] pos) .rng1 [x] := by
  intro W X C
  unfold isB at hb
  simp only [Bool.and_eq_true, Bool.not_eq_true'] at hb
  obtain ⟨g1, g2, g3, g4⟩ := isB_ok C hb.1.1 hb.1.2 hb.2
  refine pi_imp (pi_range1 g1 g2 (pa_of C (.cons h .nil) (by rw [List.all_cons, hs]; rfl)) (by rw [star_cons hs]; rfl)) fun σ H Q ⟨m, e, S, re, rs, q⟩ => ?_
  refine ⟨m, e, S, re, rs, Post.bind q fun vs S1 z1 m1 H1 e1 rs1 r1 q1 => ?_⟩
  obtain ⟨p, ep, q2⟩ := q1.ofO
  match vs, r1, ep with
  | [], _, ep => cases ep
  | v :: _ :: _, _, ep => revert ep; cases v <;> exact fun ep => nomatch ep
  | [v], r1, ep =>
    obtain ⟨z, rfl, rv⟩ := rvs1 r1
    cases rv with
    | int j =>
      have ep : (if (small j && decide (j.toNat ≤ sizeLine)) = true then some (intRow 0 j.toNat, ([] : Grd)) else none) = some p := ep
      obtain ⟨hc, ep⟩ := ite_some ep
      cases ep
      rw [Bool.and_eq_true] at hc
      exact ⟨j, rfl, (small_c hc.1).1, (small_c hc.1).2, q2.get rs1 ⟨by rw [intRow_length]; exact of_decide_eq_true hc.2, walks_range⟩⟩
    | _ => cases ep
theorem sndI_rng2 {tg : Expr} {p pos : Pos} {e f : Expr} {x y : PF.X} (hb : isB B sc "range" = true) (hs : noStar e = true) (hs' : noStar f = true) (h : Snd XR B cf N k sc e x) (h' : Snd XR B cf N k sc f y) : SndI XR B cf N k sc tg (.Call (.Name "range" p) [e, f] [] pos) .rng2 [x, y] := by
  intro W X C
  unfold isB at hb
  simp only [Bool.and_eq_true, Bool.not_eq_true'] at hb
  obtain ⟨g1, g2, g3, g4⟩ := isB_ok C hb.1.1 hb.1.2 hb.2
  refine pi_imp (pi_range2 g1 g2 (pa_of C (.cons h (.cons h' .nil)) (by rw [List.all_cons, hs, List.all_cons, hs']; rfl)) (by rw [star_cons hs, star_cons hs']; rfl) (by rw [star_cons hs']; rfl)) fun σ H Q ⟨m, e, S, re, rs, q⟩ => ?_
  refine ⟨m, e, S, re, rs, Post.bind q fun vs S1 z1 m1 H1 e1 rs1 r1 q1 => ?_⟩
  obtain ⟨p, ep, q2⟩ := q1.ofO
  match vs, r1, ep with
  | [], _, ep => cases ep
  | [v], _, ep => revert ep; cases v <;> exact fun ep => nomatch ep
  | v :: u :: _ :: _, _, ep => revert ep; cases v <;> cases u <;> exact fun ep => nomatch ep
  | [v, u], r1, ep =>
    obtain ⟨z, z', rfl, rv, ru⟩ := rvs2 r1
    cases rv with
    | int i =>
      cases ru with
      | int j =>
        have ep : (if (small i && small j && decide ((j - i).toNat ≤ sizeLine)) = true then some (intRow i (j - i).toNat, ([] : Grd)) else none) = some p := ep
        obtain ⟨hc, ep⟩ := ite_some ep
        cases ep
        simp only [Bool.and_eq_true] at hc
        exact ⟨i, j, rfl, ⟨(small_c hc.1.1).1, (small_c hc.1.1).2, (small_c hc.1.2).1, (small_c hc.1.2).2⟩, q2.get rs1 ⟨by rw [intRow_length]; exact of_decide_eq_true hc.2, walks_range⟩⟩
      | _ => cases ep
    | _ => cases ep
theorem zipP_length {xs ys : List PV} : (zipP xs ys).length ≤ xs.length := by unfold zipP; rw [List.length_zipWith]; omega
theorem sndI_zip {p pos tpos : Pos} {elts : List Expr} {kk : Nat} {e f : Expr} {x y : PF.X} (hb : isB B sc "zip" = true) (hs : noStar e = true) (hs' : noStar f = true) (h : Snd XR B cf N k sc e x) (h' : Snd XR B cf N k sc f y) : SndI XR B cf N k sc (.Tuple elts kk tpos) (.Call (.Name "zip" p) [e, f] [] pos) .zip [x, y] := by
  intro W X C
  unfold isB at hb
  simp only [Bool.and_eq_true, Bool.not_eq_true'] at hb
  obtain ⟨g1, g2, g3, g4⟩ := isB_ok C hb.1.1 hb.1.2 hb.2
  refine pi_imp (RZ.pi_zipA g1 g2 (pa_of C (.cons h (.cons h' .nil)) (by rw [List.all_cons, hs, List.all_cons, hs']; rfl)) (star_cons hs) (star_any (by rw [List.all_cons, hs']; rfl))) fun σ H Q ⟨m, e, S, re, rs, q⟩ => ?_
  refine ⟨m, e, S, re, rs, Post.bind q fun vs S1 z1 m1 H1 e1 rs1 r1 q1 => ?_⟩
  obtain ⟨p, ep, q2⟩ := q1.ofO
  match vs, r1, ep with
  | [], _, ep => cases ep
  | [v], _, ep => revert ep; cases v <;> exact fun ep => nomatch ep
  | v :: u :: _ :: _, _, ep => revert ep; cases v <;> cases u <;> exact fun ep => nomatch ep
  | [v, u], r1, ep =>
    obtain ⟨z, z', rfl, rv, ru⟩ := rvs2 r1
    have lists : (match litems S1 v, litems S1 u with
      | some xs, some ys => some (zipP xs ys, grd S1 v ++ grd S1 u)
      | _, _ => none) = some p → ∃ a b xs ys, [z, z'] = [V.ref a, V.ref b] ∧ ((SqL X.K H1 a xs ∧ SqL X.K H1 b ys ∧ Q (Itz X.K a b) H1) ∨ (SqT X.K H1 a xs ∧ SqT X.K H1 b ys ∧ Q (RZ.ItzT X.K a b) H1)) := by
      intro ep
      cases e1 : litems S1 v with
      | none => rw [e1] at ep; cases ep
      | some xs =>
        cases e2 : litems S1 u with
        | none => rw [e1, e2] at ep; cases ep
        | some ys =>
          rw [e1, e2] at ep
          cases ep
          obtain ⟨a, rfl, hl, h⟩ := seq_atL rs1 rv e1
          obtain ⟨b, rfl, hl2, h'⟩ := seq_atL rs1 ru e2
          obtain ⟨vs, h1, _⟩ := h m1 S1 H1 Ext.refl.lat rs1 grd_self
          obtain ⟨ws, h2, _⟩ := h' m1 S1 H1 Ext.refl.lat rs1 grd_self
          exact ⟨a, b, vs, ws, rfl, .inl ⟨h1, h2, q2.get rs1 ⟨Nat.le_trans zipP_length hl, walks_zipL h h'⟩⟩⟩
    cases v with
    | tup xs =>
      cases u with
      | tup ys =>
        cases (show some (zipP xs ys, ([] : Grd)) = some p from ep)
        obtain ⟨a, rfl, hl, h⟩ := seq_atT rv
        obtain ⟨b, rfl, hl2, h'⟩ := seq_atT ru
        obtain ⟨vs, h1, _⟩ := h [] m1 S1 H1 Ext.refl.lat rs1 rfl
        obtain ⟨ws, h2, _⟩ := h' [] m1 S1 H1 Ext.refl.lat rs1 rfl
        exact ⟨a, b, vs, ws, rfl, .inr ⟨h1, h2, q2.get rs1 ⟨Nat.le_trans zipP_length hl, walks_zipT (g := []) (g' := []) (h []) (h' [])⟩⟩⟩
      | _ => exact lists ep
    | _ => exact lists ep
end
end L2.PF

set_option Elab.async false
set_option linter.all false
set_option maxRecDepth 100000
set_option maxHeartbeats 4000000
/-! PFK: targets, comprehensions. -/
namespace L2.PF
open PySem PySem.Spec PyProof.Rows
/-! ### targets -/
/-- the own names of so may be stored -/
def Tok (so : Scope) (X : Cx) : Prop := ∀ x, ownName so x = true → Loc X.env.scope x ∧ (X.fn x = true ∨ X.env.scope.names.lookup x = some .local)
theorem wipe_set {i : Nat} {o : Option V} : ∀ {vs : List Nat} {σ : St}, i ∈ vs → L2.wipe (σ.set i o) vs = L2.wipe σ vs
  | [], _, h => by cases h
  | v :: vs, σ, h => by
    show (L2.wipe (σ.set i o) vs).set v none = (L2.wipe σ vs).set v none
    by_cases e : i ∈ vs
    · rw [wipe_set e]
    · have ev : i = v := by
        rcases List.mem_cons.mp h with z | z
        · exact z
        · exact absurd z e
      subst ev
      have : ∀ (l : List Nat) (τ : St), i ∉ l → L2.wipe (τ.set i o) l = (L2.wipe τ l).set i o := by
        intro l
        induction l with
        | nil => intro τ _; rfl
        | cons a l ih =>
          intro τ hn
          show (L2.wipe (τ.set i o) l).set a none = ((L2.wipe τ l).set a none).set i o
          rw [ih τ (fun z => hn (List.mem_cons_of_mem _ z)), List.set_comm]
          intro z
          exact hn (by rw [z]; exact List.mem_cons_self)
      rw [this vs σ e, List.set_set]
/-- the reading of a target -/
def TgR (K : PySem.W.Frag) (t : Tg) (g : TG) : Prop := ∀ (m : Mp) (H : Hp) (e e' : Env) (σ : St) (x : PV) (v : V) (Q : St → Hp → Prop), RE K m H e σ → RV K m H x v → putT t x e = some e' →
  (∀ σ', RE K m H e' σ' → (∀ vs, tgIn vs t = true → L2.wipe σ' vs = L2.wipe σ vs) → Q σ' H) → g v σ H Q
section
variable {XR : XRel} {B : Tab} {cf : Nat → List PV → Store → R PV} {N : List Str} {sc so : Scope} {k : Nat} {W : St → WP} {X : Cx}
theorem names_each {env : PySem.Env} {f : Str → Option Nat} : ∀ {es : List Expr} {is : List Nat}, trL (fun e => match e with | .Name x _ => f x | _ => none) es = some is →
    (assignEach es env).findIdx? (·.1) = none ∧ (assignEach es env).length = is.length
  | [], is, h => by cases h; exact ⟨rfl, rfl⟩
  | e :: es, is, h => by
    rw [trL] at h
    cases e with
    | Name x p =>
      simp only at h
      cases h1 : f x with
      | none => rw [h1] at h; cases h
      | some i =>
        rw [h1] at h
        simp only at h
        cases h2 : trL (fun e => match e with | .Name x _ => f x | _ => none) es with
        | none => rw [h2] at h; cases h
        | some js =>
          rw [h2] at h
          cases h
          obtain ⟨a, b⟩ := names_each (env := env) h2
          refine ⟨?_, ?_⟩
          · show List.findIdx? (·.1) ((false, assign (.Name x p) env) :: assignEach es env) = none
            rw [List.findIdx?_cons, a]
            rfl
          · show ((false, assign (.Name x p) env) :: assignEach es env).length = _
            rw [List.length_cons, b]; rfl
    | _ => cases h
def gNs : List Nat → TGs
  | [] => gNil
  | i :: is => gCons (gName i) (gNs is)
def tgG (K : PySem.W.Frag) : Tg → TG
  | .n i => gName i
  | .t is => gTup K is.length (gNs is)
theorem gNs_read {K : PySem.W.Frag} : ∀ (is : List Nat) (m : Mp) (H : Hp) (e : Env) (σ : St) (xs : List PV) (vs : List V) (Q : St → Hp → Prop), RE K m H e σ → RVs K m H xs vs → is.length = xs.length →
      (∀ σ', RE K m H ((is.zip xs).foldl (fun e p => e.set p.1 (some p.2)) e) σ' → (∀ ws, (is.all fun i => ws.contains i) = true → L2.wipe σ' ws = L2.wipe σ ws) → Q σ' H) → gNs is vs σ H Q
  | [], m, H, e, σ, xs, vs, Q, re, rv, hl, q => by
    cases xs with
    | nil => cases rv; exact ⟨rfl, q σ re fun _ _ => rfl⟩
    | cons _ _ => cases hl
  | i :: is, m, H, e, σ, xs, vs, Q, re, rv, hl, q => by
    cases rv with
    | nil => cases hl
    | cons r t =>
      refine ⟨_, _, rfl, ?_⟩
      refine gNs_read is m H _ _ _ _ Q (re.set r i) t (by simpa using hl) fun σ' re' hw => q σ' re' fun ws hws => ?_
      rw [List.all_cons, Bool.and_eq_true] at hws
      rw [hw ws hws.2]
      exact wipe_set (by simpa using hws.1)
theorem tgG_read {K : PySem.W.Frag} : ∀ t : Tg, TgR K t (tgG K t)
  | .n i => fun m H e e' σ x v Q re rv hp q => by
    cases (show some (e.set i (some x)) = some e' from hp)
    exact q _ (re.set rv i) fun vs hv => wipe_set (by simpa [tgIn] using hv)
  | .t is => fun m H e e' σ x v Q re rv hp q => by
    cases rv with
    | @tup xs vs a hl ha r =>
      have hp : (if is.length = xs.length then some ((is.zip xs).foldl (fun e p => e.set p.1 (some p.2)) e) else none) = some e' := hp
      obtain ⟨hc, hp⟩ := ite_some hp
      cases hp
      exact ⟨a, vs, rfl, ha.sq, by rw [← r.length]; exact hc.symm, gNs_read is m H e σ xs vs Q re r hc fun σ' re' hw => q σ' re' fun ws hws => hw ws hws⟩
    | _ => cases hp
theorem pgs_of (C : Cok XR B cf N sc k W X) (T : Tok so X) : ∀ {es : List Expr} {is : List Nat}, trL (fun e => match e with | .Name x _ => if ownName so x = true then slotOf N x else none | _ => none) es = some is → PGs X es (gNs is)
  | [], is, h => by
    cases h
    exact pgs_nil
  | e :: es, is, h => by
    rw [trL] at h
    cases e with
    | Name x p =>
      simp only at h
      by_cases ho : ownName so x = true
      · rw [if_pos ho] at h
        cases h1 : slotOf N x with
        | none => rw [h1] at h; cases h
        | some i =>
          rw [h1] at h
          simp only at h
          cases h2 : trL (fun e => match e with | .Name x _ => if ownName so x = true then slotOf N x else none | _ => none) es with
          | none => rw [h2] at h; cases h
          | some js =>
            rw [h2] at h
            cases h
            exact pgs_cons (pg_name (i := i) (by rw [C.names]; exact C.nd) (by rw [C.names]; exact slot_get h1) (T x ho).1 (T x ho).2) (pgs_of C T h2) rfl
      · rw [if_neg ho] at h; cases h
    | _ => cases h
theorem pg_of {tg : Expr} {t : Tg} (C : Cok XR B cf N sc k W X) (T : Tok so X) (h : trTg N so tg = some t) : PG X tg (tgG X.K t) := by
  cases tg with
  | Name x p =>
    rw [trTg] at h
    by_cases ho : ownName so x = true
    · rw [if_pos ho] at h
      obtain ⟨i, hi, rfl⟩ := map_some h
      exact pg_name (i := i) (by rw [C.names]; exact C.nd) (by rw [C.names]; exact slot_get hi) (T x ho).1 (T x ho).2
    · rw [if_neg ho] at h; cases h
  | Tuple es j p =>
    rw [trTg] at h
    obtain ⟨is, hi, rfl⟩ := map_some h
    obtain ⟨h1, h2⟩ := names_each (env := X.env) (f := fun x => if ownName so x = true then slotOf N x else none) hi
    exact pg_tup C.calm (pgs_of C T hi) h2 h1
  | _ => cases h

/-! ### comprehensions -/
/-- what a comprehension's turn does -/
def turnC (cf : Nat → List PV → Store → R PV) (elt : PF.X) (own : List Nat) (tg : Tg) (ifs : List PF.X) (e : Env) (x : PV) (S : Store) : R (Option PV) :=
  match putT tg x (wipeE e own) with
  | none => .bad
  | some e' => (evs cf ifs e' S).bind fun cs S => (R.ofO (ifsV S cs) S).bind fun k S => if k = true then (ev cf elt e' S).bind fun y S => .ok (some y) S else .ok none S
theorem ev_comp {m : Bool} {elt : PF.X} {own : List Nat} {tg : Tg} {ik : IK} {its ifs : List PF.X} {e : Env} {S : Store} : ev cf (.comp m elt own tg ik its ifs) e S = (evI cf ik its e S).bind fun p S => compR m (turnC cf elt own tg ifs e) p S := by
  rw [ev]
  unfold evI
  rw [bind_assoc]
  rfl
/-- its tests -/
def evC (cf : Nat → List PV → Store → R PV) (ifs : List PF.X) (e : Env) (S : Store) : R Bool := (evs cf ifs e S).bind fun cs S => R.ofO (ifsV S cs) S
theorem pts_of (C : Cok XR B cf N sc k W X) {es : List Expr} {cs : List PF.X} (h : SndL XR B cf N k sc es cs) (hl : es.length ≤ 1) : PTs X es (canT X.K W (evC cf cs)) := by
  cases h with
  | nil => exact ⟨fun pins s σ H Q I ⟨m, e, S, re, rs, q⟩ => pts_nil.run pins s σ H Q I (q true m H Ext.refl rs rfl)⟩
  | @cons e x es xs h t =>
    cases t with
    | cons _ _ => simp at hl
    | nil =>
      refine ⟨fun pins s σ H Q I ⟨m, e, S, re, rs, q⟩ => (pts_one (h W X C).2.1).run pins s σ H Q I ⟨m, e, S, re, rs, ?_⟩⟩
      unfold evC at q
      simp only [evs, bind_assoc, R.bind_ok, ifsV] at q
      exact q
def WNo : St → WP := fun _ _ _ _ _ => False
theorem takes_no : Takes X (wx XR WNo) ∨ True := .inr trivial
/-- in a comprehension's block -/
theorem cok_blk (C : Cok XR B cf N sc k W X) {scope : Scope} {s : Shared} {H : Hp} {A : Addr} {cl : List (Str × Addr)} {fp : List Addr} : Cok XR B cf N (relS scope sc) k WNo (X.blk s H scope (compEnvC scope cl A X.env) fp) where
  calm := C.calm
  names := C.names
  nd := C.nd
  scope := by rw [← C.scope]; rfl
  room := C.room
  fns := C.fns
  gls := C.gls
  bls := C.bls
  tk := fun u s' ⟨_, _, _, _, _, _, _, _, _, _, _, _, _, _, _, _, c, fs, m, _, w⟩ => w.elim
  own := PassesOwn.never
theorem tok_blk {scope : Scope} {s : Shared} {H : Hp} {A : Addr} {cl : List (Str × Addr)} {fp : List Addr} : Tok scope (X.blk s H scope (compEnvC scope cl A X.env) fp) := by
  intro x h
  unfold ownName at h
  cases e : scope.names.lookup x with
  | none => rw [e] at h; cases h
  | some y =>
    rw [e] at h
    cases y with
    | «local» =>
      have q : (relabel scope X.env).names.lookup x = some .local := lookup_relabel_local e
      exact ⟨.inl q, .inr q⟩
    | cell =>
      refine ⟨.inr ?_, .inl ?_⟩
      · show (relS scope X.env.scope).names.lookup x = some .cell
        unfold relS
        simp only
        generalize scope.names = l at e
        induction l with
        | nil => cases e
        | cons p r ih =>
          obtain ⟨n, kd⟩ := p
          rw [List.lookup_cons] at e
          rw [List.map_cons]
          cases hb : x == n with
          | true =>
            rw [hb] at e
            cases e
            simp [List.lookup_cons, hb]
          | false =>
            rw [hb] at e
            have := ih e
            simp only at this ⊢
            split <;> (rw [List.lookup_cons, hb]; exact this)
      · show (scope.names.lookup x == some .cell) = true
        rw [e]; rfl
    | _ => cases h
end
section
variable {XR : XRel} {B : Tab} {cf : Nat → List PV → Store → R PV} {N : List Str} {sc so : Scope} {k : Nat} {W : St → WP} {X : Cx} {K : PySem.W.Frag}
theorem wipe_wipe {vs : List Nat} {σ : St} : L2.wipe (L2.wipe σ vs) vs = L2.wipe σ vs := by
  have : ∀ (ws : List Nat) (τ : St), (∀ i ∈ ws, i ∈ vs) → L2.wipe (L2.wipe τ ws) vs = L2.wipe τ vs := by
    intro ws
    induction ws with
    | nil => intro τ _; rfl
    | cons i ws ih =>
      intro τ h
      show L2.wipe ((L2.wipe τ ws).set i none) vs = _
      rw [wipe_set (h i List.mem_cons_self)]
      exact ih τ fun j hj => h j (List.mem_cons_of_mem _ hj)
  exact this vs σ fun _ h => h
theorem drop_get {α : Type} {xs : List α} {i : Nat} {x : α} (h : xs[i]? = some x) : xs.drop i = x :: xs.drop (i + 1) := by
  obtain ⟨hi, e⟩ := List.getElem?_eq_some_iff.mp h
  rw [List.drop_eq_getElem_cons hi, e]
theorem turn_eq {elt : PF.X} {own : List Nat} {tg : Tg} {ifs : List PF.X} {e e' : Env} {x : PV} {S : Store} (h : putT tg x (wipeE e own) = some e') :
    turnC cf elt own tg ifs e x S = (evC cf ifs e' S).bind fun k S => if k = true then (ev cf elt e' S).bind fun y S => .ok (some y) S else .ok none S := by
  unfold turnC evC
  rw [h, bind_assoc]
theorem lc_val {elt : PF.X} {own : List Nat} {t : Tg} {ik : IK} {its ifs : List PF.X} {g : TG} {σ : St} {H : Hp} {Q : VK} (tg : TgR K t g) (hin : tgIn own t = true)
    (h : can K W (ev cf (.comp false elt own t ik its ifs)) σ H Q) : tLc (canI K W (evI cf ik its)) g (canT K WNo (evC cf ifs)) (can K WNo (ev cf elt)) own σ H Q := by
  obtain ⟨m, e, S, re, rs, q⟩ := h
  rw [ev_comp] at q
  refine ⟨m, e, S, re, rs, q.bind fun p S1 J m1 H1 e1 rs1 wl q1 => ?_⟩
  intro D hD
  have re1 := re.up e1
  have hDm := rs1.out hD
  let P : Nat → Nat → Hp → Prop := fun i n H' => i ≤ p.1.length ∧ n = p.1.length - i ∧ ∃ (m' : Mp) (S' : Store) (acc : List PV) (vs : List V), m'.res = m1.res ∧ Ext m1 H1 m' H' ∧ Rel K S' (m'.rsv D) H' ∧ RE K (m'.rsv D) H' e σ ∧ H' D = some (.lst vs) ∧ D ∉ m'.locs ∧
    RVs K (m'.rsv D) H' acc vs ∧ acc.length ≤ i ∧ Post K (RV K) m1 H1 ((compL p.2 (turnC cf elt own t ifs e) (p.1.drop i) acc S').bind fun ys S => .ok (.lv ys) S) Q (W σ)
  refine ⟨P, ⟨p.1.length, Nat.zero_le _, by simp, m1, S1, [], [], rfl, Ext.laid hD, rs1.rsv hD, re1.via fun _ _ z => RV.rsvM hD _ _ z, upd_same, out_locs hDm, .nil, Nat.le_refl _, q1⟩, ?_⟩
  rintro i n H' ⟨hi, hn, m', S', acc, vs, hres, ex, rs', re', hDv, hDl, ra, hacc, hq⟩
  have lat : Lat m1 H1 (m'.rsv D) H' := ⟨ex.pre, fun a ha => by
    rcases List.mem_cons.mp ha with z | z
    · exact .inr (by rw [z]; exact hD)
    · exact .inl (by rw [← hres]; exact z), ex.keep, ex.new⟩
  cases hx : p.1[i]? with
  | none =>
    have hd : p.1.drop i = [] := List.drop_eq_nil_of_le (List.getElem?_eq_none_iff.mp hx)
    rw [hd, compL] at hq
    by_cases hg : grdOk p.2 S' = true
    · rw [if_pos hg] at hq
      refine .inl ⟨(wl.2 i _ S' H' lat rs' hg).2 hx, hq _ m' H' ex rs'.unrsv (.lv (Nat.le_trans hacc (Nat.le_trans hi wl.1)) (fun z => ?_) hDv (RVs.unM _ _ ra))⟩
      rcases Mp.mem.mp z with z | z
      · exact hDl z
      · rw [hres] at z; exact out_res hDm z
    · rw [if_neg hg] at hq; exact hq.elim
  | some y =>
    rw [drop_get hx, compL] at hq
    by_cases hg : grdOk p.2 S' = true
    · rw [if_pos hg] at hq
      obtain ⟨go, yl⟩ := (wl.2 i _ S' H' lat rs' hg).1 y hx
      have hlt : i < p.1.length := (List.getElem?_eq_some_iff.mp hx).1
      refine .inr ⟨go, fun H2 => P (i + 1) (p.1.length - (i + 1)) H2, fun H2 z => ⟨_, by omega, z⟩, fun v H2 hy => ?_⟩
      obtain ⟨e2, rs2, rv⟩ := yl v H2 hy
      have re2 : RE K (m'.rsv D) H2 (wipeE e own) (L2.wipe σ own) := (re'.up e2).wipe own
      cases hp : putT t y (wipeE e own) with
      | none =>
        have : turnC cf elt own t ifs e y S' = .bad := by unfold turnC; rw [hp]
        rw [this] at hq
        exact hq.elim
      | some e' =>
        rw [turn_eq hp] at hq
        refine tg _ H2 _ e' _ y v _ re2 rv hp fun σ' re3 hw => ⟨by rw [hw own hin, wipe_wipe], _, e', S', re3, rs2, ?_⟩
        have D2 : ∀ {m3 : Mp} {H3 : Hp}, Ext (m'.rsv D) H2 m3 H3 → H3 D = some (.lst vs) := fun f => f.keep D _ hDl (e2.keep D _ hDl hDv)
        have again : ∀ {m3 : Mp} {H3 : Hp} {S3 : Store} {acc' : List PV} {vs' : List V} , Ext (m'.rsv D) H2 m3 H3 → Rel K S3 m3 H3 → RVs K m3 H3 acc' vs' → acc'.length ≤ i + 1 →
            Post K (RV K) m1 H1 ((compL p.2 (turnC cf elt own t ifs e) (p.1.drop (i + 1)) acc' S3).bind fun ys S => .ok (.lv ys) S) Q (W σ) → P (i + 1) (p.1.length - (i + 1)) (upd H3 D (.lst vs')) := by
          intro m3 H3 S3 acc' vs' f r3 rv3 hl hq3
          obtain ⟨locs3, res3⟩ := m3
          have hr : res3 = D :: m'.res := f.res
          subst hr
          have f' : Ext m' H2 ⟨locs3, m'.res⟩ H3 := f.unrsv
          have e2' : Ext m' H' m' H2 := ⟨e2.pre, rfl, e2.keep, e2.new⟩
          have dn : D ∉ locs3 := fun z => by
            have z2 := f.new D z hDl
            rw [e2.keep D _ hDl hDv] at z2
            cases z2
          have r3' : Rel K S3 ((⟨locs3, m'.res⟩ : Mp).rsv D) H3 := r3
          refine ⟨hlt, rfl, ⟨locs3, m'.res⟩, S3, acc', vs', hres, ((ex.trans e2').trans f').beside hD, r3'.setAside dn, (((re'.up e2).up f).via fun _ _ z => RV.setM (m := ⟨locs3, m'.res⟩) _ _ z), upd_same, dn, RVs.setM (m := ⟨locs3, m'.res⟩) _ _ rv3, hl, hq3⟩
        cases hc : evC cf ifs e' S' with
        | bad => rw [hc] at hq; exact hq.elim
        | exc c fs S3 => rw [hc] at hq; exact hq.elim
        | ok b S3 =>
          rw [hc] at hq
          intro b' m3 H3 e3 rs3 eb
          have eb : b = b' := eb
          subst eb
          cases b with
          | false =>
            have hq : Post K (RV K) m1 H1 ((compL p.2 (turnC cf elt own t ifs e) (p.1.drop (i + 1)) acc S3).bind fun ys S => .ok (.lv ys) S) Q (W σ) := hq
            have z := again e3 rs3 ((ra.up e2).up e3) (Nat.le_succ_of_le hacc) hq
            have eH : upd H3 D (.lst vs) = H3 := by
              funext a
              by_cases ea : a = D
              · rw [ea, upd_same, D2 e3]
              · exact upd_ne ea
            rw [eH] at z
            exact z
          | true =>
            refine ⟨m3, e', S3, re3.up e3, rs3, ?_⟩
            cases hz : ev cf elt e' S3 with
            | bad => simp only [hz, R.bind_ok, if_true, R.bind_bad] at hq; exact hq.elim
            | exc c fs S4 => simp only [hz, R.bind_ok, if_true, R.bind_exc] at hq; exact hq.elim
            | ok w S4 =>
              simp only [hz, R.bind_ok, if_true] at hq
              intro zv m4 H4 e4 rs4 rz
              refine ⟨vs, D2 (e3.trans e4), ?_, ?_⟩
              · rw [← ra.length]
                exact Nat.lt_of_le_of_lt hacc (Nat.lt_of_lt_of_le hlt wl.1)
              · exact again (e3.trans e4) rs4 ((((ra.up e2).up e3).up e4).append (.cons rz .nil)) (by rw [List.length_append, List.length_singleton]; omega) hq
    · rw [if_neg hg] at hq; exact hq.elim
theorem lc_obj {elt : PF.X} {own : List Nat} {t : Tg} {ik : IK} {its ifs : List PF.X} {g : TG} {σ : St} {H : Hp} {Q : VK} (tg : TgR K t g) (hin : tgIn own t = true)
    (h : can K W (ev cf (.comp true elt own t ik its ifs)) σ H Q) : tLc (canI K W (evI cf ik its)) g (canT K WNo (evC cf ifs)) (can K WNo (ev cf elt)) own σ H Q := by
  obtain ⟨m, e, S, re, rs, q⟩ := h
  rw [ev_comp] at q
  refine ⟨m, e, S, re, rs, q.bind fun p S1 J m1 H1 e1 rs1 wl q1 => ?_⟩
  intro D hD
  have re1 := re.up e1
  have x0 : Ext m1 H1 (m1.add D) (upd H1 D (.lst [])) := Ext.laidIn hD
  have hloc : (m1.add D).locs[S1.length]? = some D := by show (m1.locs ++ [D])[S1.length]? = some D; rw [rs1.len]; simp
  have q1 : Post K (RV K) m1 H1 (compM p.2 S1.length (turnC cf elt own t ifs e) p.1 (S1 ++ [PO.lst []])) Q (W σ) := q1
  let P : Nat → Nat → Hp → Prop := fun i n H' => i ≤ p.1.length ∧ n = p.1.length - i ∧ ∃ (m' : Mp) (S' : Store), Ext (m1.add D) (upd H1 D (.lst [])) m' H' ∧ Rel K S' m' H' ∧ RE K m' H' e σ ∧
    Post K (RV K) m1 H1 (compM p.2 S1.length (turnC cf elt own t ifs e) (p.1.drop i) S') Q (W σ)
  refine ⟨P, ⟨p.1.length, Nat.zero_le _, by simp, m1.add D, S1 ++ [PO.lst []], Ext.refl, rs1.push hD ⟨Nat.zero_le _, [], upd_same, .nil⟩, re1.up x0, q1⟩, ?_⟩
  rintro i n H' ⟨hi, hn, m', S', ex, rs', re', hq⟩
  have hDm : m'.locs[S1.length]? = some D := ex.get hloc
  have ex1 := x0.trans ex
  cases hx : p.1[i]? with
  | none =>
    have hd : p.1.drop i = [] := List.drop_eq_nil_of_le (List.getElem?_eq_none_iff.mp hx)
    rw [hd, compM] at hq
    by_cases hg : grdOk p.2 S' = true
    · rw [if_pos hg] at hq
      exact .inl ⟨(wl.2 i _ S' H' ex1.lat rs' hg).2 hx, hq _ m' H' ex1 rs' (.loc hDm)⟩
    · rw [if_neg hg] at hq; exact hq.elim
  | some y =>
    rw [drop_get hx, compM] at hq
    by_cases hg : grdOk p.2 S' = true
    · rw [if_pos hg] at hq
      obtain ⟨go, yl⟩ := (wl.2 i _ S' H' ex1.lat rs' hg).1 y hx
      have hlt : i < p.1.length := (List.getElem?_eq_some_iff.mp hx).1
      refine .inr ⟨go, fun H2 => P (i + 1) (p.1.length - (i + 1)) H2, fun H2 z => ⟨_, by omega, z⟩, fun v H2 hy => ?_⟩
      obtain ⟨e2, rs2, rv⟩ := yl v H2 hy
      have re2 : RE K m' H2 (wipeE e own) (L2.wipe σ own) := (re'.up e2).wipe own
      cases hp : putT t y (wipeE e own) with
      | none =>
        have : turnC cf elt own t ifs e y S' = .bad := by unfold turnC; rw [hp]
        rw [this] at hq
        exact hq.elim
      | some e' =>
        rw [turn_eq hp] at hq
        refine tg _ H2 _ e' _ y v _ re2 rv hp fun σ' re3 hw => ⟨by rw [hw own hin, wipe_wipe], _, e', S', re3, rs2, ?_⟩
        cases hc : evC cf ifs e' S' with
        | bad => rw [hc] at hq; exact hq.elim
        | exc c fs S3 => rw [hc] at hq; exact hq.elim
        | ok b S3 =>
          rw [hc] at hq
          intro b' m3 H3 e3 rs3 eb
          have eb : b = b' := eb
          subst eb
          cases b with
          | false => exact ⟨hlt, rfl, m3, S3, (ex.trans e2).trans e3, rs3, (re'.up e2).up e3, hq⟩
          | true =>
            refine ⟨m3, e', S3, re3.up e3, rs3, ?_⟩
            cases hz : ev cf elt e' S3 with
            | bad => simp only [hz, R.bind_ok, if_true, R.bind_bad] at hq; exact hq.elim
            | exc c fs S4 => simp only [hz, R.bind_ok, if_true, R.bind_exc] at hq; exact hq.elim
            | ok w S4 =>
              simp only [hz, R.bind_ok, if_true] at hq
              intro zv m4 H4 e4 rs4 rz
              have hD4 : m4.locs[S1.length]? = some D := e4.get (e3.get hDm)
              cases ho : S4[S1.length]? with
              | none => rw [ho] at hq; exact hq.elim
              | some o =>
                rw [ho] at hq
                have ro := rs4.at ho hD4
                cases o with
                | lst acc =>
                  obtain ⟨hl, vs, h1, h2⟩ := ro
                  simp only at hq
                  by_cases hlen : acc.length < sizeLine
                  · rw [if_pos hlen] at hq
                    have ch : Ext m4 H4 m4 (upd H4 D (.lst (vs ++ [zv]))) := Ext.changed (mem_of_get hD4)
                    refine ⟨vs, h1, by rw [← h2.length]; exact hlen, hlt, rfl, m4, _, (((ex.trans e2).trans e3).trans e4).trans ch, rs4.change (u := .lst (acc ++ [w])) hD4 ⟨?_, _, upd_same, (h2.append (.cons rz .nil)).up ch⟩, ((((re'.up e2).up e3).up e4).up ch), hq⟩
                    rw [List.length_append, List.length_singleton]; omega
                  · rw [if_neg hlen] at hq; exact hq.elim
                | _ => exact hq.elim
    · rw [if_neg hg] at hq; exact hq.elim
/-- the parts of a comprehension -/
structure SndC (XR : XRel) (B : Tab) (cf : Nat → List PV → Store → R PV) (N : List Str) (k : Nat) (sc scope : Scope) (elt tg iter : Expr) (ifs : List Expr) (x : PF.X) (t : Tg) (ik : IK) (its cs : List PF.X) : Prop where
  blk : blkC N sc scope (ownOf N scope) = true
  few : ifs.length ≤ 1
  noset : noSet iter = true
  it : SndI XR B cf N k sc tg iter ik its
  tg : trTg N scope tg = some t
  own : tgIn ((ownOf N scope).map (·.2)) t = true
  ifs : SndL XR B cf N k (relS scope sc) ifs cs
  elt : Snd XR B cf N k (relS scope sc) elt x
theorem lc_read {l : Bool} {elt : PF.X} {own : List Nat} {t : Tg} {ik : IK} {its ifs : List PF.X} {g : TG} {σ : St} {H : Hp} {Q : VK} (tg : TgR K t g) (hin : tgIn own t = true)
    (h : can K W (ev cf (.comp l elt own t ik its ifs)) σ H Q) : tLc (canI K W (evI cf ik its)) g (canT K WNo (evC cf ifs)) (can K WNo (ev cf elt)) own σ H Q := by
  cases l with
  | true => exact lc_obj tg hin h
  | false => exact lc_val tg hin h
theorem snd_comp {l : Bool} {elt tg iter : Expr} {ifs : List Expr} {scope : Scope} {pos : Pos} {x : PF.X} {t : Tg} {ik : IK} {its cs : List PF.X} (h : SndC XR B cf N k sc scope elt tg iter ifs x t ik its cs) :
    Snd XR B cf N k sc (.ListComp elt [⟨tg, iter, ifs, 0⟩] scope pos) (.comp l x ((ownOf N scope).map (·.2)) t ik its cs) := by
  refine snd_plain rfl (fun _ _ _ => nofun) fun W X C => ?_
  exact pe_imp (pe_lc (own := ownOf N scope) (g := tgG X.K t) C.calm (by rw [C.names]; exact C.nd) (h.it W X C) (by rw [C.names, C.scope]; exact blkOk_by h.blk)
    (fun s H A cl fp => pg_of (cok_blk C) tok_blk h.tg) (fun s H A cl fp => pts_of (cok_blk C) h.ifs h.few) (fun s H A cl fp => (h.elt WNo _ (cok_blk C)).1) (folded_plain h.noset)) fun σ H Q q => lc_read (tgG_read t) h.own q
/-- name = [..], on one line -/
theorem ps_comp (C : Cok XR B cf N sc k W X) {i : Nat} {y : Str} {py : Pos} {l : Bool} {elt tg iter : Expr} {ifs : List Expr} {scope : Scope} {pos spos : Pos} {x : PF.X} {t : Tg} {ik : IK} {its cs : List PF.X} (h : SndC XR B cf N k sc scope elt tg iter ifs x t ik its cs)
    (hi : slotOf N y = some i) (hy : sc.names.lookup y = some .local) (hsw : swapsWith (.ListComp elt [⟨tg, iter, ifs, 0⟩] scope pos) (some (.Name y py)) spos.line X.env = pure true) :
    PS X (.Assign [.Name y py] (.ListComp elt [⟨tg, iter, ifs, 0⟩] scope pos) spos) (tAsg (can X.K W (ev cf (.comp l x ((ownOf N scope).map (·.2)) t ik its cs))) (gName i)) :=
  ps_imp (ps_setLc (own := ownOf N scope) (g := tgG X.K t) C.calm (by rw [C.names]; exact C.nd) (by rw [C.names]; exact slot_get hi) (by rw [C.scope]; exact hy) hsw (h.it W X C) (by rw [C.names, C.scope]; exact blkOk_by h.blk)
    (fun s H A cl fp => pg_of (cok_blk C) tok_blk h.tg) (fun s H A cl fp => pts_of (cok_blk C) h.ifs h.few) (fun s H A cl fp => (h.elt WNo _ (cok_blk C)).1) (folded_plain h.noset)) fun D σ H q => lc_read (tgG_read t) h.own q
end
/-! ### dict displays -/
section
variable {K : PySem.W.Frag} {m : Mp} {H : Hp} {p : Addr} {o : HO}
theorem rsv_add {a : Addr} (n : a ∉ m.rsv p) : a ∉ m.add p := fun z => n (by
  rcases Mp.mem.mp z with z | z
  · rcases List.mem_append.mp (show a ∈ m.locs ++ [p] from z) with z | z
    · exact Mp.mem.mpr (.inl z)
    · exact Mp.mem.mpr (.inr (by rw [List.mem_singleton.mp z]; exact List.mem_cons_self))
  · exact Mp.mem.mpr (.inr (List.mem_cons_of_mem _ z)))
theorem rsv_ne {a : Addr} (n : a ∉ m.rsv p) : a ≠ p := fun z => out_res n (by rw [z]; exact List.mem_cons_self)
mutual
theorem RV.adopt : ∀ (x : PV) (v : V), RV K (m.rsv p) H x v → RV K (m.add p) (upd H p o) x v
  | _, _, .non => .non
  | _, _, .bl b => .bl b
  | _, _, .int i => .int i
  | _, _, .str x h => .str x h
  | _, _, .tup hl (.inl ⟨n, q⟩) r => .tup hl (.inl ⟨rsv_add n, by rw [upd_ne (rsv_ne n)]; exact q⟩) (RVs.adopt _ _ r)
  | _, _, .tup hl (.inr q) r => .tup hl (.inr q) (RVs.adopt _ _ r)
  | _, _, .lv hl n q r => .lv hl (rsv_add n) (by rw [upd_ne (rsv_ne n)]; exact q) (RVs.adopt _ _ r)
  | .loc n, _, .loc h => .loc (by
    have h : m.locs[n]? = some _ := h
    show (m.locs ++ [p])[n]? = _
    rw [List.getElem?_append_left (List.getElem?_eq_some_iff.mp h).1]
    exact h)
  | _, _, .fz hl (.inl ⟨n, u, q⟩) r => .fz hl (.inl ⟨rsv_add n, u, by rw [upd_ne (rsv_ne n)]; exact q⟩) (RVs.adopt _ _ r)
  | _, _, .fz hl (.inr q) r => .fz hl (.inr q) (RVs.adopt _ _ r)
  | _, _, .dv hl n q r => .dv hl (rsv_add n) (by rw [upd_ne (rsv_ne n)]; exact q) (RVs.adopt _ _ r)
  | _, _, .iv hl n q hC r => .iv hl (rsv_add n) (by rw [upd_ne (rsv_ne n)]; exact q) hC (RVs.adopt _ _ r)
theorem RVs.adopt : ∀ (x : List PV) (v : List V), RVs K (m.rsv p) H x v → RVs K (m.add p) (upd H p o) x v
  | _, _, .nil => .nil
  | _, _, .cons r t => .cons (RV.adopt _ _ r) (RVs.adopt _ _ t)
end
theorem KVr.adopt {κ : Type} : ∀ {x : List (κ × PV)} {v : List (κ × V)}, KVr K (m.rsv p) H x v → KVr K (m.add p) (upd H p o) x v
  | _, _, .nil => .nil
  | _, _, .cons r t => .cons (RV.adopt _ _ r) (KVr.adopt t)
theorem Rel.adopt {S : Store} {u : PO} (r : Rel K S (m.rsv p) H) (hp : p ∉ m.locs) (hu : RO K (m.add p) (upd H p o) u p) : Rel K (S ++ [u]) (m.add p) (upd H p o) := by
  have hlen : S.length = m.locs.length := r.len
  refine ⟨by simp [hlen, Mp.add], ?_, fun i v a hs ha => ?_, fun a ha => ?_⟩
  · show (m.locs ++ [p]).Nodup
    rw [List.nodup_append]
    refine ⟨r.nd, by simp, fun a ha b hb => ?_⟩
    have e : b = p := by simpa using hb
    rw [e]
    intro z
    rw [z] at ha
    exact hp ha
  · have ha : (m.locs ++ [p])[i]? = some a := ha
    by_cases hi : i < S.length
    · rw [List.getElem?_append_left hi] at hs
      rw [List.getElem?_append_left (by rw [← hlen]; exact hi)] at ha
      refine (r.obj i v a hs ha).upW (fun _ _ z => RV.adopt _ _ z) (upd_ne fun z => hp (by rw [← z]; exact List.mem_of_getElem? ha))
    · have e : i = S.length := by
        have := (List.getElem?_eq_some_iff.mp hs).1
        simp at this
        omega
      subst e
      rw [List.getElem?_append_right (Nat.le_refl _)] at hs
      rw [List.getElem?_append_right (by rw [hlen]; exact Nat.le_refl _)] at ha
      simp [hlen] at hs ha
      subst hs ha
      exact hu
  · by_cases z : a = p
    · exact ⟨o, by rw [z, upd_same]⟩
    · obtain ⟨u, e⟩ := r.aside a (List.mem_cons_of_mem _ ha)
      exact ⟨u, by rw [upd_ne z]; exact e⟩
end
section
variable {XR : XRel} {B : Tab} {cf : Nat → List PV → Store → R PV} {N : List Str} {sc : Scope} {k : Nat} {W : St → WP} {X : Cx} {K : PySem.W.Frag}
inductive SndP (XR : XRel) (B : Tab) (cf : Nat → List PV → Store → R PV) (N : List Str) (k : Nat) (sc : Scope) : List (Option Expr) → List Expr → List PF.X → Prop
  | nil : SndP XR B cf N k sc [] [] []
  | cons {a b : Expr} {x y : PF.X} {ks : List (Option Expr)} {vs : List Expr} {xs : List PF.X} (ha : Snd XR B cf N k sc a x) (hb : Snd XR B cf N k sc b y) (t : SndP XR B cf N k sc ks vs xs) : SndP XR B cf N k sc (some a :: ks) (b :: vs) (x :: y :: xs)
def trsOf (K : PySem.W.Frag) (cf : Nat → List PV → Store → R PV) : List PF.X → List (TE × TE)
  | x :: y :: r => (can K WNo (ev cf x), can K WNo (ev cf y)) :: trsOf K cf r
  | _ => []
theorem pps_of (C : Cok XR B cf N sc k WNo X) {pos : Pos} {ks : List (Option Expr)} {vs : List Expr} {xs : List PF.X} (h : SndP XR B cf N k sc ks vs xs) : PPs X pos ks vs (trsOf X.K cf xs) := by
  induction h with
  | nil => exact pps_nil
  | cons ha hb t ih => exact pps_cons (ha WNo X C).1 (hb WNo X C).1 ih
def flat2 : List (V × V) → List V
  | [] => []
  | (a, b) :: r => a :: b :: flat2 r
theorem pairs_read {ks : List (Option Expr)} {vs : List Expr} {xs : List PF.X} (h : SndP XR B cf N k sc ks vs xs) : ∀ {m : Mp} {H : Hp} {e : Env} {S : Store} {σ : St} {Q : List V → Hp → Prop} {Q' : List (V × V) → Hp → Prop}, RE K m H e σ → Rel K S m H → Post K (RVs K) m H (evs cf xs e S) Q (WNo σ) →
    (∀ ps H', Q (flat2 ps) H' → Q' ps H') → tPairs (trsOf K cf xs) σ H Q' := by
  induction h with
  | nil => intro m H e S σ Q Q' re rs q hq; exact hq [] _ (q [] m H Ext.refl rs .nil)
  | @cons a b x y ks vs xs ha hb t ih =>
    intro m H e S σ Q Q' re rs q hq
    have q : Post K (RVs K) m H ((ev cf x e S).bind fun v S => (ev cf y e S).bind fun u S => (evs cf xs e S).bind fun vs S => .ok (v :: u :: vs) S) Q (WNo σ) := by
      rw [evs] at q
      simp only [evs, bind_assoc, R.bind_ok] at q
      exact q
    refine ⟨m, e, S, re, rs, q.bind fun v S1 z1 m1 H1 e1 rs1 r1 q1 => ⟨m1, e, S1, re.up e1, rs1, q1.bind fun u S2 z2 m2 H2 e2 rs2 r2 q2 => ?_⟩⟩
    exact ih (Q := fun zs H' => Q (z1 :: z2 :: zs) H') ((re.up e1).up e2) rs2 (q2.bind fun ws S3 zs m3 H3 e3 rs3 r3 q3 => q3 _ m3 H3 Ext.refl rs3 (.cons ((r1.up e2).up e3) (.cons (r2.up e3) r3))) fun ps H' hz => hq _ _ hz
theorem dicOf_rv {m : Mp} {H : Hp} : ∀ {vs : List PV} {kvs : List (Key × PV)} {ps : List (V × V)}, dicOf vs = some kvs → RVs K m H vs (flat2 ps) → ∃ kv2 : List (Key × V), ps = kv2.map (fun kv => (kV kv.1, kv.2)) ∧ KVr K m H kvs kv2
  | [], kvs, [], e, _ => by cases e; exact ⟨[], rfl, .nil⟩
  | [], _, (_, _) :: _, _, r => by cases r
  | [_], _, _, e, _ => by cases e
  | _ :: _ :: _, _, [], _, r => by cases r
  | a :: b :: vs, kvs, (x, y) :: ps, e, r => by
    rw [dicOf] at e
    cases hk : keyOf a with
    | none => rw [hk] at e; cases e
    | some key =>
      cases ht : dicOf vs with
      | none => rw [hk, ht] at e; cases e
      | some rest =>
        rw [hk, ht] at e
        cases e
        cases r with
        | cons ra t =>
          cases t with
          | cons rb t =>
            obtain ⟨kv2, h1, h2⟩ := dicOf_rv ht t
            refine ⟨(key, y) :: kv2, ?_, .cons rb h2⟩
            rw [List.map_cons, ← h1, keyOf_rv ra hk]
theorem KVr.merge {m : Mp} {H : Hp} {kvs : List (Key × PV)} {kv2 : List (Key × V)} (r : KVr K m H kvs kv2) : ∀ {d : List (Key × PV)} {d2 : List (Key × V)}, KVr K m H d d2 → KVr K m H (kvs.foldl (fun d kv => putP d kv.1 kv.2) d) (mergeK d2 kv2) := by
  induction r with
  | nil => intro d d2 h; exact h
  | cons r t ih => intro d d2 h; exact ih (KVr.put r h)
theorem snd_dic {ks : List (Option Expr)} {vs : List Expr} {xs : List PF.X} {pos : Pos} {l : Bool} (h : SndP XR B cf N k sc ks vs xs) (h0 : ks ≠ []) (h15 : ks.length ≤ 15) : Snd XR B cf N k sc (.Dict ks vs pos) (.dic l xs) := by
  refine snd_plain rfl (fun _ _ _ => nofun) fun W X C => ?_
  have C' : Cok XR B cf N sc k WNo X := { C with tk := fun u s' ⟨_, _, _, _, _, _, _, _, _, _, _, _, _, _, _, _, c, fs, m, _, w⟩ => w.elim }
  have hall : ks.all (·.isSome) = true ∧ ks.length = vs.length := by
    clear h0 h15
    induction h with
    | nil => exact ⟨rfl, rfl⟩
    | cons _ _ _ ih => exact ⟨by rw [List.all_cons, ih.1]; rfl, by rw [List.length_cons, List.length_cons, ih.2]⟩
  refine pe_imp (pe_disp (pps_of C' h) hall.1 hall.2 h0 h15) fun σ H Q ⟨m, e, S, re, rs, q⟩ => ?_
  have q : Post X.K (RV X.K) m H ((evs cf xs e S).only.bind fun vs S => dicNew l vs S) Q (W σ) := by rw [ev] at q; exact q
  intro p hp
  have hpm := rs.out hp
  refine pairs_read (K := X.K) (m := m.rsv p) (H := upd H p (.dK [])) h (re.via fun _ _ z => RV.rsvM hp _ _ z) (rs.rsv hp) (Q := fun us H2 => ∀ ps, us = flat2 ps → H2 p = some (.dK []) ∧ ∃ kvs : List (Key × V), ps = kvs.map (fun kv => (kV kv.1, kv.2)) ∧ kvs.length ≤ 15 ∧ Q (.ref p) (upd H2 p (.dK (mergeK [] kvs)))) ?_ fun ps H' hz => hz ps rfl
  · cases hv : evs cf xs e S with
    | ok us S1 =>
      rw [hv] at q
      have q : Post X.K (RV X.K) m H (dicNew l us S1) Q (W σ) := q
      intro us2 m2 H2 f rs2 rv ps hps
      subst hps
      unfold dicNew at q
      cases hd : dicOf us with
      | none => rw [hd] at q; exact q.elim
      | some kvs =>
        rw [hd] at q
        simp only at q
        by_cases hl : kvs.length ≤ 15
        · rw [if_pos hl] at q
          obtain ⟨kv2, h1, h2⟩ := dicOf_rv hd rv
          obtain ⟨locs2, res2⟩ := m2
          have hr : res2 = p :: m.res := f.res
          subst hr
          have hpl : p ∉ m.locs := out_locs hpm
          have hp2 : H2 p = some (.dK []) := f.keep p _ hpl upd_same
          have dn : p ∉ locs2 := fun z => by
            have z2 := f.new p z hpl
            rw [upd_same] at z2
            cases z2
          cases l with
          | false =>
            obtain ⟨w1, w2⟩ := (h2.merge (d := []) (d2 := []) .nil).vals
            refine ⟨hp2, kv2, h1, by rw [← h2.length]; exact hl, q (.ref p) ⟨locs2, m.res⟩ _ ⟨f.pre, rfl, fun a o n h => ?_, fun a h n => ?_⟩ (Rel.setAside (m := ⟨locs2, m.res⟩) rs2 dn).unrsv (.dv (by simp) (fun z => ?_) (by rw [← w2]; exact upd_same) (RVs.unM (m := ⟨locs2, m.res⟩) (p := p) _ _ (RVs.setM _ _ w1)))⟩
            · have ne : a ≠ p := ne_of_none h hp
              rw [upd_ne ne]
              exact f.keep a o n (by rw [upd_ne ne]; exact h)
            · have z2 := f.new a h n
              have ne : a ≠ p := fun y => dn (by rw [← y]; exact h)
              rw [upd_ne ne] at z2
              exact z2
            · rcases Mp.mem.mp z with z | z
              · exact dn z
              · exact out_res hpm z
          | true =>
          refine ⟨hp2, kv2, h1, by rw [← h2.length]; exact hl, q (.ref p) ((⟨locs2, m.res⟩ : Mp).add p) _ ⟨?_, rfl, fun a o n h => ?_, fun a h n => ?_⟩ (Rel.adopt (m := ⟨locs2, m.res⟩) rs2 dn ⟨_, upd_same, KVr.adopt (m := ⟨locs2, m.res⟩) (h2.merge .nil)⟩) (.loc ?_)⟩
          · obtain ⟨more, hm⟩ := f.pre
            exact ⟨more ++ [p], by show locs2 ++ [p] = _; rw [show locs2 = m.locs ++ more from hm]; simp⟩
          · have ne : a ≠ p := ne_of_none h hp
            rw [upd_ne ne]
            exact f.keep a o n (by rw [upd_ne ne]; exact h)
          · rcases List.mem_append.mp (show a ∈ locs2 ++ [p] from h) with z | z
            · have z2 := f.new a z n
              have ne : a ≠ p := fun y => dn (by rw [← y]; exact z)
              rw [upd_ne ne] at z2
              exact z2
            · rw [List.mem_singleton.mp z]; exact hp
          · show (locs2 ++ [p])[S1.length]? = some p
            rw [show S1.length = locs2.length from rs2.len]
            simp
        · rw [if_neg hl] at q; exact q.elim
    | exc c fs S1 => rw [hv] at q; exact q.elim
    | bad => rw [hv] at q; exact q.elim
end
end L2.PF

set_option Elab.async false
set_option linter.all false
set_option maxRecDepth 100000
set_option maxHeartbeats 4000000
/-! PFL: every part that is translated keeps its promise; statements. -/
namespace L2.PF
open PySem PySem.Spec PyProof.Rows
section
variable {XR : XRel} {B : Tab} {cf : Nat → List PV → Store → R PV} {N : List Str} {sc so : Scope} {k : Nat} {W : St → WP} {X : Cx} {K : PySem.W.Frag}
theorem snd_it {rec : Expr → Option PF.X} (hr : ∀ e x, rec e = some x → Snd XR B cf N k sc e x) {tg iter : Expr} {ik : IK} {its : List PF.X} (h : trIt B sc rec tg iter = some (ik, its)) : SndI XR B cf N k sc tg iter ik its := by
  have seq : ∀ {e : Expr}, (rec e).map (fun y => (IK.seq, [y])) = some (ik, its) → SndI XR B cf N k sc tg e ik its := by
    intro e h
    obtain ⟨y, hy, e2⟩ := map_some h
    cases e2
    exact sndI_seq (hr _ _ hy)
  cases iter with
  | Call f as ks pos =>
    cases f with
    | Name x p =>
      cases ks with
      | nil =>
        rw [trIt] at h
        by_cases h1 : (isB B sc x && decide (x = ("range" : Str))) = true
        · rw [if_pos h1] at h
          rw [Bool.and_eq_true] at h1
          have ex : x = ("range" : Str) := of_decide_eq_true h1.2
          subst ex
          by_cases h2 : (as.all noStar && decide (as.length = 1)) = true
          · rw [if_pos h2] at h
            obtain ⟨xs, hx, e2⟩ := map_some h
            cases e2
            rw [Bool.and_eq_true] at h2
            match as, h2, hx with
            | [a], h2, hx =>
              have hl := snd_list hr hx
              cases hl with
              | cons ha t =>
                cases t
                exact sndI_rng1 h1.1 (by simpa using h2.1) ha
            | [], h2, _ => exact absurd (of_decide_eq_true h2.2) (by simp)
            | _ :: _ :: _, h2, _ => exact absurd (of_decide_eq_true h2.2) (by simp)
          · rw [if_neg h2] at h
            by_cases h3 : (as.all noStar && decide (as.length = 2)) = true
            · rw [if_pos h3] at h
              obtain ⟨xs, hx, e2⟩ := map_some h
              cases e2
              rw [Bool.and_eq_true] at h3
              match as, h3, hx with
              | [a, b], h3, hx =>
                have hl := snd_list hr hx
                cases hl with
                | cons ha t =>
                  cases t with
                  | cons hb t =>
                    cases t
                    have hs : noStar a = true ∧ noStar b = true := by simpa using h3.1
                    exact sndI_rng2 h1.1 hs.1 hs.2 ha hb
              | [], h3, _ => exact absurd (of_decide_eq_true h3.2) (by simp)
              | [_], h3, _ => exact absurd (of_decide_eq_true h3.2) (by simp)
              | _ :: _ :: _ :: _, h3, _ => exact absurd (of_decide_eq_true h3.2) (by simp)
            · rw [if_neg h3] at h; cases h
        · rw [if_neg h1] at h
          by_cases h1 : (isB B sc x && decide (x = ("enumerate" : Str))) = true
          · rw [if_pos h1] at h
            rw [Bool.and_eq_true] at h1
            have ex : x = ("enumerate" : Str) := of_decide_eq_true h1.2
            subst ex
            obtain ⟨h2, h⟩ := ite_some h
            obtain ⟨xs, hx, e2⟩ := map_some h
            cases e2
            simp only [Bool.and_eq_true] at h2
            match as, h2, hx with
            | [a], h2, hx =>
              have hl := snd_list hr hx
              cases hl with
              | cons ha t =>
                cases t
                cases tg with
                | Tuple es j p => exact sndI_enum h1.1 (by simpa using h2.1.2) ha
                | _ => cases h2.1.1
            | [], h2, _ => exact absurd (of_decide_eq_true h2.2) (by simp)
            | _ :: _ :: _, h2, _ => exact absurd (of_decide_eq_true h2.2) (by simp)
          · rw [if_neg h1] at h
            by_cases h1 : (isB B sc x && decide (x = ("zip" : Str))) = true
            · rw [if_pos h1] at h
              rw [Bool.and_eq_true] at h1
              have ex : x = ("zip" : Str) := of_decide_eq_true h1.2
              subst ex
              obtain ⟨h2, h⟩ := ite_some h
              obtain ⟨xs, hx, e2⟩ := map_some h
              cases e2
              simp only [Bool.and_eq_true] at h2
              match as, h2, hx with
              | [a, b], h2, hx =>
                have hl := snd_list hr hx
                cases hl with
                | cons ha t =>
                  cases t with
                  | cons hb t =>
                    cases t
                    have hs : noStar a = true ∧ noStar b = true := by simpa using h2.1.2
                    cases tg with
                    | Tuple es j p => exact sndI_zip h1.1 hs.1 hs.2 ha hb
                    | _ => cases h2.1.1
              | [], h2, _ => exact absurd (of_decide_eq_true h2.2) (by simp)
              | [_], h2, _ => exact absurd (of_decide_eq_true h2.2) (by simp)
              | _ :: _ :: _ :: _, h2, _ => exact absurd (of_decide_eq_true h2.2) (by simp)
            · rw [if_neg h1] at h
              exact seq h
      | cons _ _ =>
        rw [trIt] at h
        · obtain ⟨_, h⟩ := ite_some h
          exact seq h
        · exact fun _ _ _ _ z => by cases z
    | _ =>
      rw [trIt] at h
      · obtain ⟨_, h⟩ := ite_some h
        exact seq h
      · exact fun _ _ _ _ z => by cases z
  | _ =>
    rw [trIt] at h
    · obtain ⟨_, h⟩ := ite_some h
      exact seq h
    · exact fun _ _ _ _ z => by cases z
theorem bltOf_zero {l : Bool} {y : Str} : bltOf l y ([] : List Expr).length = none := by
  unfold bltOf
  simp only [List.length_nil, Nat.zero_ne_one, if_false, (by decide : ¬ (0 : Nat) = 2)]
  repeat (first | rfl | split)
theorem snd_call {rec : Expr → Option PF.X} (hr : ∀ e x, rec e = some x → Snd XR B cf N k sc e x) {y : Str} {p pos : Pos} {as : List Expr} {x : PF.X} (h : trCall B sc rec y as pos = some x) : Snd XR B cf N k sc (.Call (.Name y p) as [] pos) x := by
  unfold trCall at h
  by_cases h0 : (oddName y || !isGlobal sc y || !as.all noStar) = true
  · rw [if_pos h0] at h; cases h
  rw [if_neg h0] at h
  simp only [Bool.not_eq_true, Bool.or_eq_false_iff, Bool.not_eq_false'] at h0
  obtain ⟨⟨ho, hg⟩, hs⟩ := h0
  cases hf : B.fns.lookup y with
  | some p2 =>
    obtain ⟨f, np⟩ := p2
    rw [hf] at h
    obtain ⟨hl, h⟩ := ite_some h
    obtain ⟨xs, hx, rfl⟩ := map_some h
    simp only [Bool.and_eq_true, decide_eq_true_eq] at hl
    cases as with
    | nil => simp at hl; omega
    | cons a as => exact snd_fn ho hg hs hf hl.1 (snd_list hr hx)
  | none =>
    rw [hf] at h
    simp only at h
    by_cases hb : (!B.bls.contains y) = true
    · rw [if_pos hb] at h; cases h
    rw [if_neg hb] at h
    have hb : B.bls.contains y = true := by simpa using hb
    by_cases hi : y = ("isinstance" : Str)
    · rw [if_pos hi] at h
      subst hi
      match as, h, hs with
      | [a, t], h, hs =>
        have hn : noStar a = true := by
          rw [List.all_cons, Bool.and_eq_true] at hs
          exact hs.1
        cases t with
        | Tuple ts j tp =>
          simp only at h
          cases h1 : rec a with
          | none => rw [h1] at h; cases h
          | some z =>
            cases h2 : trL (trType B sc) ts with
            | none => rw [h1, h2] at h; cases h
            | some cs =>
              rw [h1, h2] at h
              obtain ⟨hl, h⟩ := ite_some h
              cases h
              exact snd_isiT hn hg hb (hr _ _ h1) hl h2
        | Name x p =>
          simp only at h
          cases h1 : rec a with
          | none => rw [h1] at h; cases h
          | some z =>
            cases h2 : trType B sc (.Name x p) with
            | none => rw [h1, h2] at h; cases h
            | some c => rw [h1, h2] at h; cases h; exact snd_isi1 hn hg hb (hr _ _ h1) h2
        | _ =>
          simp only [trType] at h
          cases h1 : rec a <;> (rw [h1] at h; cases h)
      | [], h, _ => cases h
      | [_], h, _ => cases h
      | _ :: t :: _ :: _, h, _ => cases t <;> cases h
    · rw [if_neg hi] at h
      cases h1 : bltOf (lays B pos) y as.length with
      | none => rw [h1] at h; cases h
      | some b =>
        rw [h1] at h
        obtain ⟨xs, hx, rfl⟩ := map_some h
        cases as with
        | nil =>
          rw [bltOf_zero] at h1
          cases h1
        | cons a as => exact snd_blt ho hg hs hb h1 (snd_list hr hx)
theorem snd_meth {rec : Expr → Option PF.X} (hr : ∀ e x, rec e = some x → Snd XR B cf N k sc e x) {o : Expr} {m : Str} {apos cpos : Pos} {as : List Expr} {x : PF.X} (h : trMeth B rec o m apos as cpos = some x) : Snd XR B cf N k sc (.Call (.Attribute o m apos) as [] cpos) x := by
  unfold trMeth at h
  obtain ⟨h0, h⟩ := ite_some h
  simp only [Bool.and_eq_true] at h0
  cases h1 : mthOf m as.length with
  | none => rw [h1] at h; cases h
  | some b =>
    cases h2 : rec o with
    | none => rw [h1, h2] at h; cases h
    | some y =>
      cases h3 : trL rec as with
      | none => rw [h1, h2, h3] at h; cases h
      | some xs =>
        rw [h1, h2, h3] at h
        cases h
        exact snd_mth h0.1.1.1 h0.1.1.2 h0.1.2 (of_decide_eq_true h0.2) h1 (hr _ _ h2) (snd_list hr h3)
theorem snd_opt {rec : Expr → Option PF.X} (hr : ∀ e x, rec e = some x → Snd XR B cf N k sc e x) {o : Option Expr} {x : PF.X} (h : optX rec o = some x) : SndO XR B cf N k sc o x := by
  cases o with
  | none => cases h; exact .none
  | some e =>
    obtain ⟨y, hy, rfl⟩ := map_some (show (rec e).map .num = some x from h)
    exact .some (hr _ _ hy)
theorem two_some {α β γ : Type} {o : Option α} {u : Option β} {f : α → β → γ} {c : γ} (h : (match o, u with | some x, some y => some (f x y) | _, _ => none) = some c) : ∃ x y, o = some x ∧ u = some y ∧ f x y = c := by
  cases o with
  | none => cases h
  | some x =>
    cases u with
    | none => cases h
    | some y => exact ⟨x, y, rfl, rfl, Option.some.inj h⟩
theorem three_some {α β γ δ : Type} {o : Option α} {u : Option β} {w : Option δ} {f : α → β → δ → γ} {c : γ} (h : (match o, u, w with | some x, some y, some z => some (f x y z) | _, _, _ => none) = some c) : ∃ x y z, o = some x ∧ u = some y ∧ w = some z ∧ f x y z = c := by
  cases o with
  | none => cases h
  | some x =>
    cases u with
    | none => cases h
    | some y =>
      cases w with
      | none => cases h
      | some z => exact ⟨x, y, z, rfl, rfl, rfl, Option.some.inj h⟩
theorem comp_some {own : List Nat} {l : Bool} {a : Option (IK × List PF.X)} {b : Option Tg} {c : Option (List PF.X)} {d : Option PF.X} {x : PF.X} (h : trComp own l a b c d = some x) :
    ∃ ik its t cs y, a = some (ik, its) ∧ b = some t ∧ c = some cs ∧ d = some y ∧ tgIn own t = true ∧ x = .comp l y own t ik its cs := by
  cases a with
  | none => cases h
  | some a =>
    obtain ⟨ik, its⟩ := a
    cases b with
    | none => cases h
    | some t =>
      cases c with
      | none => cases h
      | some cs =>
        cases d with
        | none => cases h
        | some y =>
          obtain ⟨hc, h⟩ := ite_some (show (if tgIn own t = true then some (PF.X.comp l y own t ik its cs) else none) = some x from h)
          cases h
          exact ⟨ik, its, t, cs, y, rfl, rfl, rfl, rfl, hc, rfl⟩
/-- the parts of a comprehension that is translated -/
theorem sndC_of {n : Nat} (ih : ∀ sc e x, tr B N n sc e = some x → Snd XR B cf N k sc e x) {elt tg iter : Expr} {ifs : List Expr} {scope : Scope} {pos : Pos} {x : PF.X} (h : tr B N (n + 1) sc (.ListComp elt [⟨tg, iter, ifs, 0⟩] scope pos) = some x) :
    ∃ y t ik its cs, SndC XR B cf N k sc scope elt tg iter ifs y t ik its cs ∧ x = .comp (lays B pos) y ((ownOf N scope).map (·.2)) t ik its cs := by
  rw [tr] at h
  obtain ⟨h0, h⟩ := ite_some h
  simp only [Bool.and_eq_true, decide_eq_true_eq] at h0
  obtain ⟨ik, its, t, cs, y, e1, e2, e3, e4, e5, rfl⟩ := comp_some h
  exact ⟨y, t, ik, its, cs, ⟨h0.1.1, h0.1.2, h0.2, snd_it (fun e x hx => ih sc e x hx) e1, e2, e5, snd_list (fun e x hx => ih _ e x hx) e3, ih _ _ _ e4⟩, rfl⟩
theorem kv_of {rec : Expr → Option PF.X} (hr : ∀ e x, rec e = some x → Snd XR B cf N k sc e x) : ∀ {ks : List (Option Expr)} {vs : List Expr} {xs : List PF.X}, trKV rec ks vs = some xs → SndP XR B cf N k sc ks vs xs
  | [], [], _, h => by cases h; exact .nil
  | [], _ :: _, _, h => by cases h
  | none :: _, vs, _, h => by cases vs <;> cases h
  | some _ :: _, [], _, h => by cases h
  | some a :: ks, b :: vs, xs, h => by
    rw [trKV] at h
    cases h1 : rec a with
    | none => rw [h1] at h; cases h
    | some x =>
      cases h2 : rec b with
      | none => rw [h1, h2] at h; cases h
      | some y =>
        cases h3 : trKV rec ks vs with
        | none => rw [h1, h2, h3] at h; cases h
        | some r => rw [h1, h2, h3] at h; cases h; exact .cons (hr _ _ h1) (hr _ _ h2) (kv_of hr h3)
theorem snd_tr : ∀ (n : Nat) (sc : Scope) (e : Expr) (x : PF.X), tr B N n sc e = some x → Snd XR B cf N k sc e x
  | 0, _, _, _, h => by rw [tr] at h; cases h
  | n + 1, sc, e, x, h => by
    have ih := snd_tr n
    have ihs := fun e x => ih sc e x
    rw [tr.eq_def] at h
    simp only at h
    split at h
    · exact snd_const h
    · exact snd_name h
    · exact snd_one (ihs _ _ h)
    · rename_i op a b r pos
      cases h1 : tr B N n sc a with
      | none => rw [h1] at h; cases h
      | some y =>
        cases h2 : tr B N n sc (.BoolOp op (b :: r) pos) with
        | none => rw [h1, h2] at h; cases h
        | some z =>
          rw [h1, h2] at h
          cases op with
          | And => cases h; exact snd_and (ihs _ _ h1) (ihs _ _ h2)
          | Or => cases h; exact snd_or (ihs _ _ h1) (ihs _ _ h2)
    · obtain ⟨y, hy, rfl⟩ := map_some h
      exact snd_not (ihs _ _ hy)
    · obtain ⟨y, hy, rfl⟩ := map_some h
      exact snd_neg (ihs _ _ hy)
    · rename_i a op b pos
      cases h1 : tr B N n sc a with
      | none => rw [h1] at h; cases h
      | some y =>
        cases h2 : tr B N n sc b with
        | none => rw [h1, h2] at h; cases h
        | some z =>
          rw [h1, h2] at h
          cases h
          exact snd_bin (ihs _ _ h1) (ihs _ _ h2)
    · rename_i c a b pos
      cases h0 : tr B N n sc c with
      | none => rw [h0] at h; cases h
      | some c' =>
        cases h1 : tr B N n sc a with
        | none => rw [h0, h1] at h; cases h
        | some y =>
          cases h2 : tr B N n sc b with
          | none => rw [h0, h1, h2] at h; cases h
          | some z =>
            rw [h0, h1, h2] at h
            cases h
            exact snd_ite (ihs _ _ h0) (ihs _ _ h1) (ihs _ _ h2)
    · rename_i a op b pos
      obtain ⟨hs, h⟩ := ite_some h
      cases h1 : tr B N n sc a with
      | none => rw [h1] at h; cases h
      | some y =>
        cases h2 : tr B N n sc b with
        | none => rw [h1, h2] at h; cases h
        | some z =>
          rw [h1, h2] at h
          cases h
          exact snd_cmp hs (ihs _ _ h1) (ihs _ _ h2)
    · rename_i a o1 o2 b c pos
      obtain ⟨hs, h⟩ := ite_some h
      rw [Bool.and_eq_true] at hs
      cases h0 : tr B N n sc a with
      | none => rw [h0] at h; cases h
      | some c' =>
        cases h1 : tr B N n sc b with
        | none => rw [h0, h1] at h; cases h
        | some y =>
          cases h2 : tr B N n sc c with
          | none => rw [h0, h1, h2] at h; cases h
          | some z =>
            rw [h0, h1, h2] at h
            cases h
            exact snd_chn hs.2 (ihs _ _ h0) (ihs _ _ h1) (ihs _ _ h2)
    · obtain ⟨hs, h⟩ := ite_some h
      obtain ⟨y, hy, rfl⟩ := map_some h
      exact snd_tup hs (snd_list ihs hy)
    · obtain ⟨hs, h⟩ := ite_some h
      obtain ⟨y, hy, rfl⟩ := map_some h
      exact snd_lst hs (snd_list ihs hy)
    · rename_i ks vs pos
      by_cases he : (ks.isEmpty && vs.isEmpty) = true
      · rw [if_pos he] at h
        cases h
        rw [Bool.and_eq_true] at he
        obtain rfl := List.isEmpty_iff.mp he.1
        obtain rfl := List.isEmpty_iff.mp he.2
        exact snd_dic0
      · rw [if_neg he] at h
        obtain ⟨hl, h⟩ := ite_some h
        obtain ⟨xs, hx, rfl⟩ := map_some h
        refine snd_dic (kv_of ihs hx) (fun z => ?_) (of_decide_eq_true hl)
        subst z
        cases vs with
        | nil => exact he rfl
        | cons _ _ => cases hx
    · rename_i a lo hi p2 pos
      cases h0 : tr B N n sc a with
      | none => rw [h0] at h; cases h
      | some c' =>
        cases h1 : optX (tr B N n sc) lo with
        | none => rw [h0, h1] at h; cases h
        | some y =>
          cases h2 : optX (tr B N n sc) hi with
          | none => rw [h0, h1, h2] at h; cases h
          | some z =>
            rw [h0, h1, h2] at h
            cases h
            exact snd_sl (ihs _ _ h0) (snd_opt ihs h1) (snd_opt ihs h2)
    · rename_i a b pos hno
      obtain ⟨hs, h⟩ := ite_some h
      cases h1 : tr B N n sc a with
      | none => rw [h1] at h; cases h
      | some y =>
        cases h2 : tr B N n sc b with
        | none => rw [h1, h2] at h; cases h
        | some z =>
          rw [h1, h2] at h
          cases h
          exact snd_ix hs (ihs _ _ h1) (ihs _ _ h2)
    · exact snd_call ihs h
    · exact snd_meth ihs h
    · rename_i elt tg iter ifs scope pos
      have h' : tr B N (n + 1) sc (.ListComp elt [⟨tg, iter, ifs, 0⟩] scope pos) = some x := by rw [tr]; exact h
      obtain ⟨y, t, ik, its, cs, hc, rfl⟩ := sndC_of ih h'
      exact snd_comp hc
    · cases h
end
end L2.PF

set_option Elab.async false
set_option linter.all false
set_option maxRecDepth 100000
set_option maxHeartbeats 4000000
/-! PFM: statements. -/
namespace L2.PF
open PySem PySem.Spec PyProof.Rows
/-! ### the translation -/
def isLocal (sc : Scope) (x : Str) : Bool := match sc.names.lookup x with
  | some .local => true
  | _ => false
/-- name = [..] on one line -/
def swC (sc : Scope) (y : Str) (py : Pos) : Expr → Bool
  | .ListComp _ [⟨_, _, _, 0⟩] scope pos => (sc.kind == .function) && isLocal sc y && (py.line == pos.line) && !(scope.names.any fun (n, k) => n == y && (k == .local || k == .cell))
  | _ => false
def isStr : Expr → Bool
  | .Constant (.str _) _ _ => true
  | _ => false
/-- x, y = a, b -/
def parOk (sc : Scope) (x y : Str) (px py : Pos) (a b : Expr) : Bool :=
  (sc.kind == .function) && noStar a && noStar b && isLocal sc x && isLocal sc y && (py.line == px.line) && !(x == y) && !(foldedForSure 8 a && foldedForSure 8 b) && !(constantsAlone 8 a && constantsAlone 8 b)
def two {α β γ : Type} (f : α → β → γ) : Option α → Option β → Option γ
  | some a, some b => some (f a b)
  | _, _ => none
def three {α β δ γ : Type} (f : α → β → δ → γ) : Option α → Option β → Option δ → Option γ
  | some a, some b, some c => some (f a b c)
  | _, _, _ => none
def four {α β δ ε γ : Type} (f : α → β → δ → ε → γ) : Option α → Option β → Option δ → Option ε → Option γ
  | some a, some b, some c, some d => some (f a b c d)
  | _, _, _, _ => none
theorem two_ok {α β γ : Type} {f : α → β → γ} {a : Option α} {b : Option β} {c : γ} (h : two f a b = some c) : ∃ x y, a = some x ∧ b = some y ∧ c = f x y := by
  cases a with
  | none => cases h
  | some x =>
    cases b with
    | none => cases h
    | some y => cases h; exact ⟨x, y, rfl, rfl, rfl⟩
theorem three_ok {α β δ γ : Type} {f : α → β → δ → γ} {a : Option α} {b : Option β} {d : Option δ} {c : γ} (h : three f a b d = some c) : ∃ x y z, a = some x ∧ b = some y ∧ d = some z ∧ c = f x y z := by
  cases a with
  | none => cases h
  | some x =>
    cases b with
    | none => cases h
    | some y =>
      cases d with
      | none => cases h
      | some z => cases h; exact ⟨x, y, z, rfl, rfl, rfl, rfl⟩
theorem four_ok {α β δ ε γ : Type} {f : α → β → δ → ε → γ} {a : Option α} {b : Option β} {d : Option δ} {e : Option ε} {c : γ} (h : four f a b d e = some c) : ∃ x y z u, a = some x ∧ b = some y ∧ d = some z ∧ e = some u ∧ c = f x y z u := by
  cases a with
  | none => cases h
  | some x =>
    cases b with
    | none => cases h
    | some y =>
      cases d with
      | none => cases h
      | some z =>
        cases e with
        | none => cases h
        | some u => cases h; exact ⟨x, y, z, u, rfl, rfl, rfl, rfl, rfl⟩
def trPar (N : List Str) (sc : Scope) (rec : Expr → Option X) : List Expr → Expr → Option Sm
  | [.Name x px, .Name y py], .Tuple [a, b] _ _ => if parOk sc x y px py a b then four (fun i j a b => .par i j a b) (slotOf N x) (slotOf N y) (rec a) (rec b) else none
  | _, _ => none
def trAsg (N : List Str) (sc : Scope) (rec : Expr → Option X) (e : Expr) : Expr → Option Sm
  | .Name y py => if ownName sc y && (noComp e || swC sc y py e) then two (fun i x => .set (.n i) x) (slotOf N y) (rec e) else none
  | .Tuple es k p => if isTuple e then trPar N sc rec es e else if noComp e then two .set (trTg N sc (.Tuple es k p)) (rec e) else none
  | .Subscript o i _ => if noSlice i then three .setix (rec o) (rec i) (rec e) else none
  | _ => none
def augOk : Operator → Bool
  | .Add => true
  | .Sub => true
  | _ => false
def trS (B : Tab) (N : List Str) (sc : Scope) : Nat → Stmt → Option Sm
  | 0, _ => none
  | n + 1, st => match st with
    | .Pass _ => some .pass
    | .Break _ => some .brk
    | .Continue _ => some .cnt
    | .Expr e _ => if isStr e then some .pass else if noComp e then (tr B N n sc e).map .ex else none
    | .Return none _ => some (.ret (.c .non))
    | .Return (some e) _ => (tr B N n sc e).map .ret
    | .If c a b _ => three .ite (tr B N n sc c) (trL (trS B N sc n) a) (trL (trS B N sc n) b)
    | .While c b [] _ => two .whl (tr B N n sc c) (trL (trS B N sc n) b)
    | .For tg it b [] _ => if noSet it then three (fun t ki b => .forS t ki.1 ki.2 b) (trTg N sc tg) (trIt B sc (tr B N n sc) tg it) (trL (trS B N sc n) b) else none
    | .Assign [tg] e _ => trAsg N sc (tr B N n sc) e tg
    | .AugAssign (.Name x _) op e _ => if ownName sc x && augOk op then two (fun i x => .aug i op x) (slotOf N x) (tr B N n sc e) else none
    | _ => none

/-! ### what a statement promises -/
def PostS (K : PySem.W.Frag) (W : St → WP) (m : Mp) (H : Hp) (r : SR) (D : Ends) : Prop :=
  match r with
  | .nx e S => ∀ σ m' H', Ext m H m' H' → Rel K S m' H' → RE K m' H' e σ → D.nx σ H'
  | .bk e S => ∀ σ m' H', Ext m H m' H' → Rel K S m' H' → RE K m' H' e σ → D.bk σ H'
  | .ct e S => ∀ σ m' H', Ext m H m' H' → Rel K S m' H' → RE K m' H' e σ → D.ct σ H'
  | .rt v S => ∀ x m' H', Ext m H m' H' → Rel K S m' H' → RV K m' H' v x → D.rt x H'
  | .exc c fs e S => ∀ σ m' H', Ext m H m' H' → Rel K S m' H' → RE K m' H' e σ → W σ c fs m' H'
  | .bad => False
def canS (K : PySem.W.Frag) (W : St → WP) (f : Env → Store → SR) : TS := fun D σ H => ∃ m e S, RE K m H e σ ∧ Rel K S m H ∧ PostS K W m H (f e S) D
section
variable {K : PySem.W.Frag} {W : St → WP} {m m' : Mp} {H H' : Hp} {D D' : Ends} {r : SR}
theorem PostS.up (x : Ext m H m' H') (h : PostS K W m H r D) : PostS K W m' H' r D := by
  cases r with
  | bad => exact h
  | _ => exact fun a m2 H2 f q v => h a m2 H2 (x.trans f) q v
theorem PostS.step {α β : Type} {rel : Mp → Hp → α → β → Prop} {r : R α} {e : Env} {σ : St} {f : α → Store → SR} {Q1 : β → Hp → Prop} (re : RE K m H e σ) (h : PostS K W m H (r.toS e f) D)
    (k : ∀ a S1 x m1 H1, Ext m H m1 H1 → Rel K S1 m1 H1 → rel m1 H1 a x → PostS K W m1 H1 (f a S1) D → Q1 x H1) : Post K rel m H r Q1 (W σ) := by
  cases r with
  | ok a S => exact fun x m1 H1 e q v => k a S x m1 H1 e q v (PostS.up e h)
  | exc c fs S => exact fun m1 H1 x q => h σ m1 H1 x q (re.up x)
  | bad => exact h
theorem PostS.pass {α : Type} {o : Option α} {S : Store} {e : Env} {f : α → Store → SR} (h : PostS K W m H ((R.ofO o S).toS e f) D) : ∃ a, o = some a ∧ PostS K W m H (f a S) D := by
  cases o with
  | none => exact h.elim
  | some a => exact ⟨a, rfl, h⟩
theorem PostS.seq {f : Env → Store → SR} (h : PostS K W m H (r.then f) D) : PostS K W m H r { D with nx := canS K W f D } := by
  cases r with
  | nx e S => exact fun σ m1 H1 x q re => ⟨m1, e, S, re, q, PostS.up x h⟩
  | _ => exact h
theorem PostS.nxt {e : Env} {S : Store} {σ : St} (h : PostS K W m H (.nx e S) D) (rs : Rel K S m H) (re : RE K m H e σ) : D.nx σ H := h σ m H Ext.refl rs re
end
section
variable {XR : XRel} {B : Tab} {cf : Nat → List PV → Store → R PV} {N : List Str} {sc : Scope} {k : Nat} {W : St → WP} {X : Cx}
/-- a statement's promise -/
def SndS (XR : XRel) (B : Tab) (cf : Nat → List PV → Store → R PV) (N : List Str) (k : Nat) (sc : Scope) (st : Stmt) (x : Sm) : Prop :=
  ∀ (W : St → WP) (X : Cx), Cok XR B cf N sc k W X → Tok sc X → PS X st (canS X.K W (PF.ex cf x))
inductive SndSs (XR : XRel) (B : Tab) (cf : Nat → List PV → Store → R PV) (N : List Str) (k : Nat) (sc : Scope) : List Stmt → List Sm → Prop
  | nil : SndSs XR B cf N k sc [] []
  | cons {e : Stmt} {x : Sm} {es : List Stmt} {xs : List Sm} (h : SndS XR B cf N k sc e x) (t : SndSs XR B cf N k sc es xs) : SndSs XR B cf N k sc (e :: es) (x :: xs)
theorem snds_list {f : Stmt → Option Sm} (hf : ∀ e x, f e = some x → SndS XR B cf N k sc e x) : ∀ {es : List Stmt} {xs : List Sm}, trL f es = some xs → SndSs XR B cf N k sc es xs
  | [], xs, h => by cases h; exact .nil
  | e :: es, xs, h => by
    rw [trL] at h
    cases h1 : f e with
    | none => rw [h1] at h; cases h
    | some y =>
      rw [h1] at h
      cases h2 : trL f es with
      | none => rw [h2] at h; cases h
      | some ys => rw [h2] at h; cases h; exact .cons (hf e y h1) (snds_list hf h2)
theorem pss_of (C : Cok XR B cf N sc k W X) (T : Tok sc X) : ∀ {es : List Stmt} {xs : List Sm}, SndSs XR B cf N k sc es xs → PSs X es (canS X.K W (exs cf xs))
  | _, _, .nil => pss_imp pss_nil fun D σ H ⟨m, e, S, re, rs, q⟩ => by
    rw [exs] at q
    exact q.nxt rs re
  | e :: es, _, .cons (x := x) (xs := xs) h t => by
    refine pss_imp (pss_cons (h W X C T) (pss_of C T t)) fun D σ H ⟨m, e, S, re, rs, q⟩ => ?_
    rw [exs] at q
    exact ⟨m, e, S, re, rs, q.seq⟩
/-! ### each -/
theorem sp_pass {p : Pos} : SndS XR B cf N k sc (.Pass p) .pass := fun W X C T => ps_imp ps_pass fun D σ H ⟨m, e, S, re, rs, q⟩ => by
  rw [PF.ex] at q
  exact q.nxt rs re
theorem sp_brk {p : Pos} : SndS XR B cf N k sc (.Break p) .brk := fun W X C T => ps_imp ps_break fun D σ H ⟨m, e, S, re, rs, q⟩ => by
  rw [PF.ex] at q
  exact q σ m H Ext.refl rs re
theorem sp_cnt {p : Pos} : SndS XR B cf N k sc (.Continue p) .cnt := fun W X C T => ps_imp ps_continue fun D σ H ⟨m, e, S, re, rs, q⟩ => by
  rw [PF.ex] at q
  exact q σ m H Ext.refl rs re
theorem sp_doc {e : Expr} {p : Pos} (h : isStr e = true) : SndS XR B cf N k sc (.Expr e p) .pass := fun W X C T => by
  cases e with
  | Constant c j p =>
    cases c with
    | str x =>
      exact ps_imp ps_doc fun D σ H ⟨m, e, S, re, rs, q⟩ => by
        rw [PF.ex] at q
        exact q.nxt rs re
    | _ => cases h
  | _ => cases h
theorem sp_ex {e : Expr} {x : PF.X} {p : Pos} (hs : noComp e = true) (h : Snd XR B cf N k sc e x) : SndS XR B cf N k sc (.Expr e p) (.ex x) := fun W X C T =>
  ps_imp (ps_expr (h W X C).1 (swaps_plain hs _ _)) fun D σ H ⟨m, e, S, re, rs, q⟩ => by
    rw [PF.ex] at q
    exact ⟨m, e, S, re, rs, q.step re fun v S1 z m1 H1 e1 rs1 r1 q1 => q1.nxt rs1 (re.up e1)⟩
theorem sp_retN {p : Pos} : SndS XR B cf N k sc (.Return none p) (.ret (.c .non)) := fun W X C T => ps_imp ps_retN fun D σ H ⟨m, e, S, re, rs, q⟩ => by
  simp only [PF.ex, ev, R.toS_ok] at q
  exact q .non m H Ext.refl rs .non
theorem sp_ret {e : Expr} {x : PF.X} {p : Pos} (h : Snd XR B cf N k sc e x) : SndS XR B cf N k sc (.Return (some e) p) (.ret x) := fun W X C T =>
  ps_imp (ps_ret (h W X C).1) fun D σ H ⟨m, e, S, re, rs, q⟩ => by
    rw [PF.ex] at q
    exact ⟨m, e, S, re, rs, q.step re fun v S1 z m1 H1 e1 rs1 r1 q1 => q1 z m1 H1 Ext.refl rs1 r1⟩
theorem sp_if {c : Expr} {x : PF.X} {a b : List Stmt} {u v : List Sm} {p : Pos} (h : Snd XR B cf N k sc c x) (ha : SndSs XR B cf N k sc a u) (hb : SndSs XR B cf N k sc b v) : SndS XR B cf N k sc (.If c a b p) (.ite x u v) := fun W X C T =>
  ps_imp (ps_if (h W X C).2.1 (pss_of C T ha) (pss_of C T hb)) fun D σ H ⟨m, e, S, re, rs, q⟩ => by
    have q : PostS X.K W m H ((evT cf x e S).toS e fun k S => if k = true then exs cf u e S else exs cf v e S) D := by
      rw [PF.ex] at q
      unfold evT
      cases hv : ev cf x e S with
      | ok v S1 =>
        rw [hv] at q
        simp only [R.bind_ok]
        exact q
      | _ => rw [hv] at q; exact q
    refine ⟨m, e, S, re, rs, q.step re fun d S1 z m1 H1 e1 rs1 r1 q1 => ?_⟩
    cases r1
    cases d with
    | true => exact ⟨m1, e, S1, re.up e1, rs1, q1⟩
    | false => exact ⟨m1, e, S1, re.up e1, rs1, q1⟩
theorem sp_set {y : Str} {py p : Pos} {i : Nat} {e : Expr} {x : PF.X} (ho : ownName sc y = true) (hi : slotOf N y = some i) (hs : noComp e = true) (h : Snd XR B cf N k sc e x) : SndS XR B cf N k sc (.Assign [.Name y py] e p) (.set (.n i) x) := fun W X C T =>
  ps_imp (ps_set (i := i) (by rw [C.names]; exact C.nd) (by rw [C.names]; exact slot_get hi) (T y ho).1 (h W X C).1 (swaps_plain hs _ _) (T y ho).2) fun D σ H ⟨m, e, S, re, rs, q⟩ => by
    rw [PF.ex] at q
    exact ⟨m, e, S, re, rs, q.step re fun v S1 z m1 H1 e1 rs1 r1 q1 => q1.nxt rs1 ((re.up e1).set r1 i)⟩
theorem sp_tup {es : List Expr} {kk : Nat} {tp p : Pos} {t : Tg} {e : Expr} {x : PF.X} (ht : trTg N sc (.Tuple es kk tp) = some t) (hs : noComp e = true) (hn : isTuple e = false) (h : Snd XR B cf N k sc e x) : SndS XR B cf N k sc (.Assign [.Tuple es kk tp] e p) (.set t x) := fun W X C T =>
  ps_imp (ps_asg (h W X C).1 (pg_of C T ht) (show swapsWith e (some (.Tuple es kk tp)) p.line X.env = _ from swaps_plain hs _ _) (by cases e <;> first | rfl | cases hn) rfl) fun D σ H ⟨m, e, S, re, rs, q⟩ => by
    rw [PF.ex] at q
    refine ⟨m, e, S, re, rs, q.step re fun v S1 z m1 H1 e1 rs1 r1 q1 => ?_⟩
    cases hp : putT t v e with
    | none => rw [hp] at q1; exact q1.elim
    | some e' =>
      rw [hp] at q1
      exact tgG_read t m1 H1 e e' σ v z _ (re.up e1) r1 hp fun σ' re' _ => q1.nxt rs1 re'
theorem swaps_sub {e o i : Expr} {sp : Pos} {l : Nat} {env : PySem.Env} : swapsWithSole [.Subscript o i sp] e l env = pure false := by
  show swapsWith e (some (.Subscript o i sp)) l env = _
  cases e <;> rfl
theorem sub_plain {o i : Expr} {sp : Pos} {env : PySem.Env} (h : noSlice i = true) : ∀ v, assign (.Subscript o i sp) env v = (do
      let ov ← holding [v] (eval o env)
      let iv ← holding [v, ov] (eval i env)
      standAt sp
      holding [v, ov, iv] (setItem ov iv v)
      release [v, ov, iv] []) := by
  cases i <;> first | (intro _; rfl) | cases h
/-- o[k] = v -/
def rSet : TSet := fun o i v H Q => rSetL o i v H Q ∨ rSetD o i v H Q
theorem set_any {X : Cx} (hu : X.A.units + 1 < cLine) : PSet X rSet := by
  intro pins s σ H o i v ov iv u Q I r1 r2 r3 h
  rcases h with h | h
  · exact set_list pins s σ H o i v ov iv u Q I r1 r2 r3 h
  · exact set_dict hu pins s σ H o i v ov iv u Q I r1 r2 r3 h
theorem setix_ok {K : PySem.W.Frag} {m : Mp} {H : Hp} {S S' : Store} {o k v : PV} {zo zk zv : V} {Q : Hp → Prop} (rs : Rel K S m H) (ro : RV K m H o zo) (rk : RV K m H k zk) (rv : RV K m H v zv) (h : setixV S o k v = some S')
    (q : ∀ H', Ext m H m H' → Rel K S' m H' → Q H') : rSet zo zk zv H Q := by
  cases o with
  | loc n =>
    cases ro with
    | loc hn =>
      rename_i a
      unfold setixV at h
      simp only at h
      cases hs : S[n]? with
      | none => rw [hs] at h; cases h
      | some u =>
        rw [hs] at h
        cases u with
        | lst xs =>
          simp only at h
          cases k with
          | int i =>
            cases rk
            simp only at h
            cases hj : ixN xs.length i with
            | none => rw [hj] at h; cases h
            | some j =>
              rw [hj] at h
              cases h
              obtain ⟨hl, vs, e1, e2⟩ := rs.at hs hn
              have xt : Ext m H m (upd H a (.lst (vs.set j zv))) := Ext.changed (mem_of_get hn)
              refine .inl ⟨a, vs, i, j, rfl, rfl, e1, by rw [← e2.length]; exact hj, q _ xt ?_⟩
              refine rs.change hn ⟨by simpa using hl, _, upd_same, (e2.set rv j).up xt⟩
          | _ => cases h
        | dic kvs =>
          simp only at h
          cases hk : keyOf k with
          | none => rw [hk] at h; cases h
          | some key =>
            rw [hk] at h
            simp only at h
            obtain ⟨hc, h⟩ := ite_some h
            cases h
            obtain ⟨vs, e1, e2⟩ := rs.at hs hn
            obtain rfl : zk = kV key := keyOf_rv rk hk
            have xt : Ext m H m (upd H a (.dK (putK vs key zv))) := Ext.changed (mem_of_get hn)
            refine .inr ⟨a, _, rfl, .k e1 (by rw [← e2.length]; exact hc), q _ xt ?_⟩
            exact rs.change hn ⟨_, upd_same, KVr.mono xt (KVr.put rv e2)⟩
        | _ => cases h
  | _ => cases h
theorem sp_sub {o i e : Expr} {spos p : Pos} {xo xi x : PF.X} (hs : noSlice i = true) (ho : Snd XR B cf N k sc o xo) (hi : Snd XR B cf N k sc i xi) (h : Snd XR B cf N k sc e x) : SndS XR B cf N k sc (.Assign [.Subscript o i spos] e p) (.setix xo xi x) := fun W X C T =>
  ps_imp (ps_asg (h W X C).1 (pg_sub (ho W X C).1 (hi W X C).1 (set_any (by have := C.hu; omega)) (sub_plain hs)) swaps_sub rfl rfl) fun D σ H ⟨m, e, S, re, rs, q⟩ => by
    rw [PF.ex] at q
    refine ⟨m, e, S, re, rs, q.step re fun v S1 z m1 H1 e1 rs1 r1 q1 => ⟨m1, e, S1, re.up e1, rs1, q1.step (re.up e1) fun o S2 z2 m2 H2 e2 rs2 r2 q2 => ⟨m2, e, S2, (re.up e1).up e2, rs2, q2.step ((re.up e1).up e2) fun i S3 z3 m3 H3 e3 rs3 r3 q3 => ?_⟩⟩⟩
    cases hp : setixV S3 o i v with
    | none => rw [hp] at q3; exact q3.elim
    | some S' =>
      rw [hp] at q3
      exact setix_ok rs3 (r2.up e3) r3 ((r1.up e2).up e3) hp fun H' xt rs' => q3 σ m3 H' xt rs' ((((re.up e1).up e2).up e3).up xt)
theorem local_ok {sc : Scope} {y : Str} (h : isLocal sc y = true) : sc.names.lookup y = some .local := by
  unfold isLocal at h
  cases e : sc.names.lookup y with
  | none => rw [e] at h; cases h
  | some u => rw [e] at h; cases u <;> first | rfl | cases h
theorem kind_ok {a : ScopeKind} (h : (a == .function) = true) : a = .function := by cases a <;> first | rfl | cases h
theorem sp_comp {y : Str} {py p pos : Pos} {i : Nat} {l : Bool} {elt tg iter : Expr} {ifs : List Expr} {scope : Scope} {x : PF.X} {t : Tg} {ik : IK} {its cs : List PF.X} (h : SndC XR B cf N k sc scope elt tg iter ifs x t ik its cs) (hi : slotOf N y = some i)
    (hs : swC sc y py (.ListComp elt [⟨tg, iter, ifs, 0⟩] scope pos) = true) :
    SndS XR B cf N k sc (.Assign [.Name y py] (.ListComp elt [⟨tg, iter, ifs, 0⟩] scope pos) p) (.set (.n i) (.comp l x ((ownOf N scope).map (·.2)) t ik its cs)) := fun W X C T => by
  have hs : ((sc.kind == .function) && isLocal sc y && (py.line == pos.line) && !(scope.names.any fun (n, k) => n == y && (k == .local || k == .cell))) = true := hs
  simp only [Bool.and_eq_true, Bool.not_eq_true'] at hs
  have hk : X.env.scope.kind = .function := by rw [C.scope]; exact kind_ok hs.1.1.1
  have hy : sc.names.lookup y = some .local := local_ok hs.1.1.2
  refine ps_imp (ps_comp (l := l) C h hi hy (sw_true hk (by rw [C.scope]; exact hy) hs.1.2 hs.2)) fun D σ H ⟨m, e, S, re, rs, q⟩ => ?_
  rw [PF.ex] at q
  exact ⟨m, e, S, re, rs, q.step re fun v S1 z m1 H1 e1 rs1 r1 q1 => q1.nxt rs1 ((re.up e1).set r1 i)⟩
theorem par_swap {sc : Scope} {env : PySem.Env} {x y : Str} {px py pt pt2 : Pos} {kt k2 : Nat} {a b : Expr} (hsc : env.scope = sc) (h : parOk sc x y px py a b = true) :
    swappedStores [.Tuple [.Name x px, .Name y py] kt pt] (.Tuple [a, b] k2 pt2) env = pure (some [x, y]) := by
  unfold parOk at h
  simp only [Bool.and_eq_true, Bool.not_eq_true', Bool.and_eq_false_imp] at h
  obtain ⟨⟨⟨⟨⟨⟨⟨⟨h1, h2⟩, h3⟩, h4⟩, h5⟩, h6⟩, h7⟩, h8⟩, h9⟩ := h
  have hb : env.blockKind = .function := by
    unfold PySem.Env.blockKind
    rw [hsc, kind_ok h1]
    rfl
  have kx : env.kindOf x = some .local := by
    show env.scope.names.lookup x = _
    rw [hsc]; exact local_ok h4
  have ky : env.kindOf y = some .local := by
    show env.scope.names.lookup y = _
    rw [hsc]; exact local_ok h5
  have hl : (px.line == px.line) = true := by simp
  have hxy : x ≠ y := fun z => by
    rw [z] at h7
    simp at h7
  have he : [x, y].eraseDups.length = 2 := by simp [List.eraseDups_cons, List.filter_cons, hxy, Ne.symm hxy]
  unfold swappedStores
  simp only [hb, kx, ky, Expr.pos, List.length_cons, List.length_nil, List.any_cons, List.any_nil, List.head?_cons, Option.map_some, Option.getD_some, List.filterMap_cons, List.filterMap_nil, h6, hl]
  refine (if_neg (by decide)).trans ?_
  refine (if_neg ?_).trans ?_
  · intro z
    rw [Bool.or_false] at z
    rcases Bool.or_eq_true _ _ ▸ z with z | z
    · cases a <;> first | (cases h2; done) | (cases z; done)
    · cases b <;> first | (cases h3; done) | (cases z; done)
  refine (if_neg ?_).trans ?_
  · intro z
    have z : ([x, y].length != 0 + 1 + 1 || [x, y].eraseDups.length != [x, y].length) = true := z
    rw [he] at z
    cases z
  refine (if_neg ?_).trans ?_
  · intro z
    simp only [List.all_cons, List.all_nil, Bool.and_true, Bool.and_eq_true] at z
    rw [h8 z.1] at z
    cases z.2
  refine (if_neg ?_).trans ?_
  · intro z
    simp only [List.all_cons, List.all_nil, Bool.and_true, Bool.and_eq_true] at z
    rw [h9 z.1] at z
    cases z.2
  rfl
theorem sp_par {x y : Str} {px py pt pt2 p : Pos} {kt k2 : Nat} {a b : Expr} {i j : Nat} {u v : PF.X} (h : parOk sc x y px py a b = true) (hi : slotOf N x = some i) (hj : slotOf N y = some j) (ha : Snd XR B cf N k sc a u) (hb : Snd XR B cf N k sc b v) :
    SndS XR B cf N k sc (.Assign [.Tuple [.Name x px, .Name y py] kt pt] (.Tuple [a, b] k2 pt2) p) (.par i j u v) := fun W X C T => by
  have h' := h
  unfold parOk at h'
  simp only [Bool.and_eq_true, Bool.not_eq_true'] at h'
  obtain ⟨⟨⟨⟨⟨⟨⟨⟨h1, h2⟩, h3⟩, h4⟩, h5⟩, h6⟩, h7⟩, h8⟩, h9⟩ := h'
  have hij : i ≠ j := fun z => by
    have a := slot_get hi
    have b := slot_get hj
    rw [z, b] at a
    cases a
    simp at h7
  refine ps_imp (ps_par (i := i) (j := j) C.calm (by rw [C.names]; exact C.nd) (by rw [C.names]; exact slot_get hi) (by rw [C.names]; exact slot_get hj) hij (by rw [C.scope]; exact local_ok h4) (by rw [C.scope]; exact local_ok h5)
    (pa_of C (.cons ha (.cons hb .nil)) (by rw [List.all_cons, List.all_cons, h2, h3]; rfl)) (par_swap C.scope h) rfl) fun D σ H ⟨m, e, S, re, rs, q⟩ => ?_
  have q : PostS X.K W m H ((evs cf [u, v] e S).toS e fun vs S => match vs with | [v, u] => .nx ((e.set i (some v)).set j (some u)) S | _ => .bad) D := by
    rw [PF.ex] at q
    simp only [evs, R.bind_ok]
    cases h1 : ev cf u e S with
    | ok v1 S1 =>
      rw [h1] at q
      simp only [R.toS_ok, R.bind_ok] at q ⊢
      cases h2 : ev cf v e S1 with
      | ok v2 S2 => rw [h2] at q; exact q
      | _ => rw [h2] at q; exact q
    | _ => rw [h1] at q; exact q
  refine ⟨m, e, S, re, rs, q.step re fun vs S1 z m1 H1 e1 rs1 r1 q1 => ?_⟩
  match vs, r1, q1 with
  | [], _, q1 => exact q1.elim
  | [_], _, q1 => exact q1.elim
  | _ :: _ :: _ :: _, _, q1 => exact q1.elim
  | [v1, v2], r1, q1 =>
    obtain ⟨z1, z2, rfl, r2, r3⟩ := rvs2 r1
    exact ⟨z1, z2, rfl, q1.nxt rs1 (((re.up e1).set r2 i).set r3 j)⟩
/-! ### x += e -/
def ipOf : Operator → TIp
  | .Add => ipI fun i j => i + j
  | .Sub => ipI fun i j => i - j
  | _ => fun _ _ _ _ => False
theorem sp_aug {y : Str} {py p : Pos} {i : Nat} {op : Operator} {e : Expr} {x : PF.X} (ho : ownName sc y = true) (hop : augOk op = true) (hi : slotOf N y = some i) (h : Snd XR B cf N k sc e x) : SndS XR B cf N k sc (.AugAssign (.Name y py) op e p) (.aug i op x) := fun W X C T => by
  have ip : PIp X op (ipOf op) := by
    cases op <;> first | exact ip_add | exact ip_sub | cases hop
  refine ps_imp (ps_aug (i := i) (by rw [C.names]; exact C.nd) (by rw [C.names]; exact slot_get hi) (T y ho).1 (h W X C).1 ip (T y ho).2) fun D σ H ⟨m, e, S, re, rs, q⟩ => ?_
  rw [PF.ex] at q
  cases hg : e[i]? with
  | none => rw [hg] at q; exact q.elim
  | some o =>
    cases o with
    | none => rw [hg] at q; exact q.elim
    | some v =>
      rw [hg] at q
      obtain ⟨z, g1, g2⟩ := re.get hg
      refine ⟨z, g1, m, e, S, re, rs, PostS.step re q fun u S1 z2 m1 H1 e1 rs1 r1 q1 => ?_⟩
      cases ha : augV op S1 v u with
      | none => rw [ha] at q1; exact q1.elim
      | some w =>
        rw [ha] at q1
        have g2' := g2.up e1
        cases op <;> first | (cases hop; done) | skip
        all_goals
          cases v <;> cases u <;> first | (cases ha; done) | skip
          cases ha
          cases g2'
          cases r1
          exact ⟨_, _, rfl, rfl, q1.nxt rs1 ((re.up e1).set (.int _) i)⟩
/-! ### loops -/
theorem sp_for {tg iter : Expr} {b : List Stmt} {p : Pos} {t : Tg} {ik : IK} {its : List PF.X} {ys : List Sm} (ht : trTg N sc tg = some t) (hn : noSet iter = true) (hi : SndI XR B cf N k sc tg iter ik its) (hb : SndSs XR B cf N k sc b ys) :
    SndS XR B cf N k sc (.For tg iter b [] p) (.forS t ik its ys) := fun W X C T => by
  refine ps_imp (ps_for C.own C.calm (hi W X C) (pg_of C T ht) (pss_of C T hb) (folded_plain hn)) fun D σ H ⟨m, e, S, re, rs, q⟩ => ?_
  have q : PostS X.K W m H ((evI cf ik its e S).toS e fun p S => forL p.2 (fun x e S => match putT t x e with | some e' => exs cf ys e' S | none => .bad) p.1 e S) D := by
    rw [PF.ex] at q
    unfold evI
    cases hv : evs cf its e S with
    | ok v S1 =>
      rw [hv] at q
      simp only [R.bind_ok]
      exact q
    | _ => rw [hv] at q; exact q
  refine ⟨m, e, S, re, rs, q.step re fun pr S1 J m1 H1 e1 rs1 wl q1 => ?_⟩
  refine ⟨fun i n σ' H' => i ≤ pr.1.length ∧ n = pr.1.length - i ∧ ∃ m' e' S', Ext m1 H1 m' H' ∧ Rel X.K S' m' H' ∧ RE X.K m' H' e' σ' ∧
      PostS X.K W m' H' (forL pr.2 (fun x e S => match putT t x e with | some e' => exs cf ys e' S | none => .bad) (pr.1.drop i) e' S') D,
    ⟨pr.1.length, Nat.zero_le _, by simp, m1, e, S1, Ext.refl, rs1, re.up e1, q1⟩, ?_⟩
  rintro i n σ' H' ⟨hi, hn, m', e', S', ex, rs', re', hq⟩
  cases hx : pr.1[i]? with
  | none =>
    have hd : pr.1.drop i = [] := List.drop_eq_nil_of_le (List.getElem?_eq_none_iff.mp hx)
    rw [hd, forL] at hq
    by_cases hg : grdOk pr.2 S' = true
    · rw [if_pos hg] at hq
      exact .inl ⟨(wl.2 i _ S' H' ex.lat rs' hg).2 hx, hq.nxt rs' re'⟩
    · rw [if_neg hg] at hq; exact hq.elim
  | some y =>
    rw [drop_get hx, forL] at hq
    by_cases hg : grdOk pr.2 S' = true
    · rw [if_pos hg] at hq
      obtain ⟨go, yl⟩ := (wl.2 i _ S' H' ex.lat rs' hg).1 y hx
      have hlt : i < pr.1.length := (List.getElem?_eq_some_iff.mp hx).1
      refine .inr ⟨go, fun σ2 H2 => (i + 1 ≤ pr.1.length ∧ pr.1.length - (i + 1) = pr.1.length - (i + 1) ∧ ∃ m' e' S', Ext m1 H1 m' H2 ∧ Rel X.K S' m' H2 ∧ RE X.K m' H2 e' σ2 ∧
          PostS X.K W m' H2 (forL pr.2 (fun x e S => match putT t x e with | some e' => exs cf ys e' S | none => .bad) (pr.1.drop (i + 1)) e' S') D), fun σ2 H2 z => ⟨_, by omega, z⟩, fun v H2 hy => ?_⟩
      obtain ⟨e2, rs2, rv⟩ := yl v H2 hy
      cases hp : putT t y e' with
      | none => rw [hp] at hq; exact hq.elim
      | some e3 =>
        rw [hp] at hq
        simp only at hq
        refine tgG_read t m' H2 e' e3 σ' y v _ (re'.up e2) rv hp fun σ3 re3 _ => ⟨m', e3, S', re3, rs2, ?_⟩
        have hq := PostS.up e2 hq
        cases hr : exs cf ys e3 S' with
        | nx e4 S4 =>
          rw [hr] at hq
          exact fun σ4 m4 H4 x4 rs4 re4 => ⟨hlt, rfl, m4, e4, S4, (ex.trans e2).trans x4, rs4, re4, PostS.up x4 hq⟩
        | ct e4 S4 =>
          rw [hr] at hq
          exact fun σ4 m4 H4 x4 rs4 re4 => ⟨hlt, rfl, m4, e4, S4, (ex.trans e2).trans x4, rs4, re4, PostS.up x4 hq⟩
        | bk e4 S4 => rw [hr] at hq; exact hq
        | rt v4 S4 => rw [hr] at hq; exact hq
        | exc c4 fs4 e4 S4 => rw [hr] at hq; exact hq
        | bad => rw [hr] at hq; exact hq
    · rw [if_neg hg] at hq; exact hq.elim
theorem sp_whl {c : Expr} {b : List Stmt} {p : Pos} {x : PF.X} {ys : List Sm} (hc : Snd XR B cf N k sc c x) (hb : SndSs XR B cf N k sc b ys) : SndS XR B cf N k sc (.While c b [] p) (.whl x ys) := fun W X C T => by
  refine ps_imp (ps_while C.own (hc W X C).2.1 (pss_of C T hb)) fun D σ H ⟨m, e, S, re, rs, q⟩ => ?_
  rw [PF.ex] at q
  refine ⟨fun n σ' H' => ∃ m' e' S', Rel X.K S' m' H' ∧ RE X.K m' H' e' σ' ∧ PostS X.K W m' H' (whlL (evT cf x) (fun e S => exs cf ys e S) n e' S') D, ⟨whlMost, m, e, S, rs, re, q⟩, ?_⟩
  rintro n σ' H' ⟨m', e', S', rs', re', hq⟩
  cases n with
  | zero => rw [whlL] at hq; exact hq.elim
  | succ n =>
    rw [whlL] at hq
    refine ⟨m', e', S', re', rs', hq.step re' fun d S1 z m1 H1 e1 rs1 r1 q1 => ?_⟩
    cases r1
    cases d with
    | false => exact PostS.nxt q1 rs1 (re'.up e1)
    | true =>
      refine ⟨fun σ2 H2 => ∃ m' e' S', Rel X.K S' m' H2 ∧ RE X.K m' H2 e' σ2 ∧ PostS X.K W m' H2 (whlL (evT cf x) (fun e S => exs cf ys e S) n e' S') D, fun σ2 H2 z => ⟨n, Nat.lt_succ_self n, z⟩, m1, e', S1, re'.up e1, rs1, ?_⟩
      rw [if_pos rfl] at q1
      cases hr : exs cf ys e' S1 with
      | nx e4 S4 =>
        rw [hr] at q1
        exact fun σ4 m4 H4 x4 rs4 re4 => ⟨m4, e4, S4, rs4, re4, PostS.up x4 q1⟩
      | ct e4 S4 =>
        rw [hr] at q1
        exact fun σ4 m4 H4 x4 rs4 re4 => ⟨m4, e4, S4, rs4, re4, PostS.up x4 q1⟩
      | bk e4 S4 => rw [hr] at q1; exact q1
      | rt v4 S4 => rw [hr] at q1; exact q1
      | exc c4 fs4 e4 S4 => rw [hr] at q1; exact q1
      | bad => rw [hr] at q1; exact q1
/-! ### the whole -/
theorem comp_form {n : Nat} {elt : Expr} {gs : List Comprehension} {scope : Scope} {pos : Pos} {x : PF.X} (h : tr B N (n + 1) sc (.ListComp elt gs scope pos) = some x) : ∃ tg iter ifs, gs = [⟨tg, iter, ifs, 0⟩] := by
  rw [tr.eq_def] at h
  simp only at h
  split at h
  all_goals first
    | (rename_i heq; cases heq; exact ⟨_, _, _, rfl⟩)
    | (rename_i heq; cases heq; done)
    | cases h
theorem par_ok {rec : Expr → Option PF.X} (hr : ∀ e x, rec e = some x → Snd XR B cf N k sc e x) {es : List Expr} {kk : Nat} {tp p : Pos} {e : Expr} {x : Sm} (h : trPar N sc rec es e = some x) : SndS XR B cf N k sc (.Assign [.Tuple es kk tp] e p) x := by
  unfold trPar at h
  split at h
  · obtain ⟨hc, h⟩ := ite_some h
    obtain ⟨i, j, u, v, h1, h2, h3, h4, rfl⟩ := four_ok h
    exact sp_par hc h1 h2 (hr _ _ h3) (hr _ _ h4)
  · cases h
theorem snd_asg {n : Nat} {e tg : Expr} {p : Pos} {x : Sm} (h : trAsg N sc (tr B N n sc) e tg = some x) : SndS XR B cf N k sc (.Assign [tg] e p) x := by
  cases tg with
  | Name y py =>
    rw [trAsg] at h
    obtain ⟨hc, h⟩ := ite_some h
    obtain ⟨i, z, h1, h2, rfl⟩ := two_ok h
    simp only [Bool.and_eq_true, Bool.or_eq_true] at hc
    rcases hc.2 with hs | hs
    · exact sp_set hc.1 h1 hs (snd_tr n sc _ _ h2)
    · cases n with
      | zero => rw [tr] at h2; cases h2
      | succ n =>
        cases e with
        | ListComp elt gs scope pos =>
          obtain ⟨tg, iter, ifs, rfl⟩ := comp_form h2
          obtain ⟨y', t, ik, its, cs, hC, rfl⟩ := sndC_of (fun sc e x hx => snd_tr n sc e x hx) h2
          exact sp_comp hC h1 hs
        | _ => cases hs
  | Tuple es kk tp =>
    rw [trAsg] at h
    cases ht : isTuple e with
    | true =>
      rw [ht, if_pos rfl] at h
      exact par_ok (snd_tr n sc) h
    | false =>
      rw [ht] at h
      simp only [Bool.false_eq_true, if_false] at h
      obtain ⟨hc, h⟩ := ite_some h
      obtain ⟨t, y, h1, h2, rfl⟩ := two_ok h
      exact sp_tup h1 hc ht (snd_tr n sc _ _ h2)
  | Subscript o i sp =>
    rw [trAsg] at h
    obtain ⟨hc, h⟩ := ite_some h
    obtain ⟨a, b, c, h1, h2, h3, rfl⟩ := three_ok h
    exact sp_sub hc (snd_tr n sc _ _ h1) (snd_tr n sc _ _ h2) (snd_tr n sc _ _ h3)
  | _ => cases h
theorem snd_trS : ∀ (n : Nat) (st : Stmt) (x : Sm), trS B N sc n st = some x → SndS XR B cf N k sc st x
  | 0, _, _, h => by rw [trS] at h; cases h
  | n + 1, st, x, h => by
    have ih := snd_trS n
    have ie := snd_tr (XR := XR) (B := B) (cf := cf) (N := N) (k := k) n sc
    rw [trS.eq_def] at h
    simp only at h
    split at h
    · cases h; exact sp_pass
    · cases h; exact sp_brk
    · cases h; exact sp_cnt
    · rename_i e p
      by_cases hs : isStr e = true
      · rw [if_pos hs] at h; cases h; exact sp_doc hs
      · rw [if_neg hs] at h
        obtain ⟨hc, h⟩ := ite_some h
        obtain ⟨y, hy, rfl⟩ := map_some h
        exact sp_ex hc (ie _ _ hy)
    · cases h; exact sp_retN
    · obtain ⟨y, hy, rfl⟩ := map_some h
      exact sp_ret (ie _ _ hy)
    · obtain ⟨c, a, b, h1, h2, h3, rfl⟩ := three_ok h
      exact sp_if (ie _ _ h1) (snds_list ih h2) (snds_list ih h3)
    · obtain ⟨c, b, h1, h2, rfl⟩ := two_ok h
      exact sp_whl (ie _ _ h1) (snds_list ih h2)
    · obtain ⟨hc, h⟩ := ite_some h
      obtain ⟨t, ⟨ik, its⟩, b, h1, h2, h3, rfl⟩ := three_ok h
      exact sp_for h1 hc (snd_it (fun e x hx => ie e x hx) h2) (snds_list ih h3)
    · exact snd_asg h
    · obtain ⟨hc, h⟩ := ite_some h
      rw [Bool.and_eq_true] at hc
      obtain ⟨i, y, h1, h2, rfl⟩ := two_ok h
      exact sp_aug hc.1 hc.2 h1 (ie _ _ h2)
    · cases h
end
end L2.PF

set_option Elab.async false
set_option linter.all false
set_option maxRecDepth 100000
set_option maxHeartbeats 4000000
/-! PFN: defs, the law's end. -/
namespace L2.PF
open PySem PySem.Spec PyProof.Rows
/-! ### what a call forgets -/
section
variable {K : PySem.W.Frag} {m m' : Mp} {H H' : Hp}
mutual
theorem RV.und : ∀ (x : PV) (v : V), RV K m H x v → PV.und m.locs.length x = true
  | _, _, .non => rfl
  | _, _, .bl _ => rfl
  | _, _, .int _ => rfl
  | _, _, .str _ _ => rfl
  | .tup xs, _, .tup _ _ r => by rw [PV.und]; exact RVs.und _ _ r
  | .lv xs, _, .lv _ _ _ r => by rw [PV.und]; exact RVs.und _ _ r
  | .fz xs, _, .fz _ _ r => by rw [PV.und]; exact RVs.und _ _ r
  | .dv ks xs, _, .dv _ _ _ r => by rw [PV.und]; exact RVs.und _ _ r
  | .iv c ns xs, _, .iv _ _ _ _ r => by rw [PV.und]; exact RVs.und _ _ r
  | .loc n, _, .loc h => by rw [PV.und]; exact decide_eq_true (List.getElem?_eq_some_iff.mp h).1
theorem RVs.und : ∀ (x : List PV) (v : List V), RVs K m H x v → PV.undL m.locs.length x = true
  | _, _, .nil => rfl
  | _, _, .cons r t => by rw [PV.undL, RV.und _ _ r, RVs.und _ _ t]; rfl
end
theorem out_cut {a : Addr} (hp : ∃ more, m'.locs = m.locs ++ more) (hr : m'.res = m.res) (h : a ∉ m') : a ∉ m := fun z => h (by
  obtain ⟨more, hm⟩ := hp
  rcases Mp.mem.mp z with z | z
  · exact Mp.mem.mpr (.inl (by rw [hm]; exact List.mem_append_left _ z))
  · exact Mp.mem.mpr (.inr (by rw [hr]; exact z)))
mutual
theorem RV.cut (hp : ∃ more, m'.locs = m.locs ++ more) (hr : m'.res = m.res) : ∀ (x : PV) (v : V), RV K m' H' x v → PV.und m.locs.length x = true → RV K m H' x v
  | _, _, .non, _ => .non
  | _, _, .bl b, _ => .bl b
  | _, _, .int i, _ => .int i
  | _, _, .str x h, _ => .str x h
  | .tup xs, _, .tup hl (.inl ⟨n, h⟩) r, u => .tup hl (.inl ⟨out_cut hp hr n, h⟩) (RVs.cut hp hr _ _ r (by rw [PV.und] at u; exact u))
  | .tup xs, _, .tup hl (.inr h) r, u => .tup hl (.inr h) (RVs.cut hp hr _ _ r (by rw [PV.und] at u; exact u))
  | .lv xs, _, .lv hl n h r, u => .lv hl (out_cut hp hr n) h (RVs.cut hp hr _ _ r (by rw [PV.und] at u; exact u))
  | .fz xs, _, .fz hl (.inl ⟨n, h⟩) r, u => .fz hl (.inl ⟨out_cut hp hr n, h⟩) (RVs.cut hp hr _ _ r (by rw [PV.und] at u; exact u))
  | .fz xs, _, .fz hl (.inr h) r, u => .fz hl (.inr h) (RVs.cut hp hr _ _ r (by rw [PV.und] at u; exact u))
  | .dv ks xs, _, .dv hl n h r, u => .dv hl (out_cut hp hr n) h (RVs.cut hp hr _ _ r (by rw [PV.und] at u; exact u))
  | .iv c ns xs, _, .iv hl n h hC r, u => .iv hl (out_cut hp hr n) h hC (RVs.cut hp hr _ _ r (by rw [PV.und] at u; exact u))
  | .loc n, _, .loc h, u => .loc (by
    rw [PV.und] at u
    obtain ⟨more, hm⟩ := hp
    rw [hm, List.getElem?_append_left (of_decide_eq_true u)] at h
    exact h)
theorem RVs.cut (hp : ∃ more, m'.locs = m.locs ++ more) (hr : m'.res = m.res) : ∀ (x : List PV) (v : List V), RVs K m' H' x v → PV.undL m.locs.length x = true → RVs K m H' x v
  | _, _, .nil, _ => .nil
  | _, _, .cons r t, u => by
    rw [PV.undL, Bool.and_eq_true] at u
    exact .cons (RV.cut hp hr _ _ r u.1) (RVs.cut hp hr _ _ t u.2)
end
theorem KVr.cut (hp : ∃ more, m'.locs = m.locs ++ more) (hr : m'.res = m.res) {κ : Type} : ∀ {x : List (κ × PV)} {v : List (κ × V)}, KVr K m' H' x v → PV.undL m.locs.length (x.map (·.2)) = true → KVr K m H' x v
  | _, _, .nil, _ => .nil
  | _, _, .cons r t, u => by
    rw [List.map_cons, PV.undL, Bool.and_eq_true] at u
    exact .cons (RV.cut hp hr _ _ r u.1) (KVr.cut hp hr t u.2)
theorem KVr.und {κ : Type} : ∀ {x : List (κ × PV)} {v : List (κ × V)}, KVr K m H x v → PV.undL m.locs.length (x.map (·.2)) = true
  | _, _, .nil => rfl
  | _, _, .cons r t => by rw [List.map_cons, PV.undL, RV.und _ _ r, KVr.und t]; rfl
theorem RO.und {o : PO} {a : Addr} (r : RO K m H o a) : PO.und m.locs.length o = true := by
  cases o with
  | lst xs => obtain ⟨_, vs, _, h⟩ := r; exact RVs.und _ _ h
  | dic kvs => obtain ⟨vs, _, h⟩ := r; exact KVr.und h
  | ins c fs => obtain ⟨C, dx, vs, _, _, h⟩ := r; exact KVr.und h
theorem RO.cut (hp : ∃ more, m'.locs = m.locs ++ more) (hr : m'.res = m.res) {o : PO} {a : Addr} (r : RO K m' H' o a) (u : PO.und m.locs.length o = true) : RO K m H' o a := by
  cases o with
  | lst xs => obtain ⟨hl, vs, h1, h2⟩ := r; exact ⟨hl, vs, h1, RVs.cut hp hr _ _ h2 u⟩
  | dic kvs => obtain ⟨vs, h1, h2⟩ := r; exact ⟨vs, h1, KVr.cut hp hr h2 u⟩
  | ins c fs => obtain ⟨C, dx, vs, h1, h2, h3⟩ := r; exact ⟨C, dx, vs, h1, h2, KVr.cut hp hr h3 u⟩
theorem zip_at {α β : Type} {xs : List α} {ys : List β} {i : Nat} {x : α} {y : β} (h1 : xs[i]? = some x) (h2 : ys[i]? = some y) : (x, y) ∈ xs.zip ys := by
  refine List.mem_of_getElem? (i := i) ?_
  rw [List.getElem?_zip_eq_some]
  exact ⟨h1, h2⟩
/-- an object that was laid since -/
theorem fresh_out {S0 S : Store} (r0 : Rel K S0 m H) (e : Ext m H m' H') (rs : Rel K S m' H') {n : Nat} {a : Addr} (hn : m.locs.length ≤ n) (h : m'.locs[n]? = some a) : a ∉ m := fun z => by
  obtain ⟨more, hm⟩ := e.pre
  have hnl : a ∉ m.locs := fun z => by
    obtain ⟨i, hi, he⟩ := List.mem_iff_getElem.mp z
    have h1 : m'.locs[i]? = some a := by rw [hm, List.getElem?_append_left hi, List.getElem?_eq_getElem hi, he]
    have := (List.getElem?_inj (List.getElem?_eq_some_iff.mp h1).1 rs.nd).mp (h1.trans h.symm)
    omega
  rcases Mp.mem.mp z with z | z
  · exact hnl z
  · obtain ⟨u, hu⟩ := r0.aside a z
    rw [e.new a (List.mem_of_getElem? h) hnl] at hu
    cases hu
section
variable {S0 S : Store}
theorem frz_get (r0 : Rel K S0 m H) (e : Ext m H m' H') (rs : Rel K S m' H') : ∀ (k : Nat) (v u : PV) (x : V), frz m.locs.length S k v = some u → RV K m' H' v x → RV K m H' u x
  | 0, v, u, x, h, _ => by rw [frz] at h; cases h
  | k + 1, v, u, x, h, r => by
    have all : ∀ (xs us : List PV) (ws : List V), mapO (frz m.locs.length S k) xs = some us → RVs K m' H' xs ws → RVs K m H' us ws := by
      intro xs
      induction xs with
      | nil => intro us ws h r; rw [mapO] at h; cases h; cases r; exact .nil
      | cons y ys ih =>
        intro us ws h r
        rw [mapO] at h
        cases h1 : frz m.locs.length S k y with
        | none => rw [h1] at h; cases h
        | some z =>
          rw [h1] at h
          cases h2 : mapO (frz m.locs.length S k) ys with
          | none => rw [h2] at h; cases h
          | some zs =>
            rw [h2] at h
            cases h
            cases r with
            | cons r t => exact .cons (frz_get r0 e rs k y z _ h1 r) (ih _ _ h2 t)
    have len : ∀ (xs us : List PV), mapO (frz m.locs.length S k) xs = some us → xs.length = us.length := by
      intro xs
      induction xs with
      | nil => intro us h; rw [mapO] at h; cases h; rfl
      | cons y ys ih =>
        intro us h
        rw [mapO] at h
        cases h1 : frz m.locs.length S k y with
        | none => rw [h1] at h; cases h
        | some z =>
          rw [h1] at h
          cases h2 : mapO (frz m.locs.length S k) ys with
          | none => rw [h2] at h; cases h
          | some zs => rw [h2] at h; cases h; rw [List.length_cons, List.length_cons, ih _ h2]
    have hp := e.pre
    rw [frz] at h
    by_cases hu : PV.und m.locs.length v = true
    · rw [if_pos hu] at h
      cases h
      exact RV.cut hp e.res _ _ r hu
    · rw [if_neg hu] at h
      cases r with
      | tup hl ht r =>
        obtain ⟨us, h1, rfl⟩ := map_some h
        have hl' : us.length ≤ sizeLine := by rw [← len _ _ h1]; exact hl
        rcases ht with ⟨n, ht⟩ | ht
        · exact .tup hl' (.inl ⟨out_cut hp e.res n, ht⟩) (all _ _ _ h1 r)
        · exact .tup hl' (.inr ht) (all _ _ _ h1 r)
      | lv hl n ht r =>
        obtain ⟨us, h1, rfl⟩ := map_some h
        exact .lv (by rw [← len _ _ h1]; exact hl) (out_cut hp e.res n) ht (all _ _ _ h1 r)
      | dv hl n ht r =>
        obtain ⟨us, h1, rfl⟩ := map_some h
        exact .dv (by rw [← len _ _ h1]; exact hl) (out_cut hp e.res n) ht (all _ _ _ h1 r)
      | iv hl n ht hC r =>
        obtain ⟨us, h1, rfl⟩ := map_some h
        exact .iv (by rw [← len _ _ h1]; exact hl) (out_cut hp e.res n) ht hC (all _ _ _ h1 r)
      | @loc n a hn =>
        have hge : m.locs.length ≤ n := by
          rw [PV.und] at hu
          simpa using hu
        have ha := fresh_out r0 e rs hge hn
        rw [frzB] at h
        cases g : S[n]? with
        | none => rw [g] at h; cases h
        | some o =>
          rw [g] at h
          have ro := rs.at g hn
          cases o with
          | lst xs =>
            obtain ⟨us, h1, rfl⟩ := map_some h
            obtain ⟨hl, vs, g1, g2⟩ := ro
            exact .lv (by rw [← len _ _ h1]; exact hl) ha g1 (all _ _ _ h1 g2)
          | dic kvs =>
            obtain ⟨us, h1, rfl⟩ := map_some h
            obtain ⟨vs, g1, g2⟩ := ro
            obtain ⟨w1, w2⟩ := g2.vals
            exact .dv (by rw [← len _ _ h1]; simp) ha (by rw [← w2]; exact g1) (all _ _ _ h1 w1)
          | ins c fs =>
            obtain ⟨us, h1, rfl⟩ := map_some h
            obtain ⟨C, dx, vs, g1, gC, g2⟩ := ro
            obtain ⟨w1, w2⟩ := g2.vals
            exact .iv (by rw [← len _ _ h1]; simp) ha (by rw [← w2]; exact g1) gC (all _ _ _ h1 w1)
      | _ => cases h
theorem keep_rel (r0 : Rel K S0 m H) (e : Ext m H m' H') (rs : Rel K S m' H') (hd : keepOk S0 S = true) : Ext m H m H' ∧ Rel K (S.take S0.length) m H' := by
  unfold keepOk at hd
  simp only [Bool.and_eq_true, decide_eq_true_eq, List.all_eq_true, Bool.or_eq_true] at hd
  obtain ⟨h1, h3⟩ := hd
  have hp := e.pre
  refine ⟨⟨⟨[], by simp⟩, rfl, fun a o n h => e.keep a o n h, fun a h n => absurd h n⟩, ⟨?_, r0.nd, fun i o a hs ha => ?_, fun a ha => rs.aside a (by rw [e.res]; exact ha)⟩⟩
  · rw [List.length_take, ← r0.len]
    omega
  · have hi : i < S0.length := by rw [r0.len]; exact (List.getElem?_eq_some_iff.mp ha).1
    have hs' : S[i]? = some o := by
      rw [List.getElem?_take] at hs
      rw [if_pos hi] at hs
      exact hs
    have ro := rs.obj i o a hs' (e.get ha)
    refine ro.cut hp e.res ?_
    have hz := h3 (o, S0[i]) (zip_at hs (List.getElem?_eq_getElem hi))
    rcases hz with hz | hz
    · have hz : o = S0[i] := hz
      rw [hz]
      exact (r0.obj i _ a (List.getElem?_eq_getElem hi) ha).und
    · rw [r0.len] at hz
      exact hz
end
theorem done_get {f : Bool} {S0 S : Store} {v : PV} {Q : VK} {W : WP} (r0 : Rel K S0 m H) (q : Post K (RV K) m H (done f S0 v S) Q W) {x : V} (e : Ext m H m' H') (rs : Rel K S m' H') (rv : RV K m' H' v x) : Q x H' := by
  unfold done at q
  cases f with
  | false =>
    rw [if_neg (by decide)] at q
    by_cases hd : dropOk S0 v S = true
    · rw [if_pos hd] at q
      unfold dropOk at hd
      simp only [Bool.and_eq_true] at hd
      have hk : keepOk S0 S = true := by
        unfold keepOk
        rw [hd.1.1, hd.2]
        rfl
      obtain ⟨e2, rs2⟩ := keep_rel r0 e rs hk
      exact q x m H' e2 rs2 (RV.cut e.pre e.res _ _ rv (by rw [← r0.len]; exact hd.1.2))
    · rw [if_neg hd] at q
      exact q x m' H' e rs rv
  | true =>
    rw [if_pos rfl] at q
    cases hf : frz S0.length S 9 v with
    | none => rw [hf] at q; exact q x m' H' e rs rv
    | some u =>
      rw [hf] at q
      simp only at q
      by_cases hk : keepOk S0 S = true
      · rw [if_pos hk] at q
        obtain ⟨e2, rs2⟩ := keep_rel r0 e rs hk
        exact q x m H' e2 rs2 (frz_get r0 e rs 9 v u x (by rw [← r0.len]; exact hf) rv)
      · rw [if_neg hk] at q
        exact q x m' H' e rs rv
end
/-! ### a def -/
def trDef (B : Tab) (n : Nat) (N ps : List Str) (fz : Bool) (st : Stmt) : Option Fn := (trL (trS B N (defScope st) n) (defBody st)).map fun b => ⟨N.length, ps.length, b, fz⟩
structure DefAt (K : PySem.W.Frag) (mg : Str → Option Value) (B : Tab) (T : List Fn) (x : Str) (f : Nat) (a : Addr) (fd : FuncData) (ps : List Str) : Prop where
  mg : mg x = some (.ref a)
  binds : Binds K fd ps []
  ex : ∃ (st : Stmt) (N : List Str) (F : Fn) (n : Nat) (fz : Bool), L2.Fun K x x st a fd ∧ FnScope N ps (defScope st) ∧ T[f]? = some F ∧ trDef B n N ps fz st = some F
structure ModOk (K : PySem.W.Frag) (mg : Str → Option Value) (B : Tab) (T : List Fn) : Prop where
  fns : ∀ (x : Str) (f np : Nat), B.fns.lookup x = some (f, np) → ∃ a fd ps, DefAt K mg B T x f a fd ps ∧ ps.length = np
  gls : ∀ (x : Str) (v : PV), B.gls.lookup x = some v → ∃ (u : Value) (w : V), mg x = some u ∧ RelV w u ∧ ∀ m H, RV K m H v w
  bls : ∀ x : Str, B.bls.contains x = true → mg x = none
theorem post_false {α β : Type} {K : PySem.W.Frag} {rel : Mp → Hp → α → β → Prop} {m : Mp} {H : Hp} {Q : β → Hp → Prop} {W : WP} (h : Post K rel m H (.bad : R α) Q W) : False := h
theorem start_re {K : PySem.W.Frag} {m : Mp} {H : Hp} {ps : List PV} {vs : List V} {N : List Str} (r : RVs K m H ps vs) : RE K m H (startE N.length ps) (start N vs) := by
  unfold startE L2.start
  rw [r.length]
  exact RE.start _ r
theorem def_ok {P : Program} {w : World} {K : PySem.W.Frag} {mg : Str → Option Value} {base : Heap} {XR : XRel} {B : Tab} {T : List Fn} (M : ModOk K mg B T) : ∀ (d : Nat) (x : Str) (f : Nat) (a : Addr) (fd : FuncData) (ps : List Str), DefAt K mg B T x f a fd ps →
    FnOk P w K mg base (L2.CX P w) d a fd ps (spOf K XR (call T d f) ps.length)
  | 0, x, f, a, fd, ps, D => by
    refine ⟨fun vs H Q E h => h.1, fun A outer s H args us vs Q E hr he hb hv hs => ?_⟩
    obtain ⟨_, m, S, ps', rs, rv, _, q⟩ := hs
    rw [call] at q
    exact (post_false q).elim
  | d + 1, x, f, a, fd, ps, D => by
    have ih := def_ok (P := P) (w := w) (base := base) (XR := XR) M d
    obtain ⟨st, N, F, n, fz, h2, h4, h5, h7⟩ := D.ex
    refine Fun.okX h2 h4 (fun vs H Q E h => h.1) fun cdv A outer s H vs Q E hr hsp => ?_
    obtain ⟨hl, m, St, ps', rs, rv, hl2, q⟩ := hsp
    obtain ⟨b, hb, rfl⟩ := map_some h7
    have C : Cok XR B (call T d) N (defScope st) d (fun _ c fs m' H' => ∀ cls d, XR c fs m' H' cls d → E cls d H') (cxOf (L2.CX P w) P w K mg base N x (defScope st) a cdv A outer s H E) := {
      calm := rfl
      names := rfl
      nd := h4.nd
      scope := rfl
      room := hr
      fns := fun y g ng hy => by
        obtain ⟨a', fd', ps', D', hl'⟩ := M.fns y g ng hy
        obtain ⟨st', N', F', n', fz', h2', _⟩ := D'.ex
        refine ⟨a', fd', ps', D'.mg, h2'.kp, hl', D'.binds, ?_⟩
        rw [← hl']
        exact ih y g a' fd' ps' D'
      gls := M.gls
      bls := M.bls
      tk := (takes_of rfl rfl rfl rfl).imp fun cls d σ H ⟨c, fs, m, xr, w⟩ => w cls d xr
      own := passes_of rfl }
    have Tk : Tok (defScope st) (cxOf (L2.CX P w) P w K mg base N x (defScope st) a cdv A outer s H E) := fun y hy => by
      refine ⟨?_, .inl rfl⟩
      unfold ownName at hy
      show (defScope st).names.lookup y = some .local ∨ (defScope st).names.lookup y = some .cell
      cases e : (defScope st).names.lookup y with
      | none => rw [e] at hy; cases hy
      | some k => rw [e] at hy; cases k <;> first | exact .inl rfl | exact .inr rfl | cases hy
    refine ⟨_, pss_of C Tk (snds_list (snd_trS n) hb), m, startE N.length ps', St, start_re rv, rs, ?_⟩
    have q : Post K (RV K) m H (fin fz St (exs (call T d) b (startE N.length ps') St)) Q fun c fs m' H' => ∀ cls d, XR c fs m' H' cls d → E cls d H' := by
      rw [call, h5] at q
      simp only at q
      rw [if_pos (show ps'.length = ps.length from hl2)] at q
      exact q
    cases hr : exs (call T d) b (startE N.length ps') St with
    | nx e1 S1 =>
      rw [hr] at q
      exact fun σ m1 H1 x1 rs1 re1 => done_get rs q x1 rs1 .non
    | rt v1 S1 =>
      rw [hr] at q
      exact fun z m1 H1 x1 rs1 rv1 => done_get rs q x1 rs1 rv1
    | bk e1 S1 => rw [hr] at q; exact q.elim
    | ct e1 S1 => rw [hr] at q; exact q.elim
    | exc c fs e1 S1 =>
      rw [hr] at q
      exact fun σ m1 H1 x1 rs1 re1 => q m1 H1 x1 rs1
    | bad => rw [hr] at q; exact q.elim
/-! ### the law -/
theorem vints {K : PySem.W.Frag} {m : Mp} {H : Hp} : ∀ ns : List Int, RVs K m H (ns.map PV.int) (ns.map V.int)
  | [] => .nil
  | n :: ns => .cons (.int n) (vints ns)
/-- what the script lies as -/
theorem script_fz {K : PySem.W.Frag} {H : Hp} {a : Addr} {ns : List Int} {n : Nat} (hn : ns.length ≤ n) (hn2 : n ≤ sizeLine) (hO : Only H) (h : SqL K H a (ns.map V.int)) : RV K ⟨[], []⟩ H (.fz (ns.map PV.int)) (.ref a) := by
  refine .fz (by rw [List.length_map]; omega) ?_ (vints ns)
  rcases h with (h | ⟨o, h⟩) | h
  · rcases hO a with z | ⟨o, xs, z⟩
    · rw [h] at z; cases z
    · rw [h] at z; cases z
  · exact .inl ⟨(fun z => (nomatch (show a ∈ ([] : List Addr) from z))), o, h⟩
  · exact .inr h
def XR0 : XRel := fun _ _ _ _ _ _ => False
/-- the law's promise -/
theorem law_sp {K : PySem.W.Frag} {XR : XRel} {T : List Fn} {d f n : Nat} (hn2 : n ≤ sizeLine) (h : ∀ ns : List Int, ns.length ≤ n → ∃ S, call T d f [.fz (ns.map PV.int)] [] = .ok (.bl true) S) {H : Hp} {a : Addr} {ns : List Int} (hl : ns.length ≤ n) (hO : Only H) (hS : SqL K H a (ns.map V.int)) :
    spOf K XR (call T d f) 1 [.ref a] H (fun v _ => v = .bl true) fun _ _ _ => False := by
  obtain ⟨S, e⟩ := h ns hl
  refine ⟨rfl, ⟨[], []⟩, [], [.fz (ns.map PV.int)], ⟨rfl, .nil, fun i o a h => by simp at h, fun a h => by cases h⟩, .cons (script_fz hl hn2 hO hS) .nil, rfl, ?_⟩
  rw [e]
  intro x m' H' _ _ r
  cases r
  rfl
theorem cx_no {P : Program} {w : World} {H : Hp} {s : Shared} {e : Value} {s' : Shared} (h : L2.CX P w [] H s (fun _ _ _ => False) e s') : False := by
  obtain ⟨_, _, _, _, _, _, _, _, _, _, _, _, z⟩ := h
  exact z
/-- a law by its defs' readings -/
theorem law_end {l : PySem.W.OpenLaw} {n k f : Nat} {q : Program} {loose : List Str} {XP : (Str → Option Value) → Heap → Prop} {YP : World → Heap → Prop} {d : DefRec} {K : Params → PySem.W.Frag} {x : Str} {B : Tab} {T : List Fn} (XR : XRel)
    (hn : l.most = some n) (hn2 : n ≤ sizeLine) (hdf : d.params.defaults = []) (hr : Room k callerA) (hY : ∀ (w : World) (h : Heap), YP w h → (K w.params).In h)
    (hM : ∀ (w : World) (mg : Str → Option Value) (h : Heap), (K w.params).In h → h.Ns mainGlobals mg → ModOk (K w.params) mg B T ∧ ∃ (a : Addr) (fd : FuncData), DefAt (K w.params) mg B T d.name f a fd [x] ∧ ∀ (s : Shared) (u : Value), BindsTo s fd ⟨[u], []⟩ [(x, u)])
    (h : ∀ ns : List Int, ns.length ≤ n → ∃ S, call T k f [.fz (ns.map PV.int)] [] = .ok (.bl true) S) :
    PySem.W.WalkO q loose XP YP l.row.toRowW d [] (fun f vs => PySem.call f vs) := by
  refine L2.walk_of (x := x) (CX := fun w => L2.CX l.prog w) (sp := fun w => spOf (K w.params) XR (call T k f) 1) hn hn2 hdf hr hY ?_ (fun w H a ns h1 h2 h3 => law_sp hn2 h h1 h2 h3) fun w H s e s' hc => cx_no hc
  intro w mg fa hp hK hN hfa
  obtain ⟨M, a, fd, D, hb⟩ := hM w mg hp hK hN
  have e := D.mg.symm.trans hfa
  cases e
  refine ⟨fd, hb, fun base hKb hNb => ?_⟩
  exact def_ok M k d.name f _ fd [x] D
end L2.PF

set_option Elab.async false
set_option linter.all false
set_option maxRecDepth 100000
set_option maxHeartbeats 4000000
/-! PFO: what a law's top has written. -/
namespace L2.PF
open PySem PySem.Spec PyProof.Rows
abbrev S (s : String) : Str := Str.ofString s
section
variable {K : PySem.W.Frag} {mg : Str → Option Value} {B : Tab} {T : List Fn} {h : Heap}
theorem defAt_mk {x : Str} {st : Stmt} {N ps : List Str} {F : Fn} {n i np : Nat} {fz : Bool} {f : Addr} {oc : Value} {od an : Option Addr} {osl : Array (Option Value)} {kV doc pm cdv ct : Value} (X : K.In h) (G : h.Ns mainGlobals mg)
    (a1 : PySem.W.nsIn K mainGlobals x = some (some (.ref f))) (l1 : K.lookup f = some ⟨oc, od, .func (PySem.W.fnOf x x (defArgs st) (defBody st) (defScope st) .none kV doc pm an cdv ct), osl⟩)
    (c1 : PySem.W.codeIn K cdv x = true) (k1 : PySem.W.keepIn K (.ref f) = true) (sc : FnScope N ps (defScope st)) (tr : trDef B n N ps fz st = some F) (hT : T[i]? = some F) (hn : ps.length = np)
    (hb : ∀ (kV doc pm : Value) (an : Option Addr) (cdv ct : Value) (us : List Value), us.length = ps.length → bindArgs (PySem.W.fnOf x x (defArgs st) (defBody st) (defScope st) .none kV doc pm an cdv ct) ⟨us, []⟩ = pure (ps.zip us)) :
    ∃ a fd ps, DefAt K mg B T x i a fd ps ∧ ps.length = np :=
  ⟨f, _, ps, ⟨PySem.W.mg_of X G a1, (fun_mk l1 c1 k1).binds hb, st, N, F, n, fz, fun_mk l1 c1 k1, sc, hT, tr⟩, hn⟩
/-- the law's own def -/
theorem lawAt_mk {x y : Str} {st : Stmt} {N : List Str} {F : Fn} {n i : Nat} {fz : Bool} {f : Addr} {oc : Value} {od an : Option Addr} {osl : Array (Option Value)} {kV doc pm cdv ct : Value} (X : K.In h) (G : h.Ns mainGlobals mg)
    (a1 : PySem.W.nsIn K mainGlobals x = some (some (.ref f))) (l1 : K.lookup f = some ⟨oc, od, .func (PySem.W.fnOf x x (defArgs st) (defBody st) (defScope st) .none kV doc pm an cdv ct), osl⟩)
    (c1 : PySem.W.codeIn K cdv x = true) (k1 : PySem.W.keepIn K (.ref f) = true) (sc : FnScope N [y] (defScope st)) (tr : trDef B n N [y] fz st = some F) (hT : T[i]? = some F)
    (hb : ∀ (kV doc pm : Value) (an : Option Addr) (cdv ct : Value) (u : Value), bindArgs (PySem.W.fnOf x x (defArgs st) (defBody st) (defScope st) .none kV doc pm an cdv ct) ⟨[u], []⟩ = pure [(y, u)]) :
    ∃ a fd, DefAt K mg B T x i a fd [y] ∧ ∀ (s : Shared) (u : Value), BindsTo s fd ⟨[u], []⟩ [(y, u)] :=
  ⟨f, _, ⟨PySem.W.mg_of X G a1, (fun_mk l1 c1 k1).binds fun kV doc pm an cdv ct us hl => (match us, hl with | [u], _ => hb kV doc pm an cdv ct u), st, N, F, n, fz, fun_mk l1 c1 k1, sc, hT, tr⟩, fun s u => .of_eq (hb _ _ _ _ _ _ u)⟩
def FnsOk (K : PySem.W.Frag) (mg : Str → Option Value) (B : Tab) (T : List Fn) (l : List (Str × Nat × Nat)) : Prop := ∀ (x : Str) (f np : Nat), l.lookup x = some (f, np) → ∃ a fd ps, DefAt K mg B T x f a fd ps ∧ ps.length = np
theorem fns_nil : FnsOk K mg B T [] := fun x f np h => by cases h
theorem fns_cons {y : Str} {g ng : Nat} {l : List (Str × Nat × Nat)} (h : ∃ a fd ps, DefAt K mg B T y g a fd ps ∧ ps.length = ng) (t : FnsOk K mg B T l) : FnsOk K mg B T ((y, g, ng) :: l) := fun x f np e => by
  rw [List.lookup_cons] at e
  cases hb : x == y with
  | true =>
    rw [hb] at e
    cases e
    rw [eq_of_beq hb]
    exact h
  | false => rw [hb] at e; exact t x f np e
def GlsOk (K : PySem.W.Frag) (mg : Str → Option Value) (l : List (Str × PV)) : Prop := ∀ (x : Str) (v : PV), l.lookup x = some v → ∃ (u : Value) (w : V), mg x = some u ∧ RelV w u ∧ ∀ m H, RV K m H v w
theorem gls_nil : GlsOk K mg [] := fun x v h => by cases h
theorem gls_cons {y : Str} {v : PV} {l : List (Str × PV)} (h : ∃ (u : Value) (w : V), mg y = some u ∧ RelV w u ∧ ∀ m H, RV K m H v w) (t : GlsOk K mg l) : GlsOk K mg ((y, v) :: l) := fun x f e => by
  rw [List.lookup_cons] at e
  cases hb : x == y with
  | true =>
    rw [hb] at e
    cases e
    rw [eq_of_beq hb]
    exact h
  | false => rw [hb] at e; exact t x f e
theorem gl_int {y : Str} {i : Int} {t : PySem.Tok} (X : K.In h) (G : h.Ns mainGlobals mg) (a : PySem.W.nsIn K mainGlobals y = some (some (.int i t))) : ∃ (u : Value) (w : V), mg y = some u ∧ RelV w u ∧ ∀ m H, RV K m H (.int i) w :=
  ⟨.int i t, .int i, PySem.W.mg_of X G a, ⟨t, rfl⟩, fun _ _ => .int i⟩
theorem gl_str {y z : Str} {t : PySem.Tok} (X : K.In h) (G : h.Ns mainGlobals mg) (a : PySem.W.nsIn K mainGlobals y = some (some (.str z t))) (hz : okB z = true) : ∃ (u : Value) (w : V), mg y = some u ∧ RelV w u ∧ ∀ m H, RV K m H (.str z) w :=
  ⟨.str z t, .str z, PySem.W.mg_of X G a, ⟨t, rfl⟩, fun _ _ => .str z (okB_ok hz)⟩
def BlsOk (mg : Str → Option Value) (l : List Str) : Prop := ∀ x : Str, l.contains x = true → mg x = none
theorem bls_nil : BlsOk mg [] := fun x h => by cases h
theorem bls_cons {y : Str} {l : List Str} (h : mg y = none) (t : BlsOk mg l) : BlsOk mg (y :: l) := fun x e => by
  rw [List.contains_cons, Bool.or_eq_true] at e
  rcases e with e | e
  · rw [eq_of_beq e]; exact h
  · exact t x e
end
end L2.PF

set_option Elab.async false
set_option linter.all false
set_option maxRecDepth 100000
set_option maxHeartbeats 4000000
/-! PFP: reasoning about what a def comes to. -/
namespace L2.PF
open PySem PySem.Spec PyProof.Rows
def okR {α : Type} (r : R α) (Q : α → Store → Prop) : Prop := match r with
  | .ok a S => Q a S
  | _ => False
structure En where
  nx : Env → Store → Prop
  rt : PV → Store → Prop
  bk : Env → Store → Prop := fun _ _ => False
  ct : Env → Store → Prop := fun _ _ => False
def okS (r : SR) (D : En) : Prop := match r with
  | .nx e S => D.nx e S
  | .rt v S => D.rt v S
  | .bk e S => D.bk e S
  | .ct e S => D.ct e S
  | _ => False
section
variable {α β : Type} {r : R α} {Q Q' : α → Store → Prop} {S S0 : Store} {D : En} {e : Env}
theorem okR_ok {a : α} : okR (.ok a S) Q = Q a S := rfl
theorem okR_bad : okR (.bad : R α) Q = False := rfl
theorem okR_bind {f : α → Store → R β} {Q : β → Store → Prop} : okR (r.bind f) Q = okR r fun a S => okR (f a S) Q := by cases r <;> rfl
theorem okR_some {a : α} : okR (R.ofO (some a) S) Q = Q a S := rfl
theorem okR_none : okR (R.ofO (none : Option α) S) Q = False := rfl
theorem okR_ite {c : Prop} [Decidable c] {a b : R α} : okR (if c then a else b) Q = if c then okR a Q else okR b Q := by split <;> rfl
theorem okR_mono (h : okR r Q) (k : ∀ a S, Q a S → Q' a S) : okR r Q' := by
  cases r with
  | ok a S => exact k a S h
  | exc _ _ _ => exact h
  | bad => exact h
theorem okR_eq (h : okR r Q) : ∃ a S, r = .ok a S ∧ Q a S := by
  cases r with
  | ok a S => exact ⟨a, S, rfl, h⟩
  | exc _ _ _ => exact h.elim
  | bad => exact h.elim
theorem okR_only : okR r.only Q = okR r Q := by cases r <;> rfl
theorem okS_nx : okS (.nx e S) D = D.nx e S := rfl
theorem okS_rt {v : PV} : okS (.rt v S) D = D.rt v S := rfl
theorem okS_bk : okS (.bk e S) D = D.bk e S := rfl
theorem okS_ct : okS (.ct e S) D = D.ct e S := rfl
theorem okS_bad : okS .bad D = False := rfl
theorem okS_then {r : SR} {f : Env → Store → SR} : okS (r.then f) D = okS r { D with nx := fun e S => okS (f e S) D } := by cases r <;> rfl
theorem okS_toS {f : α → Store → SR} : okS (r.toS e f) D = okR r fun a S => okS (f a S) D := by cases r <;> rfl
theorem okS_ite {c : Prop} [Decidable c] {a b : SR} : okS (if c then a else b) D = if c then okS a D else okS b D := by split <;> rfl
theorem okS_mono {r : SR} {D D' : En} (h : okS r D) (k1 : ∀ e S, D.nx e S → D'.nx e S) (k2 : ∀ v S, D.rt v S → D'.rt v S) (k3 : ∀ e S, D.bk e S → D'.bk e S) (k4 : ∀ e S, D.ct e S → D'.ct e S) : okS r D' := by
  cases r with
  | nx e S => exact k1 _ _ h
  | rt v S => exact k2 _ _ h
  | bk e S => exact k3 _ _ h
  | ct e S => exact k4 _ _ h
  | exc _ _ _ _ => exact h
  | bad => exact h
/-! ### calls -/
theorem done_f {v : PV} : done false S0 v S = if dropOk S0 v S = true then .ok v (S.take S0.length) else .ok v S := rfl
theorem done_ok {v : PV} {Q : PV → Store → Prop} (h1 : Q v S) (h2 : S0.length ≤ S.length → Q v (S.take S0.length)) : okR (done false S0 v S) Q := by
  rw [done_f]
  split
  · rename_i h
    unfold dropOk at h
    simp only [Bool.and_eq_true, decide_eq_true_eq] at h
    exact h2 h.1.1
  · exact h1
theorem frz_und {n0 : Nat} {v : PV} {k : Nat} (h : PV.und n0 v = true) : frz n0 S (k + 1) v = some v := by rw [frz, if_pos h]
/-- where nothing was laid -/
theorem done_len {f : Bool} {v : PV} {Q : PV → Store → Prop} (h : S.length = S0.length) (h1 : Q v S) (hv : f = true → PV.und S0.length v = true := by first | (intro h; cases h; done) | exact fun _ => rfl) : okR (done f S0 v S) Q := by
  cases f with
  | false => exact done_ok h1 fun _ => by rw [← h, List.take_length]; exact h1
  | true =>
    unfold done
    rw [if_pos rfl, frz_und (hv rfl)]
    simp only
    split
    · show Q v (S.take S0.length)
      rw [← h, List.take_length]
      exact h1
    · exact h1
theorem okR_call {T : List Fn} {d f : Nat} {vs : List PV} {F : Fn} {Q : PV → Store → Prop} (hT : T[f]? = some F) (hl : vs.length = F.np)
    (h : okS (exs (call T d) F.body (startE F.nN vs) S) { nx := fun _ S1 => okR (done F.frz S .non S1) Q, rt := fun v S1 => okR (done F.frz S v S1) Q }) : okR (call T (d + 1) f vs S) Q := by
  rw [call, hT]
  simp only
  rw [if_pos hl]
  cases hr : exs (call T d) F.body (startE F.nN vs) S with
  | nx e S => rw [hr] at h; exact h
  | rt v S => rw [hr] at h; exact h
  | _ => rw [hr] at h; exact h.elim
/-! ### loops -/
theorem forL_ok {g : Grd} {body : PV → Env → Store → SR} {xs : List PV} (I : Nat → Env → Store → Prop) (h0 : I 0 e S) (hg : ∀ i e S, i ≤ xs.length → I i e S → grdOk g S = true)
    (hs : ∀ i x e S, xs[i]? = some x → I i e S → okS (body x e S) { nx := I (i + 1), rt := D.rt, bk := D.nx, ct := I (i + 1) }) (hd : ∀ e S, I xs.length e S → D.nx e S) : okS (forL g body xs e S) D := by
  have : ∀ (n i : Nat) (e : Env) (S : Store), n = xs.length - i → i ≤ xs.length → I i e S → okS (forL g body (xs.drop i) e S) D := by
    intro n
    induction n with
    | zero =>
      intro i e S hn hi hI
      have : i = xs.length := by omega
      subst this
      rw [List.drop_length, forL, if_pos (hg _ _ _ hi hI)]
      exact hd e S hI
    | succ n ih =>
      intro i e S hn hi hI
      have hlt : i < xs.length := by omega
      rw [List.drop_eq_getElem_cons hlt, forL, if_pos (hg _ _ _ hi hI)]
      have := hs i xs[i] e S (List.getElem?_eq_getElem hlt) hI
      cases hr : body xs[i] e S with
      | nx e1 S1 => rw [hr] at this; exact ih (i + 1) e1 S1 (by omega) hlt this
      | ct e1 S1 => rw [hr] at this; exact ih (i + 1) e1 S1 (by omega) hlt this
      | bk e1 S1 => rw [hr] at this; exact this
      | rt v S1 => rw [hr] at this; exact this
      | exc _ _ _ _ => rw [hr] at this; exact this.elim
      | bad => rw [hr] at this; exact this.elim
  exact this _ 0 e S rfl (Nat.zero_le _) h0
theorem compL_ok {g : Grd} {turn : PV → Store → R (Option PV)} {xs : List PV} {Q : List PV → Store → Prop} (I : Nat → List PV → Store → Prop) (h0 : I 0 [] S) (hg : ∀ i a S, i ≤ xs.length → I i a S → grdOk g S = true)
    (hs : ∀ i x a S, xs[i]? = some x → I i a S → okR (turn x S) fun o S => match o with | some y => I (i + 1) (a ++ [y]) S | none => I (i + 1) a S) (hd : ∀ a S, I xs.length a S → Q a S) : okR (compL g turn xs [] S) Q := by
  have : ∀ (n i : Nat) (a : List PV) (S : Store), n = xs.length - i → i ≤ xs.length → I i a S → okR (compL g turn (xs.drop i) a S) Q := by
    intro n
    induction n with
    | zero =>
      intro i a S hn hi hI
      have : i = xs.length := by omega
      subst this
      rw [List.drop_length, compL, if_pos (hg _ _ _ hi hI)]
      exact hd a S hI
    | succ n ih =>
      intro i a S hn hi hI
      have hlt : i < xs.length := by omega
      rw [List.drop_eq_getElem_cons hlt, compL, if_pos (hg _ _ _ hi hI)]
      have := hs i xs[i] a S (List.getElem?_eq_getElem hlt) hI
      cases hr : turn xs[i] S with
      | ok o S1 =>
        rw [hr] at this
        cases o with
        | some y => exact ih (i + 1) (a ++ [y]) S1 (by omega) hlt this
        | none => exact ih (i + 1) a S1 (by omega) hlt this
      | exc _ _ _ => rw [hr] at this; exact this.elim
      | bad => rw [hr] at this; exact this.elim
  exact this _ 0 [] S rfl (Nat.zero_le _) h0
end
/-! ### numbers -/
theorem log2_lt {n k : Nat} (h : n < 2 ^ (k + 1)) : n.log2 ≤ k := by
  by_cases h0 : n = 0
  · subst h0; simp
  · have := (Nat.log2_lt h0).mpr h
    omega
theorem mulOk_of {i j : Int} (hi : i.natAbs < 2 ^ 200) (hj : j.natAbs < 2 ^ 200) : mulOk i j = true := by
  unfold mulOk
  have h1 : i.natAbs.log2 ≤ 199 := log2_lt hi
  have h2 : j.natAbs.log2 ≤ 199 := log2_lt hj
  exact decide_eq_true (by omega)
theorem divOk_of {j : Int} (h0 : 0 < j) (h : j.natAbs < 2 ^ 200) : divOk j = true := by
  unfold divOk
  have h1 : j.natAbs.log2 ≤ 199 := log2_lt h
  exact decide_eq_true ⟨h0, by omega⟩
/-! ### the operators at values -/
section
variable {S : Store} {Q : PV → Store → Prop} {i j : Int} {a b : Bool} {x y : Str}
theorem o_add : okR (R.ofO (binV .Add S (.int i) (.int j)) S) Q = Q (.int (i + j)) S := rfl
theorem o_sub : okR (R.ofO (binV .Sub S (.int i) (.int j)) S) Q = Q (.int (i - j)) S := rfl
theorem o_mul : okR (R.ofO (binV .Mult S (.int i) (.int j)) S) Q = (mulOk i j = true ∧ Q (.int (i * j)) S) := by
  show okR (R.ofO (if mulOk i j = true then some (.int (i * j)) else none) S) Q = _
  by_cases h : mulOk i j = true
  · rw [if_pos h]; exact propext ⟨fun z => ⟨h, z⟩, fun z => z.2⟩
  · rw [if_neg h]; exact propext ⟨fun z => z.elim, fun z => absurd z.1 h⟩
theorem o_div : okR (R.ofO (binV .FloorDiv S (.int i) (.int j)) S) Q = (divOk j = true ∧ Q (.int (i / j)) S) := by
  show okR (R.ofO (if divOk j = true then some (.int (i / j)) else none) S) Q = _
  by_cases h : divOk j = true
  · rw [if_pos h]; exact propext ⟨fun z => ⟨h, z⟩, fun z => z.2⟩
  · rw [if_neg h]; exact propext ⟨fun z => z.elim, fun z => absurd z.1 h⟩
theorem o_mod : okR (R.ofO (binV .Mod S (.int i) (.int j)) S) Q = (0 < j ∧ Q (.int (i % j)) S) := by
  show okR (R.ofO (if 0 < j then some (.int (i % j)) else none) S) Q = _
  by_cases h : 0 < j
  · rw [if_pos h]; exact propext ⟨fun z => ⟨h, z⟩, fun z => z.2⟩
  · rw [if_neg h]; exact propext ⟨fun z => z.elim, fun z => absurd z.1 h⟩
theorem o_pow : okR (R.ofO (binV .Pow S (.int i) (.int j)) S) Q = (powOk i j = true ∧ Q (.int (i ^ j.toNat)) S) := by
  show okR (R.ofO (if powOk i j = true then some (.int (i ^ j.toNat)) else none) S) Q = _
  by_cases h : powOk i j = true
  · rw [if_pos h]; exact propext ⟨fun z => ⟨h, z⟩, fun z => z.2⟩
  · rw [if_neg h]; exact propext ⟨fun z => z.elim, fun z => absurd z.1 h⟩
theorem o_cat : okR (R.ofO (binV .Add S (.str x) (.str y)) S) Q = (x.length + y.length ≤ sizeLine ∧ Q (.str (x ++ y)) S) := by
  show okR (R.ofO (if x.length + y.length ≤ sizeLine then some (.str (x ++ y)) else none) S) Q = _
  by_cases h : x.length + y.length ≤ sizeLine
  · rw [if_pos h]; exact propext ⟨fun z => ⟨h, z⟩, fun z => z.2⟩
  · rw [if_neg h]; exact propext ⟨fun z => z.elim, fun z => absurd z.1 h⟩
theorem c_lt : cmpV .Lt S (.int i) (.int j) = some (decide (i < j)) := rfl
theorem c_le : cmpV .LtE S (.int i) (.int j) = some (decide (i ≤ j)) := rfl
theorem c_gt : cmpV .Gt S (.int i) (.int j) = some (decide (j < i)) := rfl
theorem c_ge : cmpV .GtE S (.int i) (.int j) = some (decide (j ≤ i)) := rfl
theorem eqD_flat {S : Store} {v u : PV} (h : flatP v = true) (h' : flatP u = true) : eqD S v u = some (eqP v u) := by
  show eqG S (169 + 1) v u = _
  rw [eqG, if_pos h, if_pos h']
theorem inD_flat {S : Store} {x : PV} (h : flatP x = true) : ∀ {xs : List PV}, xs.all flatP = true → inD S x xs = some (xs.any fun z => eqP z x)
  | [], _ => rfl
  | z :: zs, hz => by
    rw [List.all_cons, Bool.and_eq_true] at hz
    have ih := inD_flat (S := S) h hz.2
    unfold inD at ih ⊢
    rw [mapO, eqD_flat hz.1 h]
    simp only
    cases e : mapO (fun z => eqD S z x) zs with
    | none => rw [e] at ih; cases ih
    | some bs =>
      rw [e] at ih
      simp only [Option.map_some, List.any_cons, id] at ih ⊢
      rw [Option.some.inj ih]
theorem c_eq : cmpV .Eq S (.int i) (.int j) = some (decide (i = j)) := by
  show eqD S (.int i) (.int j) = _
  rw [eqD_flat rfl rfl]
  rfl
theorem c_ne : cmpV .NotEq S (.int i) (.int j) = some (!decide (i = j)) := by
  show (cmpV .Eq S (.int i) (.int j)).map (!·) = _
  rw [c_eq]; rfl
theorem t_bl : truth S (.bl a) = some a := rfl
theorem map_some' {α β : Type} {f : α → β} {a : α} : (some a).map f = some (f a) := rfl
end
section
variable {S : Store} {b : Nat} {xs : List PV} {v : PV} {i : Int}
theorem ix_l (h : S[b]? = some (.lst xs)) : ixV S (.loc b) (.int i) = atI xs i := by
  simp only [ixV, h]
theorem set_l {n : Nat} (h : S[b]? = some (.lst xs)) (hn : ixN xs.length i = some n) : setixV S (.loc b) (.int i) v = some (S.set b (.lst (xs.set n v))) := by
  simp only [setixV, h, hn]
end
end L2.PF

set_option Elab.async false
set_option linter.all false
set_option maxRecDepth 100000
set_option maxHeartbeats 4000000
/-! PFQ: what many laws share: the box of digits, words, names, kinds. -/
namespace L2.PF
open PySem PySem.Spec PyProof.Rows
section
variable {S S0 : Store}
theorem len_fz {xs : List PV} : bltR .len S [.fz xs] = .ok (.int xs.length) S := rfl
theorem len_str {x : Str} : bltR .len S [.str x] = .ok (.int x.length) S := rfl
theorem len_lv {xs : List PV} : bltR .len S [.lv xs] = .ok (.int xs.length) S := rfl
theorem len_tup {xs : List PV} : bltR .len S [.tup xs] = .ok (.int xs.length) S := rfl
theorem tup_lv {xs : List PV} : bltR .tuple1 S [.lv xs] = .ok (.tup xs) S := rfl
theorem list_tup {xs : List PV} : bltR .list1 S [.tup xs] = .ok (.lv xs) S := rfl
theorem max_i {i j : Int} : bltR .max2 S [.int i, .int j] = .ok (.int (if j > i then j else i)) S := rfl
theorem min_i {i j : Int} : bltR .min2 S [.int i, .int j] = .ok (.int (if j < i then j else i)) S := rfl
theorem ix_fz {xs : List PV} {i : Int} : ixV S (.fz xs) (.int i) = atI xs i := rfl
theorem ix_lv {xs : List PV} {i : Int} : ixV S (.lv xs) (.int i) = atI xs i := rfl
theorem ix_tup {xs : List PV} {i : Int} : ixV S (.tup xs) (.int i) = atI xs i := rfl
theorem ix_str {x : Str} {i : Int} : ixV S (.str x) (.int i) = strAt x i := rfl
theorem atI_some {α : Type} {xs : List α} {i : Int} (h0 : 0 ≤ i) (h : i < xs.length) : ∃ x, atI xs i = some x ∧ x ∈ xs := by
  unfold atI
  have h1 : ixN xs.length i = some i.toNat := by unfold ixN; rw [if_pos h0, if_pos h]
  have h2 : i.toNat < xs.length := by omega
  rw [h1]
  refine ⟨xs[i.toNat], ?_, List.getElem_mem h2⟩
  show xs[i.toNat]? = _
  rw [List.getElem?_eq_getElem h2]
theorem atI0 {α : Type} {x : α} {xs : List α} : atI (x :: xs) 0 = some x := by
  unfold atI ixN
  rw [if_pos (by omega), if_pos (by simp only [List.length_cons]; omega)]
  rfl
theorem atI1 {α : Type} {x y : α} {xs : List α} : atI (x :: y :: xs) 1 = some y := by
  unfold atI ixN
  rw [if_pos (by omega), if_pos (by simp only [List.length_cons]; omega)]
  rfl
theorem atI2 {α : Type} {x y z : α} {xs : List α} : atI (x :: y :: z :: xs) 2 = some z := by
  unfold atI ixN
  rw [if_pos (by omega), if_pos (by simp only [List.length_cons]; omega)]
  rfl
theorem done_keep {v : PV} {Q : PV → Store → Prop} (h : PV.und S0.length v = false) (q : Q v S) : okR (done false S0 v S) Q := by
  rw [done_f]
  unfold dropOk
  rw [h, Bool.and_false, Bool.false_and, if_neg Bool.false_ne_true]
  exact q
/-- what was laid in the call is forgotten -/
theorem done_app {v : PV} {l : Store} {Q : PV → Store → Prop} (h : PV.und S0.length v = true) (q : Q v S0) : okR (done false S0 v (S0 ++ l)) Q := by
  have hz : ∀ (a b : Store), ((a ++ b).take a.length) = a := fun a b => by simp
  rw [done_f]
  unfold dropOk
  rw [h, hz, Bool.and_true]
  have e1 : decide (S0.length ≤ (S0 ++ l).length) = true := decide_eq_true (by simp)
  have e2 : ((S0.zip S0).all fun p => decide (p.1 = p.2) || PO.und S0.length p.1) = true := by
    rw [List.all_eq_true]
    intro p hp
    have : ∀ (a : Store) (p : PO × PO), p ∈ a.zip a → p.1 = p.2 := by
      intro a
      induction a with
      | nil => intro p hp; cases hp
      | cons x a ih =>
        intro p hp
        rw [List.zip_cons_cons] at hp
        rcases List.mem_cons.mp hp with e | e
        · rw [e]
        · exact ih p e
    rw [decide_eq_true (this S0 p hp)]
    rfl
  rw [e1, e2]
  exact q
theorem compL_map {α : Type} {turn : PV → Store → R (Option PV)} (g : α → PV) (f : α → Option PV) : ∀ (xs : List α) (acc : List PV), (∀ x ∈ xs, turn (g x) S = .ok (f x) S) → compL [] turn (xs.map g) acc S = .ok (acc ++ xs.filterMap f) S
  | [], acc, _ => by rw [List.map_nil, compL, if_pos (show grdOk [] S = true from rfl)]; simp
  | x :: xs, acc, h => by
    rw [List.map_cons, compL, if_pos (show grdOk [] S = true from rfl), h x List.mem_cons_self]
    have ih := fun acc => compL_map g f xs acc fun y hy => h y (List.mem_cons_of_mem _ hy)
    cases hx : f x with
    | none => simp only; rw [ih, List.filterMap_cons, hx]
    | some y => simp only; rw [ih, List.filterMap_cons, hx]; simp
theorem compR_f {turn : PV → Store → R (Option PV)} {p : List PV × Grd} : compR false turn p S = (compL p.2 turn p.1 [] S).bind fun ys S => .ok (.lv ys) S := rfl
theorem iter_str {x : Str} : iterV .seq S [.str x] = some (x.cps.toList.map fun c => .str ⟨#[c]⟩, []) := rfl
theorem iter_tup {xs : List PV} : iterV .seq S [.tup xs] = some (xs, []) := rfl
theorem iter_lv {xs : List PV} : iterV .seq S [.lv xs] = some (xs, []) := rfl
theorem ifs0 : ifsV S [] = some true := rfl
theorem ifs1 {v : PV} : ifsV S [v] = truth S v := rfl
theorem mk_f {vs : List PV} : mkList false vs S = .ok (.lv vs) S := rfl
theorem mk_t {vs : List PV} : mkList true vs S = .ok (.loc S.length) (S ++ [.lst vs]) := rfl
theorem intRow_at {lo : Int} {n i : Nat} {x : PV} (h : (intRow lo n)[i]? = some x) : x = .int (lo + i) ∧ i < n := by
  rw [intRow_get] at h
  by_cases hi : i < n
  · rw [if_pos hi] at h; cases h; exact ⟨rfl, hi⟩
  · rw [if_neg hi] at h; cases h
theorem iter_rng {j : Int} (h0 : 0 ≤ j) (h1 : j ≤ 100000) : iterV .rng1 S [.int j] = some (intRow 0 j.toNat, []) := by
  show (if (small j && decide (j.toNat ≤ sizeLine)) = true then some (intRow 0 j.toNat, ([] : Grd)) else none) = _
  have e1 : small j = true := decide_eq_true (by omega)
  have e2 : decide (j.toNat ≤ sizeLine) = true := decide_eq_true (by rw [sizeLine_eq]; omega)
  rw [e1, e2]
  rfl
theorem dic1 {x : Str} {v : PV} : dicNew true [.str x, v] S = .ok (.loc S.length) (S ++ [.dic (putP [] (.inr x) v)]) := rfl
theorem dic0 : dicNew true [] S = .ok (.loc S.length) (S ++ [.dic []]) := rfl
theorem dic0v : dicNew false [] S = .ok (.dv [] []) S := rfl
theorem okR_and {α : Type} {r : R α} {P Q : α → Store → Prop} (h : okR r P) (k : okR r Q) : okR r fun a S => P a S ∧ Q a S := by
  cases r with
  | ok a S => exact ⟨h, k⟩
  | exc _ _ _ => exact h
  | bad => exact h
end
theorem sz0 : (0 ≤ sizeLine) = True := by rw [sizeLine_eq]; exact eq_true (by decide)
theorem sz1 : (0 + 1 ≤ sizeLine) = True := by rw [sizeLine_eq]; exact eq_true (by decide)
theorem sz2 : (0 + 1 + 1 ≤ sizeLine) = True := by rw [sizeLine_eq]; exact eq_true (by decide)
theorem sz3 : (0 + 1 + 1 + 1 ≤ sizeLine) = True := by rw [sizeLine_eq]; exact eq_true (by decide)
theorem sz4 : (0 + 1 + 1 + 1 + 1 ≤ sizeLine) = True := by rw [sizeLine_eq]; exact eq_true (by decide)
theorem sz5 : (0 + 1 + 1 + 1 + 1 + 1 ≤ sizeLine) = True := by rw [sizeLine_eq]; exact eq_true (by decide)
theorem sz6 : (0 + 1 + 1 + 1 + 1 + 1 + 1 ≤ sizeLine) = True := by rw [sizeLine_eq]; exact eq_true (by decide)
theorem sz7 : (0 + 1 + 1 + 1 + 1 + 1 + 1 + 1 ≤ sizeLine) = True := by rw [sizeLine_eq]; exact eq_true (by decide)
theorem sz8 : (0 + 1 + 1 + 1 + 1 + 1 + 1 + 1 + 1 ≤ sizeLine) = True := by rw [sizeLine_eq]; exact eq_true (by decide)
theorem pow_ok : powOk 10 18 = true ∧ powOk 10 30 = true ∧ powOk 10 15 = true ∧ powOk 10 9 = true := by decide +kernel
/-! ### the box -/
def FCell : Fn := ⟨2, 2, [(.ite (.cmp .Lt (.v 1) (.blt .len [(.v 0)])) [(.ret (.ix (.v 0) (.v 1)))] []), (.ret (.bin .Add (.bin .Mult (.c (.int 7919)) (.v 1)) (.c (.int 13))))], false⟩
def FMix : Fn := ⟨3, 2, [(.set (.n 2) (.bin .Mod (.bin .Add (.bin .Add (.v 0) (.bin .Mult (.c (.int 7919)) (.v 1))) (.c (.int 12345))) (.c (.int 2147483629)))), (.set (.n 2) (.bin .Mod (.bin .Add (.bin .Mult (.v 2) (.v 2)) (.bin .Mult (.c (.int 48271)) (.v 1))) (.c (.int 2147483629)))), (.ret (.bin .Mod (.bin .Mult (.v 2) (.v 2)) (.c (.int 2147483587))))], false⟩
def FTake (im : Nat) : Fn := ⟨3, 2, [(.ite (.cmp .Gt (.ix (.v 0) (.c (.int 0))) (.c (.int 0))) [(.set (.n 2) (.bin .Mod (.ix (.v 0) (.c (.int 0))) (.v 1))), (.setix (.v 0) (.c (.int 0)) (.bin .FloorDiv (.ix (.v 0) (.c (.int 0))) (.v 1))), (.ret (.v 2))] []), (.setix (.v 0) (.c (.int 2)) (.bin .Add (.ix (.v 0) (.c (.int 2))) (.c (.int 1)))), (.ret (.bin .Mod (.fn im [(.ix (.v 0) (.c (.int 1))), (.ix (.v 0) (.c (.int 2)))]) (.v 1)))], false⟩
section
local macro_rules | `(tactic| trivial) => `(tactic| simp only [startE, exs, ex, ev, evs, okS_then, okS_toS, okR_bind, okS_nx, okS_rt, okR_ok, okS_ite, okR_ite, List.length_cons, List.length_nil, List.map_cons, List.map_nil, List.replicate, List.cons_append, List.nil_append, List.getElem?_cons_zero, List.getElem?_cons_succ, putT, List.set_cons_zero, List.set_cons_succ, okR_some, o_add, o_sub, o_mul, o_div, o_mod, o_pow, c_lt, c_le, c_gt, c_ge, c_eq, c_ne, t_bl, map_some', decide_eq_true_eq, R.bind_ok, R.ofO_some, ifs0, ifs1, compR_f, wipeE, mk_f, mk_t, sz0, sz1, sz2, sz3, sz4, sz5, sz6, if_true, dic0, dic1, len_str, len_fz, len_lv, len_tup, tup_lv, list_tup, max_i, min_i, okR_only])
variable {T : List Fn} {ic im it : Nat}
theorem cell_ok (hT : T[ic]? = some FCell) (d : Nat) (S : Store) (ns : List Int) (k : Int) (hk : 0 ≤ k) (hk2 : k < 2 ^ 60) : okR (call T (d + 1) ic [.fz (ns.map PV.int), .int k] S) fun v S' => S' = S ∧ ∃ i : Int, v = .int i := by
  refine okR_call (F := FCell) hT rfl ?_
  simp only [FCell]
  trivial
  by_cases h : k < (ns.map PV.int).length
  · rw [if_pos h, ix_fz]
    obtain ⟨x, h1, h2⟩ := atI_some hk h
    obtain ⟨i, hi, rfl⟩ := List.mem_map.mp h2
    rw [h1]
    exact done_len rfl ⟨rfl, i, rfl⟩
  · rw [if_neg h]
    exact ⟨mulOk_of (by omega) (by omega), done_len rfl ⟨rfl, _, rfl⟩⟩
theorem mixed_ok (hT : T[im]? = some FMix) (d : Nat) (S : Store) (c k : Int) (hc : 0 ≤ c) (hc2 : c < 2147483648) (hk : 0 ≤ k) (hk2 : k < 2 ^ 60) : okR (call T (d + 1) im [.int c, .int k] S) fun v S' => S' = S ∧ ∃ n : Int, v = .int n ∧ 0 ≤ n ∧ n < 2147483587 := by
  refine okR_call (F := FMix) hT rfl ?_
  simp only [FMix]
  trivial
  have h1 := Int.emod_nonneg (c + 7919 * k + 12345) (b := 2147483629) (by omega)
  have h2 := Int.emod_lt_of_pos (c + 7919 * k + 12345) (b := 2147483629) (by omega)
  generalize (c + 7919 * k + 12345) % 2147483629 = n at h1 h2 ⊢
  refine ⟨mulOk_of (by omega) (by omega), by omega, mulOk_of (by omega) (by omega), mulOk_of (by omega) (by omega), by omega, ?_⟩
  have h3 := Int.emod_nonneg (n * n + 48271 * k) (b := 2147483629) (by omega)
  have h4 := Int.emod_lt_of_pos (n * n + 48271 * k) (b := 2147483629) (by omega)
  generalize (n * n + 48271 * k) % 2147483629 = r at h3 h4 ⊢
  refine ⟨mulOk_of (by omega) (by omega), by omega, done_len rfl ⟨rfl, _, rfl, Int.emod_nonneg _ (by omega), Int.emod_lt_of_pos _ (by omega)⟩⟩
/-- the box at b, asked n times at most -/
def Bx (b n : Nat) (S : Store) : Prop := ∃ (x0 x1 x2 : Int) (r : List PV), S[b]? = some (.lst (.int x0 :: .int x1 :: .int x2 :: r)) ∧ 0 ≤ x1 ∧ x1 < 2147483648 ∧ 0 ≤ x2 ∧ x2 ≤ n
theorem Bx.lt {b n : Nat} {S : Store} (h : Bx b n S) : b < S.length := by
  obtain ⟨x0, x1, x2, r, g1, g2⟩ := h
  exact (List.getElem?_eq_some_iff.mp g1).1
theorem Bx.up {b n m : Nat} {S : Store} (h : Bx b n S) (k : n ≤ m) : Bx b m S := by
  obtain ⟨x0, x1, x2, r, g1, g2, g3, g4, g5⟩ := h
  exact ⟨x0, x1, x2, r, g1, g2, g3, g4, by omega⟩
theorem Bx.ext {b n : Nat} {S : Store} {l : Store} (h : Bx b n S) : Bx b n (S ++ l) := by
  obtain ⟨x0, x1, x2, r, g1, g2⟩ := h
  exact ⟨x0, x1, x2, r, by rw [List.getElem?_append_left (List.getElem?_eq_some_iff.mp g1).1]; exact g1, g2⟩
theorem Bx.take {b n m : Nat} {S : Store} (h : Bx b n S) (hm : b < m) : Bx b n (S.take m) := by
  obtain ⟨x0, x1, x2, r, g1, g2⟩ := h
  exact ⟨x0, x1, x2, r, by rw [List.getElem?_take, if_pos hm]; exact g1, g2⟩
/-- the store but for the box -/
def Fr (b : Nat) (S S' : Store) : Prop := S'.length = S.length ∧ ∀ j, j ≠ b → S'[j]? = S[j]?
theorem Fr.refl {b : Nat} {S : Store} : Fr b S S := ⟨rfl, fun _ _ => rfl⟩
theorem Fr.trans {b : Nat} {S S1 S2 : Store} (h : Fr b S S1) (k : Fr b S1 S2) : Fr b S S2 := ⟨k.1.trans h.1, fun j hj => (k.2 j hj).trans (h.2 j hj)⟩
theorem take_ok (hm : T[im]? = some FMix) (ht : T[it]? = some (FTake im)) (d : Nat) (S : Store) (b n : Nat) (m : Int) (hb : Bx b n S) (hn : n < 2 ^ 50) (hm0 : 0 < m) (hm2 : m < 2 ^ 150) :
    okR (call T (d + 2) it [.loc b, .int m] S) fun v S' => Fr b S S' ∧ Bx b (n + 1) S' ∧ ∃ r : Int, v = .int r ∧ 0 ≤ r ∧ r < m := by
  obtain ⟨x0, x1, x2, r, h, h1, h2, h3, h4⟩ := hb
  have hlt : b < S.length := (List.getElem?_eq_some_iff.mp h).1
  refine okR_call (F := FTake im) ht rfl ?_
  simp only [FTake]
  trivial
  have fr : ∀ o, Fr b S (S.set b o) := fun o => ⟨by simp, fun j hj => List.getElem?_set_ne (Ne.symm hj)⟩
  have s0 : ∀ v, setixV S (.loc b) (.int 0) v = some (S.set b (.lst (v :: .int x1 :: .int x2 :: r))) := fun v => set_l (n := 0) h (by unfold ixN; rw [if_pos (by omega), if_pos (by simp only [List.length_cons]; omega)]; rfl)
  have s2 : ∀ v, setixV S (.loc b) (.int 2) v = some (S.set b (.lst (.int x0 :: .int x1 :: v :: r))) := fun v => set_l (n := 2) h (by unfold ixN; rw [if_pos (by omega), if_pos (by simp only [List.length_cons]; omega)]; rfl)
  repeat (simp only [ix_l h, atI0, atI2, s0, s2]; try trivial)
  by_cases hx : 0 < x0
  · rw [if_pos hx]
    refine ⟨hm0, divOk_of hm0 (by omega), ?_⟩
    refine done_len (by simp) ⟨fr _, ⟨x0 / m, x1, x2, r, by simp [hlt], h1, h2, h3, by omega⟩, _, rfl, Int.emod_nonneg _ (by omega), Int.emod_lt_of_pos _ hm0⟩
  · rw [if_neg hx]
    have h' : (S.set b (.lst (PV.int x0 :: .int x1 :: .int (x2 + 1) :: r)))[b]? = some (.lst (.int x0 :: .int x1 :: .int (x2 + 1) :: r)) := by simp [hlt]
    have hf := fr (.lst (PV.int x0 :: .int x1 :: .int (x2 + 1) :: r))
    generalize S.set b (.lst (PV.int x0 :: .int x1 :: .int (x2 + 1) :: r)) = S1 at h' hf ⊢
    repeat (simp only [ix_l h', atI1, atI2]; try trivial)
    refine okR_mono (mixed_ok hm d _ x1 (x2 + 1) h1 h2 (by omega) (by omega)) fun v S' ⟨hS, r', hv, hr, hr2⟩ => ?_
    subst hS hv
    try trivial
    exact ⟨hm0, done_len hf.1 ⟨hf, ⟨x0, x1, x2 + 1, r, h', h1, h2, by omega, by omega⟩, _, rfl, Int.emod_nonneg _ (by omega), Int.emod_lt_of_pos _ hm0⟩⟩
end
end L2.PF

set_option Elab.async false
set_option linter.all false
set_option maxRecDepth 100000
set_option maxHeartbeats 4000000
/-! PFR: words, names, kinds that a law draws. -/
namespace L2.PF
open PySem PySem.Spec PyProof.Rows
def LETS : Str := S "abcdefghijklmnopqrstuvwxyz"
/-- the def that draws a word -/
def FWord (it : Nat) : Fn := ⟨3, 1, [(.ret (.mth .join (.c (.str (S ""))) [(.comp false (.ix (.c (.str (S "abcdefghijklmnopqrstuvwxyz"))) (.fn it [(.v 0), (.c (.int 26))])) [1, 2] (.n 2) .rng1 [(.bin .Add (.c (.int 1)) (.fn it [(.v 0), (.c (.int 6))]))] [])]))], false⟩
def FName (it iw : Nat) : Fn := ⟨1, 1, [(.ite (.cmp .Eq (.fn it [(.v 0), (.c (.int 3))]) (.c (.int 0))) [(.ret (.bin .Add (.bin .Add (.fn iw [(.v 0)]) (.c (.str (S ".")))) (.fn iw [(.v 0)])))] []), (.ret (.fn iw [(.v 0)]))], false⟩
def low (c : Nat) : Bool := decide (97 ≤ c ∧ c ≤ 122)
/-- a word of small letters -/
def Wd (x : Str) : Prop := 1 ≤ x.length ∧ x.length ≤ 6 ∧ ∀ c ∈ x.cps.toList, low c = true
def Nm (x : Str) : Prop := Wd x ∨ ∃ a b, Wd a ∧ Wd b ∧ x = a ++ S "." ++ b
theorem lets_low : ∀ c ∈ (S "abcdefghijklmnopqrstuvwxyz").cps.toList, low c = true := by decide +kernel
theorem strAt_ok {x : Str} {i : Int} (h0 : 0 ≤ i) (h1 : i < x.length) : ∃ c, strAt x i = some (.str ⟨#[c]⟩) ∧ c ∈ x.cps.toList := by
  obtain ⟨c, h2, h3⟩ := atI_some (xs := x.cps.toList) h0 (by rw [← length_cps]; exact h1)
  exact ⟨c, by unfold strAt; rw [h2], h3⟩
theorem Wd.ok {x : Str} (h : Wd x) : PyData.strOk x = true := strOk_iff.mpr fun c hc => by
  have h := h.2.2 c hc
  have h := of_decide_eq_true h
  omega
/-- texts of one letter each, joined -/
theorem join_ones : ∀ cs : List Nat, (Str.join (S "") (cs.map fun c => (⟨#[c]⟩ : Str))).cps.toList = cs
  | [] => rfl
  | [c] => rfl
  | c :: d :: cs => by
    have ih := join_ones (d :: cs)
    have e : Str.join (S "") ((c :: d :: cs).map fun c => (⟨#[c]⟩ : Str)) = (⟨#[c]⟩ : Str) ++ S "" ++ Str.join (S "") ((d :: cs).map fun c => (⟨#[c]⟩ : Str)) := rfl
    rw [e, cps_append, cps_append, ih, show (S "").cps.toList = [] by decide +kernel]
    rfl
theorem strsOf_ones : ∀ cs : List Nat, strsOf (cs.map fun c => PV.str ⟨#[c]⟩) = some (cs.map fun c => (⟨#[c]⟩ : Str))
  | [] => rfl
  | c :: cs => by rw [List.map_cons, strsOf, strsOf_ones cs]; rfl
theorem sum_ones : ∀ cs : List Nat, ((cs.map fun c => (⟨#[c]⟩ : Str)).map (·.length)).sum = cs.length
  | [] => rfl
  | c :: cs => by
    rw [List.map_cons, List.map_cons, List.sum_cons, sum_ones cs, List.length_cons]
    show 1 + cs.length = _
    omega
section
local macro_rules | `(tactic| trivial) => `(tactic| simp only [startE, exs, ex, ev, evs, okS_then, okS_toS, okR_bind, okS_nx, okS_rt, okR_ok, okS_ite, okR_ite, List.length_cons, List.length_nil, List.map_cons, List.map_nil, List.replicate, List.cons_append, List.nil_append, List.getElem?_cons_zero, List.getElem?_cons_succ, putT, List.set_cons_zero, List.set_cons_succ, okR_some, o_add, o_sub, o_mul, o_div, o_mod, o_pow, c_lt, c_le, c_gt, c_ge, c_eq, c_ne, t_bl, map_some', decide_eq_true_eq, R.bind_ok, R.ofO_some, ifs0, ifs1, compR_f, wipeE, mk_f, mk_t, sz0, sz1, sz2, sz3, sz4, sz5, sz6, if_true, dic0, dic1, len_str, len_fz, len_lv, len_tup, tup_lv, list_tup, max_i, min_i, okR_only])
variable {T : List Fn} {ic im it iw iN : Nat}
theorem word_ok (hm : T[im]? = some FMix) (ht : T[it]? = some (FTake im)) (hw : T[iw]? = some (FWord it)) (d : Nat) (S : Store) (b n : Nat) (hb : Bx b n S) (hn : n < 2 ^ 49) :
    okR (call T (d + 3) iw [.loc b] S) fun v S' => Fr b S S' ∧ Bx b (n + 7) S' ∧ ∃ x, v = .str x ∧ Wd x := by
  refine okR_call (F := FWord it) hw rfl ?_
  simp only [FWord]
  trivial
  rw [show mthIs .join S (.str (PF.S "")) = true from rfl, if_pos rfl]
  refine okR_mono (take_ok hm ht d S b n 6 hb (by omega) (by omega) (by omega)) fun v S1 ⟨hf, hb1, r, hv, hr, hr2⟩ => ?_
  subst hv
  try trivial
  rw [iter_rng (by omega) (by omega)]
  try trivial
  refine compL_ok (fun (i : Nat) (a : List PV) (S' : Store) => Fr b S S' ∧ Bx b (n + 1 + i) S' ∧ ∃ cs : List Nat, a = (cs.map fun c => PV.str ⟨#[c]⟩) ∧ cs.length = i ∧ ∀ c ∈ cs, low c = true) ⟨hf, hb1, [], rfl, rfl, fun v h => by cases h⟩ (fun _ _ _ _ _ => rfl) ?_ ?_
  · rintro i x a S2 hx ⟨hf2, hb2, cs, rfl, ha, hall⟩
    obtain ⟨rfl, hi⟩ := intRow_at hx
    try trivial
    refine okR_mono (take_ok hm ht d S2 b _ 26 hb2 (by omega) (by omega) (by omega)) fun v S3 ⟨hf3, hb3, r2, hv, h0, h1⟩ => ?_
    subst hv
    obtain ⟨c, e1, e2⟩ := strAt_ok (x := PF.S "abcdefghijklmnopqrstuvwxyz") h0 h1
    rw [ix_str, e1]
    try trivial
    refine ⟨hf2.trans hf3, by rw [show n + 1 + (i + 1) = n + 1 + i + 1 by omega]; exact hb3, cs ++ [c], by simp, by simp [ha], fun z hz => ?_⟩
    rcases List.mem_append.mp hz with h | h
    · exact hall z h
    · rw [List.mem_singleton.mp h]; exact lets_low c e2
  · rintro a S2 ⟨hf2, hb2, cs, rfl, ha, hall⟩
    try trivial
    rw [intRow_length] at ha hb2
    have ej : mthV .join S2 (.str (PF.S "")) [.lv (cs.map fun c => PV.str ⟨#[c]⟩)] = .ok (.str (Txt.join (PF.S "") (cs.map fun c => (⟨#[c]⟩ : Str)))) S2 := by
      simp only [mthV, litems, strsOf_ones]
      rw [if_pos]
      rw [sum_ones, show (PF.S "").length = 0 by decide +kernel]
      omega
    rw [ej, TL.join_eq]
    refine done_len hf2.1 ⟨hf2, hb2.up (by omega), _, rfl, ?_, ?_, ?_⟩
    · rw [length_cps, join_ones]; omega
    · rw [length_cps, join_ones]; omega
    · rw [join_ones]; exact hall
theorem name_ok (hm : T[im]? = some FMix) (ht : T[it]? = some (FTake im)) (hw : T[iw]? = some (FWord it)) (hN : T[iN]? = some (FName it iw)) (d : Nat) (S : Store) (b n : Nat) (hb : Bx b n S) (hn : n < 2 ^ 48) :
    okR (call T (d + 4) iN [.loc b] S) fun v S' => Fr b S S' ∧ Bx b (n + 15) S' ∧ ∃ x, v = .str x ∧ Nm x := by
  refine okR_call (F := FName it iw) hN rfl ?_
  simp only [FName]
  trivial
  refine okR_mono (take_ok hm ht (d + 1) S b n 3 hb (by omega) (by omega) (by omega)) fun v S1 ⟨hf, hb1, r, hv, hr, hr2⟩ => ?_
  subst hv
  try trivial
  by_cases h0 : r = 0
  · rw [if_pos h0]
    refine okR_mono (word_ok hm ht hw d S1 b _ hb1 (by omega)) fun v S2 ⟨hf2, hb2, x, hv, hx⟩ => ?_
    subst hv
    rw [o_cat]
    have l1 : (PF.S ".").length = 1 := by decide +kernel
    refine ⟨by have := hx.2.1; rw [l1, sizeLine_eq]; omega, ?_⟩
    refine okR_mono (word_ok hm ht hw d S2 b _ hb2 (by omega)) fun v S3 ⟨hf3, hb3, y, hv, hy⟩ => ?_
    subst hv
    rw [o_cat]
    refine ⟨?_, ?_⟩
    · have h1 := hx.2.1
      have h2 := hy.2.1
      rw [show (x ++ PF.S ".").length = x.length + 1 by rw [length_cps, cps_append, List.length_append, ← length_cps, ← length_cps, l1], sizeLine_eq]
      omega
    · have hf4 := (hf.trans hf2).trans hf3
      exact done_len hf4.1 ⟨hf4, hb3.up (by omega), _, rfl, .inr ⟨x, y, hx, hy, rfl⟩⟩
  · rw [if_neg h0]
    refine okR_mono (word_ok hm ht hw d S1 b _ hb1 (by omega)) fun v S2 ⟨hf2, hb2, x, hv, hx⟩ => ?_
    subst hv
    have hf4 := hf.trans hf2
    exact done_len hf4.1 ⟨hf4, hb2.up (by omega), _, rfl, .inl hx⟩
end
end L2.PF

set_option Elab.async false
set_option linter.all false
set_option maxRecDepth 100000
set_option maxHeartbeats 4000000
/-! PFS: kinds that a law draws. -/
namespace L2.PF
open PySem PySem.Spec PyProof.Rows
def FKind (it ik : Nat) : Fn := ⟨8, 4, [(.set (.n 4) (.fn it [(.v 0), (.c (.int 8))])),
    (.ite (.or (.cmp .Lt (.v 3) (.c (.int 1))) (.cmp .Lt (.v 4) (.c (.int 2)))) [(.ret (.ix (.lst false [(.tup [(.c (.str (S "num")))]), (.tup [(.c (.str (S "open"))), (.fn it [(.v 0), (.v 2)])])]) (.bin .Mod (.v 4) (.c (.int 2)))))] []),
    (.ite (.cmp .Eq (.v 4) (.c (.int 2))) [(.ret (.tup [(.c (.str (S "open"))), (.fn it [(.v 0), (.v 2)])]))] []),
    (.ite (.cmp .Lt (.v 4) (.c (.int 5))) [(.ret (.tup [(.c (.str (S "fn"))), (.fn ik [(.v 0), (.v 1), (.v 2), (.bin .Sub (.v 3) (.c (.int 1)))]), (.fn ik [(.v 0), (.v 1), (.v 2), (.bin .Sub (.v 3) (.c (.int 1)))])]))] []),
    (.ite (.cmp .Eq (.v 4) (.c (.int 5))) [(.ret (.tup [(.c (.str (S "ref"))), (.fn ik [(.v 0), (.v 1), (.v 2), (.bin .Sub (.v 3) (.c (.int 1)))])]))] []),
    (.set (.n 5) (.ix (.v 1) (.fn it [(.v 0), (.blt .len [(.v 1)])]))),
    (.ret (.tup [(.c (.str (S "made"))), (.v 5), (.blt .tuple1 [(.comp false (.fn ik [(.v 0), (.v 1), (.v 2), (.bin .Sub (.v 3) (.c (.int 1)))]) [6, 7] (.n 7) .rng1 [(.fn it [(.v 0), (.c (.int 3))])] [])])]))], false⟩
/-- a kind, n within one another at most, its open names below m -/
def Kd (m : Int) : Nat → PV → Prop
  | 0, _ => False
  | n + 1, v => v = .tup [.str (S "num")] ∨ (∃ i : Int, 0 ≤ i ∧ i < m ∧ v = .tup [.str (S "open"), .int i]) ∨ (∃ a b, Kd m n a ∧ Kd m n b ∧ v = .tup [.str (S "fn"), a, b]) ∨ (∃ a, Kd m n a ∧ v = .tup [.str (S "ref"), a]) ∨
      ∃ (x : Str) (ks : List PV), Nm x ∧ ks.length ≤ 2 ∧ (∀ k ∈ ks, Kd m n k) ∧ v = .tup [.str (S "made"), .str x, .tup ks]
theorem Kd.up {m : Int} : ∀ {n k : Nat} {v : PV}, Kd m n v → n ≤ k → Kd m k v
  | 0, _, _, h, _ => h.elim
  | n + 1, 0, _, _, h => absurd h (by omega)
  | n + 1, k + 1, v, h, hk => by
    have hk : n ≤ k := by omega
    rcases h with h | h | ⟨a, b, h1, h2, h⟩ | ⟨a, h1, h⟩ | ⟨x, ks, h1, h2, h3, h⟩
    · exact .inl h
    · exact .inr (.inl h)
    · exact .inr (.inr (.inl ⟨a, b, h1.up hk, h2.up hk, h⟩))
    · exact .inr (.inr (.inr (.inl ⟨a, h1.up hk, h⟩)))
    · exact .inr (.inr (.inr (.inr ⟨x, ks, h1, h2, fun k' hk' => (h3 k' hk').up hk, h⟩)))
section
local macro_rules | `(tactic| trivial) => `(tactic| simp only [startE, exs, ex, ev, evs, okS_then, okS_toS, okR_bind, okS_nx, okS_rt, okR_ok, okS_ite, okR_ite, List.length_cons, List.length_nil, List.map_cons, List.map_nil, List.replicate, List.cons_append, List.nil_append, List.getElem?_cons_zero, List.getElem?_cons_succ, putT, List.set_cons_zero, List.set_cons_succ, okR_some, o_add, o_sub, o_mul, o_div, o_mod, o_pow, c_lt, c_le, c_gt, c_ge, c_eq, c_ne, t_bl, map_some', decide_eq_true_eq, R.bind_ok, R.ofO_some, ifs0, ifs1, compR_f, wipeE, mk_f, mk_t, sz0, sz1, sz2, sz3, sz4, sz5, sz6, if_true, dic0, dic1, len_str, len_fz, len_lv, len_tup, tup_lv, list_tup, max_i, min_i, okR_only])
variable {T : List Fn} {ic im it iw iN ik : Nat}
theorem pow4 (k : Nat) : 1 ≤ 4 ^ k := Nat.one_le_pow _ _ (by omega)
theorem knd_ok (hm : T[im]? = some FMix) (ht : T[it]? = some (FTake im)) (hk : T[ik]? = some (FKind it ik)) (b : Nat) (names : List PV) (hN : ∀ v ∈ names, ∃ x, v = .str x ∧ Nm x) (hN0 : names ≠ []) (hNl : names.length ≤ 100) (m : Int) (m0 : 0 < m) (m1 : m < 2 ^ 100) :
    ∀ (dp d n : Nat) (S : Store), Bx b n S → n + 8 ^ (dp + 1) < 2 ^ 48 → okR (call T (d + dp + 3) ik [.loc b, .lv names, .int m, .int dp] S) fun v S' => Fr b S S' ∧ Bx b (n + 8 ^ (dp + 1)) S' ∧ Kd m (dp + 1) v := by
  intro dp
  induction dp with
  | zero =>
    intro d n S hb hn
    refine okR_call (F := FKind it ik) hk rfl ?_
    simp only [FKind]
    trivial
    refine okR_mono (take_ok hm ht (d + 0) S b n 8 hb (by omega) (by omega) (by omega)) fun v S1 ⟨hf, hb1, r, hv, hr, hr2⟩ => ?_
    subst hv
    try trivial
    rw [if_pos (by omega)]
    refine okR_mono (take_ok hm ht (d + 0) S1 b _ m hb1 (by omega) m0 (by omega)) fun v S2 ⟨hf2, hb2, r2, hv, h0, h1⟩ => ?_
    subst hv
    try trivial
    refine ⟨by omega, ?_⟩
    obtain ⟨x, e1, e2⟩ := atI_some (xs := [PV.tup [.str (PF.S "num")], .tup [.str (PF.S "open"), .int r2]]) (i := r % 2) (by omega) (by simp only [List.length_cons, List.length_nil]; omega)
    rw [ix_lv, e1]
    have hf3 := hf.trans hf2
    refine done_len hf3.1 ⟨hf3, hb2.up (by omega), ?_⟩
    rcases List.mem_cons.mp e2 with e | e
    · exact .inl e
    · exact .inr (.inl ⟨r2, h0, h1, List.mem_singleton.mp e⟩)
  | succ dp ih =>
    intro d n S hb hn
    have hp : 8 ^ (dp + 1 + 1) = 8 * 8 ^ (dp + 1) := by rw [Nat.pow_succ]; omega
    have hp1 : 8 ≤ 8 ^ (dp + 1) := by
      have : 1 ≤ 8 ^ dp := Nat.one_le_pow _ _ (by omega)
      rw [Nat.pow_succ]; omega
    have rec_ : ∀ (n : Nat) (S : Store), Bx b n S → n + 8 ^ (dp + 1) < 2 ^ 48 → okR (call T (d + (dp + 1) + 2) ik [.loc b, .lv names, .int m, .int (((dp + 1 : Nat) : Int) - 1)] S) fun v S' => Fr b S S' ∧ Bx b (n + 8 ^ (dp + 1)) S' ∧ Kd m (dp + 1) v := fun n S h1 h2 => by
      have := ih d n S h1 h2
      rw [show (((dp + 1 : Nat) : Int) - 1) = (dp : Int) by omega]
      exact this
    refine okR_call (F := FKind it ik) hk rfl ?_
    simp only [FKind]
    trivial
    refine okR_mono (take_ok hm ht (d + dp + 1) S b n 8 hb (by omega) (by omega) (by omega)) fun v S1 ⟨hf, hb1, r, hv, hr, hr2⟩ => ?_
    subst hv
    try trivial
    rw [if_neg (by omega)]
    try trivial
    by_cases h2 : r < 2
    · rw [if_pos h2]
      refine okR_mono (take_ok hm ht (d + dp + 1) S1 b _ m hb1 (by omega) m0 (by omega)) fun v S2 ⟨hf2, hb2, r2, hv, h0, h1⟩ => ?_
      subst hv
      try trivial
      refine ⟨by omega, ?_⟩
      obtain ⟨x, e1, e2⟩ := atI_some (xs := [PV.tup [.str (PF.S "num")], .tup [.str (PF.S "open"), .int r2]]) (i := r % 2) (by omega) (by simp only [List.length_cons, List.length_nil]; omega)
      rw [ix_lv, e1]
      have hf3 := hf.trans hf2
      refine done_len hf3.1 ⟨hf3, hb2.up (by omega), ?_⟩
      rcases List.mem_cons.mp e2 with e | e
      · exact .inl e
      · exact .inr (.inl ⟨r2, h0, h1, List.mem_singleton.mp e⟩)
    rw [if_neg h2]
    by_cases h3 : r = 2
    · rw [if_pos h3]
      refine okR_mono (take_ok hm ht (d + dp + 1) S1 b _ m hb1 (by omega) m0 (by omega)) fun v S2 ⟨hf2, hb2, r2, hv, h0, h1⟩ => ?_
      subst hv
      try trivial
      have hf3 := hf.trans hf2
      exact done_len hf3.1 ⟨hf3, hb2.up (by omega), .inr (.inl ⟨r2, h0, h1, rfl⟩)⟩
    rw [if_neg h3]
    by_cases h5 : r < 5
    · rw [if_pos h5]
      refine okR_mono (rec_ _ S1 hb1 (by omega)) fun v S2 ⟨hf2, hb2, k1⟩ => ?_
      refine okR_mono (rec_ _ S2 hb2 (by omega)) fun u S3 ⟨hf3, hb3, k2⟩ => ?_
      try trivial
      have hf4 := (hf.trans hf2).trans hf3
      exact done_len hf4.1 ⟨hf4, hb3.up (by omega), .inr (.inr (.inl ⟨_, _, k1, k2, rfl⟩))⟩
    rw [if_neg h5]
    by_cases h6 : r = 5
    · rw [if_pos h6]
      refine okR_mono (rec_ _ S1 hb1 (by omega)) fun v S2 ⟨hf2, hb2, k1⟩ => ?_
      try trivial
      have hf4 := hf.trans hf2
      exact done_len hf4.1 ⟨hf4, hb2.up (by omega), .inr (.inr (.inr (.inl ⟨_, k1, rfl⟩)))⟩
    rw [if_neg h6]
    have hl0 : 0 < names.length := List.length_pos_iff.mpr hN0
    refine okR_mono (take_ok hm ht (d + dp + 1) S1 b _ (names.length : Int) hb1 (by omega) (by omega) (by omega)) fun v S2 ⟨hf2, hb2, r2, hv, h0, h1⟩ => ?_
    subst hv
    obtain ⟨x, e1, e2⟩ := atI_some (xs := names) h0 h1
    obtain ⟨y, rfl, hy⟩ := hN x e2
    rw [ix_lv, e1]
    try trivial
    refine okR_mono (take_ok hm ht (d + dp + 1) S2 b _ 3 hb2 (by omega) (by omega) (by omega)) fun v S3 ⟨hf3, hb3, r3, hv, h30, h31⟩ => ?_
    subst hv
    rw [iter_rng h30 (by omega)]
    try trivial
    have hf4 := (hf.trans hf2).trans hf3
    refine compL_ok (fun (i : Nat) (a : List PV) (S' : Store) => Fr b S S' ∧ Bx b (n + 3 + i * 8 ^ (dp + 1)) S' ∧ a.length = i ∧ ∀ k ∈ a, Kd m (dp + 1) k) ⟨hf4, hb3.up (by omega), rfl, fun v h => by cases h⟩ (fun _ _ _ _ _ => rfl) ?_ ?_
    · rintro i x a S4 hx ⟨hf5, hb5, ha, hall⟩
      obtain ⟨rfl, hi⟩ := intRow_at hx
      try trivial
      have hi2 : i * 8 ^ (dp + 1) ≤ 2 * 8 ^ (dp + 1) := Nat.mul_le_mul_right _ (by omega)
      refine okR_mono (rec_ _ S4 hb5 (by omega)) fun v S5 ⟨hf6, hb6, k1⟩ => ?_
      refine ⟨hf5.trans hf6, by rw [Nat.add_mul, Nat.one_mul]; exact hb6.up (by omega), by simp [ha], fun k hk => ?_⟩
      rcases List.mem_append.mp hk with h | h
      · exact hall k h
      · rw [List.mem_singleton.mp h]; exact k1
    · rintro a S4 ⟨hf5, hb5, ha, hall⟩
      rw [intRow_length] at ha hb5
      try trivial
      have hi2 : r3.toNat * 8 ^ (dp + 1) ≤ 2 * 8 ^ (dp + 1) := Nat.mul_le_mul_right _ (by omega)
      exact done_len hf5.1 ⟨hf5, hb5.up (by omega), .inr (.inr (.inr (.inr ⟨y, a, hy, by omega, hall, rfl⟩)))⟩
def FDeep (it : Nat) (n : Int) : Fn := ⟨7, 3, [(.set (.n 3) (.tup [(.c (.str (S "open"))), (.fn it [(.v 0), (.v 2)])])),
    (.set (.n 4) (.tup [(.c (.str (S "fn"))), (.tup [(.c (.str (S "num")))]), (.tup [(.c (.str (S "num")))])])),
    (.forS (.n 5) .rng1 [(.c (.int n))] [(.set (.n 6) (.fn it [(.v 0), (.c (.int 4))])),
    (.set (.n 3) (.ix (.lst false [(.tup [(.c (.str (S "fn"))), (.v 3), (.v 4)]), (.tup [(.c (.str (S "fn"))), (.v 4), (.v 3)]), (.tup [(.c (.str (S "ref"))), (.v 3)]), (.tup [(.c (.str (S "made"))), (.ix (.v 1) (.c (.int 0))), (.tup [(.v 4), (.v 3)])])]) (.v 6)))]),
    (.ret (.v 3))], false⟩
theorem deep_ok {idp : Nat} {cnt : Int} (hm : T[im]? = some FMix) (ht : T[it]? = some (FTake im)) (hd : T[idp]? = some (FDeep it cnt)) (c0 : 0 ≤ cnt) (c1 : cnt ≤ 1000) (b : Nat) (x0 : Str) (names : List PV) (hx0 : Nm x0) (m : Int) (m0 : 0 < m) (m1 : m < 2 ^ 100)
    (d n : Nat) (S : Store) (hb : Bx b n S) (hn : n < 2 ^ 48) : okR (call T (d + 3) idp [.loc b, .lv (.str x0 :: names), .int m] S) fun v S' => Fr b S S' ∧ Bx b (n + cnt.toNat + 1) S' ∧ Kd m (cnt.toNat + 2) v := by
  refine okR_call (F := FDeep it cnt) hd rfl ?_
  simp only [FDeep]
  trivial
  refine okR_mono (take_ok hm ht d S b n m hb (by omega) m0 (by omega)) fun v S1 ⟨hf, hb1, r, hv, hr, hr2⟩ => ?_
  subst hv
  try trivial
  rw [iter_rng c0 (by omega)]
  try trivial
  have hbs : ∀ k, Kd m (k + 2) (.tup [.str (PF.S "fn"), .tup [.str (PF.S "num")], .tup [.str (PF.S "num")]]) := fun k => .inr (.inr (.inl ⟨_, _, .inl rfl, .inl rfl, rfl⟩))
  refine forL_ok (fun (i : Nat) (e : Env) (S' : Store) => Fr b S S' ∧ Bx b (n + 1 + i) S' ∧ ∃ v o5 o6, e = [some (.loc b), some (.lv (.str x0 :: names)), some (.int m), some v, some (.tup [.str (PF.S "fn"), .tup [.str (PF.S "num")], .tup [.str (PF.S "num")]]), o5, o6] ∧ Kd m (i + 2) v)
    ⟨hf, hb1, _, _, _, rfl, .inr (.inl ⟨r, hr, hr2, rfl⟩)⟩ (fun _ _ _ _ _ => rfl) ?_ ?_
  · rintro i x e S2 hx ⟨hf2, hb2, v, o5, o6, rfl, hv⟩
    obtain ⟨rfl, hi⟩ := intRow_at hx
    try trivial
    refine okR_mono (take_ok hm ht d S2 b _ 4 hb2 (by omega) (by omega) (by omega)) fun u S3 ⟨hf3, hb3, r3, hu, h0, h1⟩ => ?_
    subst hu
    try trivial
    rw [ix_lv, atI0]
    try trivial
    obtain ⟨y, e1, e2⟩ := atI_some (xs := [PV.tup [.str (PF.S "fn"), v, .tup [.str (PF.S "fn"), .tup [.str (PF.S "num")], .tup [.str (PF.S "num")]]], .tup [.str (PF.S "fn"), .tup [.str (PF.S "fn"), .tup [.str (PF.S "num")], .tup [.str (PF.S "num")]], v], .tup [.str (PF.S "ref"), v],
      .tup [.str (PF.S "made"), .str x0, .tup [.tup [.str (PF.S "fn"), .tup [.str (PF.S "num")], .tup [.str (PF.S "num")]], v]]]) (i := r3) h0 (by simp only [List.length_cons, List.length_nil]; omega)
    rw [ix_lv, e1]
    try trivial
    refine ⟨hf2.trans hf3, by rw [show n + 1 + (i + 1) = n + 1 + i + 1 by omega]; exact hb3, y, _, _, rfl, ?_⟩
    simp only [List.mem_cons, List.not_mem_nil, or_false] at e2
    rcases e2 with e | e | e | e
    · exact .inr (.inr (.inl ⟨_, _, hv, hbs i, e⟩))
    · exact .inr (.inr (.inl ⟨_, _, hbs i, hv, e⟩))
    · exact .inr (.inr (.inr (.inl ⟨_, hv, e⟩)))
    · refine .inr (.inr (.inr (.inr ⟨x0, _, hx0, ?_, fun k hk => ?_, e⟩)))
      · simp
      · rcases List.mem_cons.mp hk with z | z
        · rw [z]; exact hbs i
        · rw [List.mem_singleton.mp z]; exact hv
  · rintro e S2 ⟨hf2, hb2, v, o5, o6, rfl, hv⟩
    rw [intRow_length] at hb2 hv
    try trivial
    exact done_len hf2.1 ⟨hf2, hb2.up (by omega), hv⟩
def FBox3 (ic : Nat) : Fn := ⟨3, 2, [(.set (.n 2) (.fn ic [(.v 0), (.v 1)])),
    (.ite (.cmp .GtE (.v 2) (.bin .Pow (.c (.int 10)) (.c (.int 18)))) [(.ret (.lst true [(.v 2), (.c (.int 0)), (.c (.int 0))]))] []),
    (.ret (.lst true [(.c (.int 0)), (.bin .Mod (.v 2) (.c (.int 2147483647))), (.c (.int 0))]))], false⟩
theorem box3_ok {ib : Nat} (hc : T[ic]? = some FCell) (hb : T[ib]? = some (FBox3 ic)) (d : Nat) (S : Store) (ns : List Int) (k : Int) (hk : 0 ≤ k) (hk2 : k < 2 ^ 60) :
    okR (call T (d + 2) ib [.fz (ns.map PV.int), .int k] S) fun v S' => v = .loc S.length ∧ (∃ o, S' = S ++ [o]) ∧ Bx S.length 0 S' := by
  refine okR_call (F := FBox3 ic) hb rfl ?_
  simp only [FBox3]
  trivial
  refine okR_mono (cell_ok hc d S ns k hk hk2) fun v S' ⟨hS, i, hv⟩ => ?_
  subst hS hv
  try trivial
  refine ⟨pow_ok.1, ?_⟩
  by_cases h : (10 : Int) ^ Int.toNat 18 ≤ i
  · rw [if_pos h]
    exact done_keep (by simp [PV.und]) ⟨rfl, ⟨_, rfl⟩, i, 0, 0, [], List.getElem?_concat_length, by omega, by omega, Int.le_refl _, Int.le_refl _⟩
  · rw [if_neg h]
    try trivial
    have h1 := Int.emod_nonneg i (b := 2147483647) (by omega)
    have h2 := Int.emod_lt_of_pos i (b := 2147483647) (by omega)
    first
      | exact ⟨by omega, done_keep (by simp [PV.und]) ⟨rfl, ⟨_, rfl⟩, 0, i % 2147483647, 0, [], List.getElem?_concat_length, h1, by omega, Int.le_refl _, Int.le_refl _⟩⟩
      | exact done_keep (by simp [PV.und]) ⟨rfl, ⟨_, rfl⟩, 0, i % 2147483647, 0, [], List.getElem?_concat_length, h1, by omega, Int.le_refl _, Int.le_refl _⟩
end
end L2.PF

set_option Elab.async false
set_option linter.all false
set_option maxRecDepth 100000
set_option maxHeartbeats 4000000
/-! PFT: what the package and a law ask of a kind. -/
namespace L2.PF
open PySem PySem.Spec PyProof.Rows
theorem c_eq_str {S : Store} {x y : Str} : cmpV .Eq S (.str x) (.str y) = some (decide (x = y)) := by
  show eqD S (.str x) (.str y) = _
  rw [eqD_flat rfl rfl]
  rfl
theorem c_ne_str {S : Store} {x y : Str} : cmpV .NotEq S (.str x) (.str y) = some (!decide (x = y)) := by
  show (cmpV .Eq S (.str x) (.str y)).map (!·) = _
  rw [c_eq_str]; rfl
def Tg5 (t : Str) : Prop := t = S "num" ∨ t = S "open" ∨ t = S "fn" ∨ t = S "ref" ∨ t = S "made"
theorem Tg5.ok {t : Str} (h : Tg5 t) : PyData.strOk t = true := by
  rcases h with h | h | h | h | h <;> (rw [h]; decide +kernel)
/-- a tag against a tag -/
theorem tg_eq {St : Store} : ∀ x ∈ ["num", "open", "fn", "ref", "made"], ∀ y ∈ ["num", "open", "fn", "ref", "made"], cmpV .Eq St (.str (S x)) (.str (S y)) = some (decide (x = y)) := by
  intro x hx y hy
  have h2 : ∀ x ∈ ["num", "open", "fn", "ref", "made"], ∀ y ∈ ["num", "open", "fn", "ref", "made"], decide (S x = S y) = decide (x = y) := by decide +kernel
  rw [c_eq_str, h2 x hx y hy]
theorem tmm {St : Store} : cmpV .Eq St (.str (S "made")) (.str (S "made")) = some true := tg_eq "made" (by simp) "made" (by simp)
theorem tnm {St : Store} : cmpV .Eq St (.str (S "num")) (.str (S "made")) = some false := tg_eq "num" (by simp) "made" (by simp)
theorem tom {St : Store} : cmpV .Eq St (.str (S "open")) (.str (S "made")) = some false := tg_eq "open" (by simp) "made" (by simp)
theorem tfm {St : Store} : cmpV .Eq St (.str (S "fn")) (.str (S "made")) = some false := tg_eq "fn" (by simp) "made" (by simp)
theorem trm {St : Store} : cmpV .Eq St (.str (S "ref")) (.str (S "made")) = some false := tg_eq "ref" (by simp) "made" (by simp)
theorem tnf {St : Store} : cmpV .Eq St (.str (S "num")) (.str (S "fn")) = some false := tg_eq "num" (by simp) "fn" (by simp)
theorem tof {St : Store} : cmpV .Eq St (.str (S "open")) (.str (S "fn")) = some false := tg_eq "open" (by simp) "fn" (by simp)
theorem tff {St : Store} : cmpV .Eq St (.str (S "fn")) (.str (S "fn")) = some true := tg_eq "fn" (by simp) "fn" (by simp)
theorem trf {St : Store} : cmpV .Eq St (.str (S "ref")) (.str (S "fn")) = some false := tg_eq "ref" (by simp) "fn" (by simp)
theorem tnr {St : Store} : cmpV .Eq St (.str (S "num")) (.str (S "ref")) = some false := tg_eq "num" (by simp) "ref" (by simp)
theorem tor {St : Store} : cmpV .Eq St (.str (S "open")) (.str (S "ref")) = some false := tg_eq "open" (by simp) "ref" (by simp)
theorem trr {St : Store} : cmpV .Eq St (.str (S "ref")) (.str (S "ref")) = some true := tg_eq "ref" (by simp) "ref" (by simp)
theorem tno {St : Store} : cmpV .Eq St (.str (S "num")) (.str (S "open")) = some false := tg_eq "num" (by simp) "open" (by simp)
theorem too {St : Store} : cmpV .Eq St (.str (S "open")) (.str (S "open")) = some true := tg_eq "open" (by simp) "open" (by simp)
theorem tfo {St : Store} : cmpV .Eq St (.str (S "fn")) (.str (S "open")) = some false := tg_eq "fn" (by simp) "open" (by simp)
theorem tro {St : Store} : cmpV .Eq St (.str (S "ref")) (.str (S "open")) = some false := tg_eq "ref" (by simp) "open" (by simp)
theorem tmo {St : Store} : cmpV .Eq St (.str (S "made")) (.str (S "open")) = some false := tg_eq "made" (by simp) "open" (by simp)
theorem tnn {St : Store} : cmpV .Eq St (.str (S "num")) (.str (S "num")) = some true := tg_eq "num" (by simp) "num" (by simp)
theorem tfn_ {St : Store} : cmpV .Eq St (.str (S "fn")) (.str (S "num")) = some false := tg_eq "fn" (by simp) "num" (by simp)
theorem trn {St : Store} : cmpV .Eq St (.str (S "ref")) (.str (S "num")) = some false := tg_eq "ref" (by simp) "num" (by simp)
theorem tmn {St : Store} : cmpV .Eq St (.str (S "made")) (.str (S "num")) = some false := tg_eq "made" (by simp) "num" (by simp)
theorem ton {St : Store} : cmpV .Eq St (.str (S "open")) (.str (S "num")) = some false := tg_eq "open" (by simp) "num" (by simp)
/-- t in ('fn', 'ref') -/
theorem in_fr {St : Store} : ∀ x ∈ ["num", "open", "fn", "ref", "made"], cmpV .In St (.str (S x)) (.tup [.str (S "fn"), .str (S "ref")]) = some (decide (x = "fn" ∨ x = "ref")) := by
  intro x hx
  have h2 : ∀ x ∈ ["num", "open", "fn", "ref", "made"], ([PV.str (S "fn"), .str (S "ref")].any fun z => eqP z (.str (S x))) = decide (x = "fn" ∨ x = "ref") := by decide +kernel
  rw [← h2 x hx]
  rfl
/-- what lies within a kind -/
def kids : PV → List PV
  | .tup [.str _, .str _, .tup ks] => ks
  | .tup [.str _, .int _] => []
  | .tup (.str _ :: r) => r
  | _ => []
theorem Kd.tup {m : Int} : ∀ {n : Nat} {v : PV}, Kd m n v → ∃ xs, v = .tup xs
  | 0, _, h => h.elim
  | n + 1, v, h => by
    rcases h with rfl | ⟨i, h1, h2, rfl⟩ | ⟨a, b, h1, h2, rfl⟩ | ⟨a, h1, rfl⟩ | ⟨x, ks, h1, h2, h3, rfl⟩ <;> exact ⟨_, rfl⟩
theorem kids_fn {m : Int} {n : Nat} {t : Str} {a b : PV} (h : Kd m n a) : kids (.tup [.str t, a, b]) = [a, b] := by
  obtain ⟨xs, rfl⟩ := h.tup
  rfl
theorem kids_ref {m : Int} {n : Nat} {t : Str} {a : PV} (h : Kd m n a) : kids (.tup [.str t, a]) = [a] := by
  obtain ⟨xs, rfl⟩ := h.tup
  rfl
theorem Kd.kids {m : Int} {n : Nat} {v : PV} (h : Kd m (n + 1) v) : ∀ k ∈ kids v, Kd m n k := by
  rcases h with rfl | ⟨i, h1, h2, rfl⟩ | ⟨a, b, h1, h2, rfl⟩ | ⟨a, h1, rfl⟩ | ⟨x, ks, h1, h2, h3, rfl⟩
  · intro k hk; cases hk
  · intro k hk; cases hk
  · rw [kids_fn h1]
    intro k hk
    rcases List.mem_cons.mp hk with e | e
    · rw [e]; exact h1
    · rw [List.mem_singleton.mp e]; exact h2
  · rw [kids_ref h1]
    intro k hk
    rw [List.mem_singleton.mp hk]; exact h1
  · exact h3
theorem Kd.kids_len {m : Int} {n : Nat} {v : PV} (h : Kd m (n + 1) v) : (PF.kids v).length ≤ 2 := by
  rcases h with rfl | ⟨i, h1, h2, rfl⟩ | ⟨a, b, h1, h2, rfl⟩ | ⟨a, h1, rfl⟩ | ⟨x, ks, h1, h2, h3, rfl⟩
  · exact Nat.zero_le _
  · exact Nat.zero_le _
  · rw [kids_fn h1]; simp
  · rw [kids_ref h1]; simp
  · exact h2
theorem sl1 {S : Store} {x : PV} {xs : List PV} : slV S (.tup (x :: xs)) (some 1) none = some (.tup xs) := by
  show some (PV.tup (cutP (x :: xs) (some 1) none)) = _
  unfold cutP
  rw [HT.sIx_none, show HT.sIx (x :: xs).length 0 (some 1) = 1 by
    rw [show (some (1 : Int)) = some ((1 : Nat) : Int) from rfl, HT.sIx_nat]
    simp only [List.length_cons]
    omega]
  simp
def FWithin : Fn := ⟨1, 1, [(.ite (.cmp .Eq (.ix (.v 0) (.c (.int 0))) (.c (.str (S "made")))) [(.ret (.ix (.v 0) (.c (.int 2))))] []),
    (.ite (.or (.cmp .Eq (.ix (.v 0) (.c (.int 0))) (.c (.str (S "fn")))) (.cmp .Eq (.ix (.v 0) (.c (.int 0))) (.c (.str (S "ref"))))) [(.ret (.sl (.v 0) (.num (.c (.int 1))) (.c .non)))] []),
    (.ret (.tup []))], false⟩
def FLWithin : Fn := ⟨1, 1, [(.ite (.cmp .Eq (.ix (.v 0) (.c (.int 0))) (.c (.str (S "made")))) [(.ret (.blt .list1m [(.ix (.v 0) (.c (.int 2)))]))] []),
    (.ite (.cmp .In (.ix (.v 0) (.c (.int 0))) (.tup [(.c (.str (S "fn"))), (.c (.str (S "ref")))])) [(.ret (.blt .list1m [(.sl (.v 0) (.num (.c (.int 1))) (.c .non))]))] []),
    (.ret (.lst true []))], false⟩
theorem list1m_tup {S : Store} {xs : List PV} : bltR .list1m S [.tup xs] = .ok (.loc S.length) (S ++ [.lst xs]) := rfl
theorem bound_n {S : Store} : bound .non = some none := rfl
theorem bound_i {S : Store} {i : Int} : bound (.int i) = some (some i) := rfl
section
local macro_rules | `(tactic| trivial) => `(tactic| simp only [startE, exs, ex, ev, evs, okS_then, okS_toS, okR_bind, okS_nx, okS_rt, okR_ok, okS_ite, okR_ite, List.length_cons, List.length_nil, List.map_cons, List.map_nil, List.replicate, List.cons_append, List.nil_append, List.getElem?_cons_zero, List.getElem?_cons_succ, putT, List.set_cons_zero, List.set_cons_succ, okR_some, o_add, o_sub, o_mul, o_div, o_mod, o_pow, c_lt, c_le, c_gt, c_ge, c_eq, c_ne, t_bl, map_some', decide_eq_true_eq, R.bind_ok, R.ofO_some, ifs0, ifs1, compR_f, wipeE, mk_f, mk_t, sz0, sz1, sz2, sz3, sz4, sz5, sz6, if_true, dic0, dic1, len_str, len_fz, len_lv, len_tup, tup_lv, list_tup, max_i, min_i, okR_only, ix_tup, atI0, atI1, atI2, sl1, bound, list1m_tup, Bool.false_eq_true, if_false, tmm, tnm, tom, tfm, trm, tnf, tof, tff, trf, tnr, tor, trr, tno, too, tfo, tro, tmo, tnn, tfn_, trn, tmn, ton])
variable {T : List Fn} {iw il : Nat}
theorem within_ok (hw : T[iw]? = some FWithin) (d : Nat) (S : Store) {m : Int} {n : Nat} {v : PV} (hv : Kd m (n + 1) v) : okR (call T (d + 1) iw [v] S) fun u S' => S' = S ∧ u = .tup (kids v) := by
  refine okR_call (F := FWithin) hw rfl ?_
  simp only [FWithin]
  rcases hv with rfl | ⟨i, h1, h2, rfl⟩ | ⟨a, b, h1, h2, rfl⟩ | ⟨a, h1, rfl⟩ | ⟨x, ks, h1, h2, h3, rfl⟩
  · trivial
    exact done_len rfl ⟨rfl, rfl⟩
  · trivial
    exact done_len rfl ⟨rfl, rfl⟩
  · trivial
    exact done_len rfl ⟨rfl, by rw [kids_fn h1]⟩
  · trivial
    exact done_len rfl ⟨rfl, by rw [kids_ref h1]⟩
  · trivial
    exact done_len rfl ⟨rfl, rfl⟩
theorem lwithin_ok (hw : T[il]? = some FLWithin) (d : Nat) (St : Store) {m : Int} {n : Nat} {v : PV} (hv : Kd m (n + 1) v) : okR (call T (d + 1) il [v] St) fun u S' => S' = St ++ [.lst (kids v)] ∧ u = .loc St.length := by
  refine okR_call (F := FLWithin) hw rfl ?_
  simp only [FLWithin]
  have keep : ∀ l : List PV, okR (done false St (.loc St.length) (St ++ [.lst l])) fun u S' => S' = St ++ [.lst l] ∧ u = .loc St.length := fun l => done_keep (by simp [PV.und]) ⟨rfl, rfl⟩
  rcases hv with rfl | ⟨i, h1, h2, rfl⟩ | ⟨a, b, h1, h2, rfl⟩ | ⟨a, h1, rfl⟩ | ⟨x, ks, h1, h2, h3, rfl⟩
  · trivial
    rw [in_fr "num" (by simp)]
    try trivial
    rw [if_neg (by decide)]
    try trivial
    exact keep []
  · trivial
    rw [in_fr "open" (by simp)]
    try trivial
    rw [if_neg (by decide)]
    try trivial
    exact keep []
  · trivial
    rw [in_fr "fn" (by simp)]
    try trivial
    rw [if_pos (by decide)]
    try trivial
    rw [kids_fn h1]
    exact keep _
  · trivial
    rw [in_fr "ref" (by simp)]
    try trivial
    rw [if_pos (by decide)]
    try trivial
    rw [kids_ref h1]
    exact keep _
  · trivial
    exact keep ks
end
/-! ### sizes, open names -/
/-- how many kinds, down to n within one another -/
def ksize : Nat → PV → Nat
  | 0, _ => 0
  | n + 1, v => 1 + ((kids v).map (ksize n)).sum
def kopens : Nat → PV → List PV
  | 0, _ => []
  | n + 1, v => match v with
    | .tup [.str _, .int i] => [.int i]
    | v => ((kids v).map (kopens n)).flatten
theorem okR_det {α : Type} {r : R α} {x : α} {S : Store} (h : okR r fun a S' => S' = S ∧ a = x) : r = .ok x S := by
  obtain ⟨a, S1, h1, h2, h3⟩ := okR_eq h
  rw [h1, h2, h3]
theorem compL_all {turn : PV → Store → R (Option PV)} {g : Grd} {S : Store} (f : PV → PV) (hg : grdOk g S = true) : ∀ (xs acc : List PV), (∀ x ∈ xs, turn x S = .ok (some (f x)) S) → compL g turn xs acc S = .ok (acc ++ xs.map f) S
  | [], acc, _ => by rw [compL, if_pos hg]; simp
  | x :: xs, acc, h => by
    rw [compL, if_pos hg, h x List.mem_cons_self]
    simp only
    rw [compL_all f hg xs _ fun y hy => h y (List.mem_cons_of_mem _ hy)]
    simp
theorem intsOf_map (f : PV → Nat) : ∀ xs : List PV, intsOf (xs.map fun x => .int (f x : Nat)) = some (xs.map fun x => ((f x : Nat) : Int))
  | [] => rfl
  | x :: xs => by rw [List.map_cons, intsOf, intsOf_map f xs]; rfl
theorem sum_cast (f : PV → Nat) : ∀ xs : List PV, (xs.map fun x => ((f x : Nat) : Int)).sum = (((xs.map f).sum : Nat) : Int)
  | [] => rfl
  | x :: xs => by rw [List.map_cons, List.map_cons, List.sum_cons, List.sum_cons, sum_cast f xs]; omega
theorem sum_ok {S : Store} (f : PV → Nat) (xs : List PV) : bltR .sum1 S [.lv (xs.map fun x => .int (f x : Nat))] = .ok (.int (((xs.map f).sum : Nat) : Int)) S := by
  show R.ofO ((intsOf (xs.map fun x => PV.int (f x : Nat))).map fun is => PV.int is.sum) S = _
  rw [intsOf_map]
  show R.ok (PV.int (xs.map fun x => ((f x : Nat) : Int)).sum) S = _
  rw [sum_cast]
def FParts (iw ip : Nat) : Fn := ⟨3, 1, [(.ret (.bin .Add (.c (.int 1)) (.blt .sum1 [(.comp false (.fn ip [(.v 2)]) [1, 2] (.n 2) .seq [(.fn iw [(.v 0)])] [])])))], false⟩
theorem iter_loc {S : Store} {n : Nat} {xs : List PV} (h : S[n]? = some (.lst xs)) : iterV .seq S [.loc n] = some (xs, [(n, .lst xs)]) := by
  show (items S (.loc n)).map (fun xs => (xs, grd S (.loc n))) = _
  simp only [items, grd, h]
  rfl
section
local macro_rules | `(tactic| trivial) => `(tactic| simp only [startE, exs, ex, ev, evs, okS_then, okS_toS, okR_bind, okS_nx, okS_rt, okR_ok, okS_ite, okR_ite, List.length_cons, List.length_nil, List.map_cons, List.map_nil, List.replicate, List.cons_append, List.nil_append, List.getElem?_cons_zero, List.getElem?_cons_succ, putT, List.set_cons_zero, List.set_cons_succ, okR_some, o_add, o_sub, o_mul, o_div, o_mod, o_pow, c_lt, c_le, c_gt, c_ge, c_eq, c_ne, t_bl, map_some', decide_eq_true_eq, R.bind_ok, R.ofO_some, ifs0, ifs1, compR_f, wipeE, mk_f, mk_t, sz0, sz1, sz2, sz3, sz4, sz5, sz6, if_true, dic0, dic1, len_str, len_fz, len_lv, len_tup, tup_lv, list_tup, max_i, min_i, okR_only, ix_tup, atI0, atI1, atI2, sl1, bound, list1m_tup, Bool.false_eq_true, if_false, tmm, tnm, tom, tfm, trm, tnf, tof, tff, trf, tnr, tor, trr, tno, too, tfo, tro, tmo, tnn, tfn_, trn, tmn, ton, iter_tup])
variable {T : List Fn} {iw il ip : Nat}
theorem parts_ok (hw : T[iw]? = some FWithin) (hp : T[ip]? = some (FParts iw ip)) {m : Int} : ∀ (n d : Nat) (S : Store) (v : PV), Kd m (n + 1) v → okR (call T (d + n + 2) ip [v] S) fun u S' => S' = S ∧ u = .int (ksize (n + 1) v : Nat) := by
  intro n
  induction n with
  | zero =>
    intro d S v hv
    refine okR_call (F := FParts iw ip) hp rfl ?_
    simp only [FParts]
    trivial
    refine okR_mono (within_ok hw d S hv) fun u S1 ⟨hS, hu⟩ => ?_
    subst hS hu
    try trivial
    have h0 : kids v = [] := by
      cases hk : kids v with
      | nil => rfl
      | cons k r => exact (hv.kids k (by rw [hk]; exact List.mem_cons_self)).elim
    rw [compL_all (fun _ => .non) rfl (kids v) [] (fun x hx => by rw [h0] at hx; cases hx), h0]
    try trivial
    rw [show bltR .sum1 S1 [.lv []] = .ok (.int 0) S1 from rfl]
    try trivial
    refine done_len rfl ⟨rfl, ?_⟩
    simp [ksize, h0]
  | succ n ih =>
    intro d S v hv
    refine okR_call (F := FParts iw ip) hp rfl ?_
    simp only [FParts]
    trivial
    refine okR_mono (within_ok hw (d + n + 1) S hv) fun u S1 ⟨hS, hu⟩ => ?_
    subst hS hu
    try trivial
    rw [compL_all (fun k => .int (ksize (n + 1) k : Nat)) rfl (kids v) []]
    · try trivial
      rw [sum_ok]
      try trivial
      refine done_len rfl ⟨rfl, ?_⟩
      rw [ksize]
      congr 1
    · intro x hx
      try trivial
      have := okR_det (ih d S1 x (hv.kids x hx))
      rw [show d + (n + 1) + 1 = d + n + 2 by omega, this]
      rfl
def FLSize (il is : Nat) : Fn := ⟨3, 1, [(.ret (.bin .Add (.c (.int 1)) (.blt .sum1 [(.comp false (.fn is [(.v 2)]) [1, 2] (.n 2) .seq [(.fn il [(.v 0)])] [])])))], false⟩
theorem lsize_ok (hw : T[il]? = some FLWithin) (hp : T[ip]? = some (FLSize il ip)) {m : Int} : ∀ (n d : Nat) (S : Store) (v : PV), Kd m (n + 1) v → okR (call T (d + n + 2) ip [v] S) fun u S' => S' = S ∧ u = .int (ksize (n + 1) v : Nat) := by
  intro n
  induction n with
  | zero =>
    intro d S v hv
    refine okR_call (F := FLSize il ip) hp rfl ?_
    simp only [FLSize]
    trivial
    refine okR_mono (lwithin_ok hw d S hv) fun u S1 ⟨hS, hu⟩ => ?_
    subst hS hu
    rw [iter_loc (List.getElem?_concat_length)]
    try trivial
    have h0 : kids v = [] := by
      cases hk : kids v with
      | nil => rfl
      | cons k r => exact (hv.kids k (by rw [hk]; exact List.mem_cons_self)).elim
    rw [compL_all (fun _ => .non) (by simp [grdOk]) (kids v) [] (fun x hx => by rw [h0] at hx; cases hx), h0]
    try trivial
    rw [show ∀ S1, bltR .sum1 S1 [.lv []] = .ok (.int 0) S1 from fun _ => rfl]
    try trivial
    refine done_app rfl ⟨rfl, ?_⟩
    simp [ksize, h0]
  | succ n ih =>
    intro d S v hv
    refine okR_call (F := FLSize il ip) hp rfl ?_
    simp only [FLSize]
    trivial
    refine okR_mono (lwithin_ok hw (d + n + 1) S hv) fun u S1 ⟨hS, hu⟩ => ?_
    subst hS hu
    rw [iter_loc (List.getElem?_concat_length)]
    try trivial
    rw [compL_all (fun k => .int (ksize (n + 1) k : Nat)) (by simp [grdOk]) (kids v) []]
    · try trivial
      rw [sum_ok]
      try trivial
      refine done_app rfl ⟨rfl, ?_⟩
      rw [ksize]
      congr 1
    · intro x hx
      try trivial
      have := okR_det (ih d (S ++ [.lst (kids v)]) x (hv.kids x hx))
      rw [show d + (n + 1) + 1 = d + n + 2 by omega, this]
      rfl
end
end L2.PF

set_option Elab.async false
set_option linter.all false
set_option maxRecDepth 100000
set_option maxHeartbeats 4000000
/-! PFU: open names of a kind. -/
namespace L2.PF
open PySem PySem.Spec PyProof.Rows
def kop : Nat → PV → List Int
  | 0, _ => []
  | n + 1, v => match v with
    | .tup [.str _, .int i] => [i]
    | v => ((kids v).map (kop n)).flatten
def addI (acc : List Int) (x : Int) : List Int := if x ∈ acc then acc else acc ++ [x]
/-- each once -/
def once (xs : List Int) : List Int := xs.foldl addI []
theorem mem_fold : ∀ (xs acc : List Int) (y : Int), y ∈ xs.foldl addI acc ↔ y ∈ acc ∨ y ∈ xs
  | [], acc, y => by simp
  | x :: xs, acc, y => by
    rw [List.foldl_cons, mem_fold xs, List.mem_cons]
    unfold addI
    by_cases h : x ∈ acc
    · rw [if_pos h]
      constructor
      · rintro (z | z)
        · exact .inl z
        · exact .inr (.inr z)
      · rintro (z | z | z)
        · exact .inl z
        · exact .inl (by rw [z]; exact h)
        · exact .inr z
    · rw [if_neg h, List.mem_append, List.mem_singleton]
      constructor
      · rintro ((z | z) | z)
        · exact .inl z
        · exact .inr (.inl z)
        · exact .inr (.inr z)
      · rintro (z | z | z)
        · exact .inl (.inl z)
        · exact .inl (.inr z)
        · exact .inr z
theorem mem_once {xs : List Int} {y : Int} : y ∈ once xs ↔ y ∈ xs := by
  unfold once
  rw [mem_fold]
  simp
/-- added to what is there: those of the list's own ones that are not there -/
theorem fold_once : ∀ (xs acc : List Int), xs.foldl addI acc = acc ++ (once xs).filter fun y => decide (y ∉ acc) := by
  intro xs
  suffices h : ∀ (ys acc : List Int), (ys.reverse).foldl addI acc = acc ++ (once ys.reverse).filter fun y => decide (y ∉ acc) by
    intro acc
    have := h xs.reverse acc
    rwa [List.reverse_reverse] at this
  intro ys
  induction ys with
  | nil => intro acc; simp [once]
  | cons y ys ih =>
    intro acc
    rw [List.reverse_cons, List.foldl_append, ih]
    have e : once (ys.reverse ++ [y]) = addI (once ys.reverse) y := by unfold once; rw [List.foldl_append]; rfl
    rw [e]
    show addI _ y = _
    unfold addI
    by_cases h1 : y ∈ once ys.reverse
    · rw [if_pos h1]
      by_cases h2 : y ∈ acc
      · rw [if_pos (List.mem_append_left _ h2)]
      · rw [if_pos (List.mem_append_right _ (List.mem_filter.mpr ⟨h1, decide_eq_true h2⟩))]
    · rw [if_neg h1]
      by_cases h2 : y ∈ acc
      · rw [if_pos (List.mem_append_left _ h2), List.filter_append]
        simp [h2]
      · rw [if_neg, List.filter_append]
        · simp [h2]
        · rw [List.mem_append, List.mem_filter]
          rintro (z | z)
          · exact h2 z
          · exact h1 z.1
theorem once_app (xs ys : List Int) : once (xs ++ ys) = once xs ++ (once ys).filter fun y => decide (y ∉ once xs) := by
  show (xs ++ ys).foldl addI [] = _
  rw [List.foldl_append, fold_once ys]
  rfl
theorem once_len : ∀ xs : List Int, (once xs).length ≤ xs.length := by
  have : ∀ (xs acc : List Int), (xs.foldl addI acc).length ≤ acc.length + xs.length := by
    intro xs
    induction xs with
    | nil => intro acc; simp
    | cons x xs ih =>
      intro acc
      rw [List.foldl_cons]
      refine Nat.le_trans (ih _) ?_
      unfold addI
      split <;> simp <;> omega
  intro xs
  have := this xs []
  simpa [once] using this
theorem kop_len : ∀ (n : Nat) (v : PV), (kop n v).length ≤ ksize n v
  | 0, _ => Nat.le_refl _
  | n + 1, v => by
    have gen : ∀ ks : List PV, ((ks.map (kop n)).flatten).length ≤ (ks.map (ksize n)).sum := by
      intro ks
      induction ks with
      | nil => simp
      | cons k ks ih =>
        rw [List.map_cons, List.map_cons, List.flatten_cons, List.length_append, List.sum_cons]
        have := kop_len n k
        omega
    rw [ksize]
    unfold kop
    split
    · simp
    · have := gen (kids v)
      omega
/-- x not in a list of ints in the store -/
theorem notin_l {S : Store} {n : Nat} {acc : List Int} {y : Int} (h : S[n]? = some (.lst (acc.map PV.int))) : cmpV .NotIn S (.int y) (.loc n) = some (decide (y ∉ acc)) := by
  show (isIn S (.int y) (.loc n)).map (!·) = _
  have hf : ((flatP (.int y)) && (acc.map PV.int).all flatP) = true := by
    rw [List.all_map]
    simp [flatP, Function.comp_def]
  have ha : ((acc.map PV.int).any fun z => eqP z (.int y)) = decide (y ∈ acc) := by
    rw [List.any_map]
    induction acc with
    | nil => rfl
    | cons a acc ih =>
      have h0 : ∀ l : List Int, (l.any ((fun z => eqP z (PV.int y)) ∘ PV.int)) = decide (y ∈ l) := by
        intro l
        induction l with
        | nil => rfl
        | cons a l ih =>
          rw [List.any_cons, ih]
          show ((a == y) || decide (y ∈ l)) = _
          by_cases e : a = y
          · subst e; simp
          · have e' : y ≠ a := fun z => e z.symm
            simp [e, e']
      exact h0 _
  have : isIn S (.int y) (.loc n) = some (decide (y ∈ acc)) := by
    simp only [isIn, items, h]
    rw [Bool.and_eq_true] at hf
    rw [inD_flat hf.1 hf.2, ha]
  rw [this]
  simp
def FOpens (iw io : Nat) : Fn := ⟨5, 1, [(.ite (.cmp .Eq (.ix (.v 0) (.c (.int 0))) (.c (.str (S "open")))) [(.ret (.tup [(.ix (.v 0) (.c (.int 1)))]))] []),
    (.set (.n 1) (.lst true [])),
    (.forS (.n 2) .seq [(.fn iw [(.v 0)])] [(.ex (.mth .extend (.v 1) [(.comp false (.v 4) [3, 4] (.n 4) .seq [(.fn io [(.v 2)])] [(.cmp .NotIn (.v 4) (.v 1))])]))]),
    (.ret (.blt .tuple1 [(.v 1)]))], false⟩
theorem ext_l {S : Store} {n : Nat} {xs ys : List PV} (h : S[n]? = some (.lst xs)) (hl : xs.length + ys.length ≤ sizeLine) : mthV .extend S (.loc n) [.lv ys] = .ok .non (S.set n (.lst (xs ++ ys))) := by
  simp only [mthV, mitems, h]
  rw [if_pos hl]
theorem filt_map (acc : List Int) : ∀ xs : List Int, xs.filterMap (fun y => if ¬ y ∈ acc then some (PV.int y) else none) = (xs.filter fun y => decide (y ∉ acc)).map PV.int
  | [] => rfl
  | x :: xs => by
    rw [List.filterMap_cons, List.filter_cons, filt_map acc xs]
    by_cases h : x ∈ acc <;> simp [h]
section
local macro_rules | `(tactic| trivial) => `(tactic| simp only [startE, exs, ex, ev, evs, okS_then, okS_toS, okR_bind, okS_nx, okS_rt, okR_ok, okS_ite, okR_ite, List.length_cons, List.length_nil, List.map_cons, List.map_nil, List.replicate, List.cons_append, List.nil_append, List.getElem?_cons_zero, List.getElem?_cons_succ, putT, List.set_cons_zero, List.set_cons_succ, okR_some, o_add, o_sub, o_mul, o_div, o_mod, o_pow, c_lt, c_le, c_gt, c_ge, c_eq, c_ne, t_bl, map_some', decide_eq_true_eq, R.bind_ok, R.ofO_some, ifs0, ifs1, compR_f, wipeE, mk_f, mk_t, sz0, sz1, sz2, sz3, sz4, sz5, sz6, if_true, dic0, dic1, len_str, len_fz, len_lv, len_tup, tup_lv, list_tup, max_i, min_i, okR_only, ix_tup, atI0, atI1, atI2, sl1, bound, list1m_tup, Bool.false_eq_true, if_false, tmm, tnm, tom, tfm, trm, tnf, tof, tff, trf, tnr, tor, trr, tno, too, tfo, tro, tmo, tnn, tfn_, trn, tmn, ton, iter_tup])
variable {T : List Fn} {iw il io : Nat}
theorem Kd.split {m : Int} {n : Nat} {v : PV} (h : Kd m (n + 1) v) : (∃ i : Int, 0 ≤ i ∧ i < m ∧ v = .tup [.str (PF.S "open"), .int i]) ∨
    ∃ (t : String) (r : List PV), v = .tup (.str (PF.S t) :: r) ∧ (∀ St, cmpV .Eq St (.str (PF.S t)) (.str (PF.S "open")) = some false) ∧ kop (n + 1) v = ((PF.kids v).map (kop n)).flatten := by
  rcases h with rfl | ⟨i, h1, h2, rfl⟩ | ⟨a, b, h1, h2, rfl⟩ | ⟨a, h1, rfl⟩ | ⟨x, ks, h1, h2, h3, rfl⟩
  · exact .inr ⟨"num", [], rfl, fun _ => tno, rfl⟩
  · exact .inl ⟨i, h1, h2, rfl⟩
  · refine .inr ⟨"fn", _, rfl, fun _ => tfo, ?_⟩
    obtain ⟨xs, rfl⟩ := h1.tup
    rfl
  · refine .inr ⟨"ref", _, rfl, fun _ => tro, ?_⟩
    obtain ⟨xs, rfl⟩ := h1.tup
    rfl
  · exact .inr ⟨"made", _, rfl, fun _ => tmo, rfl⟩
theorem set_last {S : Store} {a b : PO} : (S ++ [a]).set S.length b = S ++ [b] := by
  rw [List.set_append_right _ _ (Nat.le_refl _)]
  simp
theorem get_last {S : Store} {a : PO} : (S ++ [a])[S.length]? = some a := List.getElem?_concat_length
theorem tup_loc {S : Store} {n : Nat} {xs : List PV} (h : S[n]? = some (.lst xs)) : bltR .tuple1 S [.loc n] = .ok (.tup xs) S := by
  show R.ofO ((items S (.loc n)).map PV.tup) S = _
  simp only [items, h]
  rfl
theorem und_ints (n : Nat) : ∀ xs : List Int, PV.undL n (xs.map PV.int) = true
  | [] => rfl
  | x :: xs => by rw [List.map_cons, PV.undL, und_ints n xs]; rfl
theorem opens_step (hw : T[iw]? = some FWithin) (hp : T[io]? = some (FOpens iw io)) {m : Int} {n : Nat} (d : Nat) (S : Store) (v : PV) (hv : Kd m (n + 1) v) (hs : ksize (n + 1) v ≤ 1000000)
    (hrec : ∀ k ∈ kids v, ∀ S, okR (call T (d + 1) io [k] S) fun u S' => S' = S ∧ u = .tup ((once (kop n k)).map PV.int)) : okR (call T (d + 2) io [v] S) fun u S' => S' = S ∧ u = .tup ((once (kop (n + 1) v)).map PV.int) := by
  refine okR_call (F := FOpens iw io) hp rfl ?_
  simp only [FOpens]
  rcases hv.split with ⟨i, h1, h2, rfl⟩ | ⟨t, r, hvt, hne, hk⟩
  · trivial
    exact done_len rfl ⟨rfl, rfl⟩
  · subst hvt
    trivial
    rw [hne]
    try trivial
    refine okR_mono (within_ok hw d _ hv) fun u S1 ⟨hS, hu⟩ => ?_
    subst hS hu
    try trivial
    have hlen := kop_len (n + 1) (.tup (.str (PF.S t) :: r))
    rw [hk] at hlen ⊢
    refine forL_ok (fun (i : Nat) (e : Env) (S' : Store) => S' = S ++ [.lst ((once ((((kids (.tup (.str (PF.S t) :: r))).take i).map (kop n)).flatten)).map PV.int)] ∧ ∃ o2 o3 o4, e = [some (.tup (.str (PF.S t) :: r)), some (.loc S.length), o2, o3, o4])
      ⟨rfl, _, _, _, rfl⟩ (fun _ _ _ _ _ => rfl) ?_ ?_
    · rintro i x e S' hx ⟨rfl, o2, o3, o4, rfl⟩
      have hxm : x ∈ kids (.tup (.str (PF.S t) :: r)) := List.mem_of_getElem? hx
      try trivial
      rw [okR_det (hrec x hxm _)]
      try trivial
      rw [compL_map PV.int (fun y => if ¬ y ∈ once ((((kids (.tup (.str (PF.S t) :: r))).take i).map (kop n)).flatten) then some (.int y) else none)]
      · try trivial
        rw [if_pos (by simp only [mthIs, tyName, get_last]; rfl)]
        rw [filt_map]
        have ht : ((((kids (.tup (.str (PF.S t) :: r))).take (i + 1)).map (kop n)).flatten) = ((((kids (.tup (.str (PF.S t) :: r))).take i).map (kop n)).flatten) ++ kop n x := by
          rw [List.take_add_one, hx, List.map_append, List.flatten_append]
          simp
        have hb : ((((kids (.tup (.str (PF.S t) :: r))).take (i + 1)).map (kop n)).flatten).length ≤ ((kids (.tup (.str (PF.S t) :: r))).map (kop n)).flatten.length := by
          conv => rhs; rw [← List.take_append_drop (i + 1) (kids (.tup (.str (PF.S t) :: r))), List.map_append, List.flatten_append, List.length_append]
          omega
        have ho := once_len ((((kids (.tup (.str (PF.S t) :: r))).take (i + 1)).map (kop n)).flatten)
        rw [ht, once_app] at ho
        rw [ht] at hb ⊢
        rw [once_app]
        rw [ext_l get_last (by
          rw [List.length_map, List.length_map, ← List.length_append, sizeLine_eq]
          omega)]
        try trivial
        rw [set_last, ← List.map_append]
        exact ⟨rfl, _, _, _, rfl⟩
      · intro y hy
        try trivial
        rw [notin_l get_last]
        try trivial
        generalize once ((((kids (.tup (.str (PF.S t) :: r))).take i).map (kop n)).flatten) = acc
        by_cases h : y ∈ acc
        · simp [h]
        · simp [h]
    · rintro e S' ⟨rfl, o2, o3, o4, rfl⟩
      rw [List.take_length]
      try trivial
      rw [tup_loc get_last]
      try trivial
      refine done_app ?_ ⟨rfl, rfl⟩
      rw [PV.und]
      exact und_ints _ _
theorem opens_ok (hw : T[iw]? = some FWithin) (hp : T[io]? = some (FOpens iw io)) {m : Int} : ∀ (n d : Nat) (S : Store) (v : PV), Kd m (n + 1) v → ksize (n + 1) v ≤ 1000000 → okR (call T (d + n + 2) io [v] S) fun u S' => S' = S ∧ u = .tup ((once (kop (n + 1) v)).map PV.int)
  | 0, d, S, v, hv, hs => opens_step hw hp d S v hv hs fun k hk => (hv.kids k hk).elim
  | n + 1, d, S, v, hv, hs => opens_step hw hp (d + n + 1) S v hv hs fun k hk S => by
    have := opens_ok hw hp n d S k (hv.kids k hk) (by
      have : ∀ ks : List PV, k ∈ ks → ksize (n + 1) k ≤ (ks.map (ksize (n + 1))).sum := by
        intro ks
        induction ks with
        | nil => intro h; cases h
        | cons a ks ih =>
          intro h
          rw [List.map_cons, List.sum_cons]
          rcases List.mem_cons.mp h with e | e
          · rw [e]; omega
          · have := ih e; omega
      have := this _ hk
      rw [ksize] at hs
      omega)
    exact this
def FLOpens (il io : Nat) : Fn := ⟨3, 1, [(.ite (.cmp .Eq (.ix (.v 0) (.c (.int 0))) (.c (.str (S "open")))) [(.ret (.lst true [(.ix (.v 0) (.c (.int 1)))]))] []),
    (.set (.n 1) (.lst true [])),
    (.forS (.n 2) .seq [(.fn il [(.v 0)])] [(.ex (.mth .extend (.v 1) [(.fn io [(.v 2)])]))]),
    (.ret (.v 1))], false⟩
theorem ext_loc {S : Store} {n k : Nat} {xs ys : List PV} (h : S[n]? = some (.lst xs)) (h2 : S[k]? = some (.lst ys)) (hl : xs.length + ys.length ≤ sizeLine) : mthV .extend S (.loc n) [.loc k] = .ok .non (S.set n (.lst (xs ++ ys))) := by
  simp only [mthV, mitems, h, h2]
  rw [if_pos hl]
theorem set_mid {S l : Store} {a b : PO} : (S ++ a :: l).set S.length b = S ++ b :: l := by
  rw [List.set_append_right _ _ (Nat.le_refl _)]
  simp
theorem get_mid {S l : Store} {a : PO} : (S ++ a :: l)[S.length]? = some a := by
  rw [List.getElem?_append_right (Nat.le_refl _)]
  simp
theorem get_mid2 {S l : Store} {a b : PO} : (S ++ a :: b :: l)[S.length + 1]? = some b := by
  rw [List.getElem?_append_right (by omega)]
  simp
/-- what a law's own listing of the open names hands back -/
def LOp (S : Store) (xs : List Int) (u : PV) (S' : Store) : Prop := ∃ l n, S' = S ++ l ∧ u = .loc n ∧ S.length ≤ n ∧ S'[n]? = some (.lst (xs.map PV.int))
theorem lopens_step (hw : T[il]? = some FLWithin) (hp : T[io]? = some (FLOpens il io)) {m : Int} {n : Nat} (d : Nat) (S : Store) (v : PV) (hv : Kd m (n + 1) v) (hs : ksize (n + 1) v ≤ 1000000)
    (hrec : ∀ k ∈ kids v, ∀ S, okR (call T (d + 1) io [k] S) (LOp S (kop n k))) : okR (call T (d + 2) io [v] S) (LOp S (kop (n + 1) v)) := by
  refine okR_call (F := FLOpens il io) hp rfl ?_
  simp only [FLOpens]
  rcases hv.split with ⟨i, h1, h2, rfl⟩ | ⟨t, r, hvt, hne, hk⟩
  · trivial
    exact done_keep (by simp [PV.und]) ⟨_, _, rfl, rfl, Nat.le_refl _, get_last⟩
  · subst hvt
    trivial
    rw [hne]
    try trivial
    refine okR_mono (lwithin_ok hw d _ hv) fun u S1 ⟨hS, hu⟩ => ?_
    subst hS hu
    have e1 : (S ++ [PO.lst []] ++ [PO.lst (kids (.tup (.str (PF.S t) :: r)))]) = S ++ PO.lst [] :: PO.lst (kids (.tup (.str (PF.S t) :: r))) :: [] := by simp
    have e2 : (S ++ [PO.lst ([] : List PV)]).length = S.length + 1 := by simp
    rw [e1, e2, iter_loc get_mid2]
    try trivial
    have hlen := kop_len (n + 1) (.tup (.str (PF.S t) :: r))
    rw [hk] at hlen ⊢
    refine forL_ok (fun (i : Nat) (e : Env) (S' : Store) => (∃ l, S' = S ++ PO.lst (((((kids (.tup (.str (PF.S t) :: r))).take i).map (kop n)).flatten).map PV.int) :: PO.lst (kids (.tup (.str (PF.S t) :: r))) :: l) ∧ ∃ o2, e = [some (.tup (.str (PF.S t) :: r)), some (.loc S.length), o2])
      ⟨⟨[], rfl⟩, _, rfl⟩ (fun i e S' _ ⟨⟨l, hl⟩, _⟩ => by rw [hl]; unfold grdOk; rw [List.all_cons]; simp only [get_mid2]; simp) ?_ ?_
    · rintro i x e S' hx ⟨⟨l, rfl⟩, o2, rfl⟩
      have hxm : x ∈ kids (.tup (.str (PF.S t) :: r)) := List.mem_of_getElem? hx
      try trivial
      rw [if_pos (by simp only [mthIs, tyName, get_mid]; rfl)]
      refine okR_mono (hrec x hxm _) fun u S2 ⟨l2, n2, hS, hu, hle, hg⟩ => ?_
      subst hS hu
      have ht : ((((kids (.tup (.str (PF.S t) :: r))).take (i + 1)).map (kop n)).flatten) = ((((kids (.tup (.str (PF.S t) :: r))).take i).map (kop n)).flatten) ++ kop n x := by
        rw [List.take_add_one, hx, List.map_append, List.flatten_append]
        simp
      have hb : ((((kids (.tup (.str (PF.S t) :: r))).take (i + 1)).map (kop n)).flatten).length ≤ ((kids (.tup (.str (PF.S t) :: r))).map (kop n)).flatten.length := by
        conv => rhs; rw [← List.take_append_drop (i + 1) (kids (.tup (.str (PF.S t) :: r))), List.map_append, List.flatten_append, List.length_append]
        omega
      rw [ht] at hb ⊢
      rw [List.append_assoc, List.cons_append, List.cons_append] at hg ⊢
      rw [ext_loc get_mid hg (by
        rw [List.length_map, List.length_map, ← List.length_append, sizeLine_eq]
        omega)]
      try trivial
      rw [set_mid, ← List.map_append]
      exact ⟨⟨_, rfl⟩, _, rfl⟩
    · rintro e S' ⟨⟨l, rfl⟩, o2, rfl⟩
      rw [List.take_length]
      try trivial
      exact done_keep (by simp [PV.und]) ⟨_, _, rfl, rfl, Nat.le_refl _, get_mid⟩
theorem ksize_kid {n : Nat} {k : PV} : ∀ ks : List PV, k ∈ ks → ksize n k ≤ (ks.map (ksize n)).sum
  | [], h => by cases h
  | a :: ks, h => by
    rw [List.map_cons, List.sum_cons]
    rcases List.mem_cons.mp h with e | e
    · rw [e]; omega
    · have := ksize_kid (n := n) ks e
      omega
theorem lopens_ok (hw : T[il]? = some FLWithin) (hp : T[io]? = some (FLOpens il io)) {m : Int} : ∀ (n d : Nat) (S : Store) (v : PV), Kd m (n + 1) v → ksize (n + 1) v ≤ 1000000 → okR (call T (d + n + 2) io [v] S) (LOp S (kop (n + 1) v))
  | 0, d, S, v, hv, hs => lopens_step hw hp d S v hv hs fun k hk => (hv.kids k hk).elim
  | n + 1, d, S, v, hv, hs => lopens_step hw hp (d + n + 1) S v hv hs fun k hk S => lopens_ok hw hp n d S k (hv.kids k hk) (by
      have := ksize_kid (n := n + 1) (kids v) hk
      rw [ksize] at hs
      omega)
end
/-! ### how large a kind is -/
theorem sum_le {B : Nat} (f : PV → Nat) : ∀ ks : List PV, (∀ k ∈ ks, f k ≤ B) → (ks.map f).sum ≤ ks.length * B
  | [], _ => by simp
  | a :: ks, h => by
    have h1 := sum_le f ks fun k hk => h k (List.mem_cons_of_mem _ hk)
    have h2 := h a List.mem_cons_self
    rw [List.map_cons, List.sum_cons, List.length_cons, Nat.add_mul, Nat.one_mul]
    omega
theorem Kd.size {m : Int} : ∀ {n : Nat} {v : PV}, Kd m n v → ∀ k, ksize k v + 1 ≤ 2 ^ n
  | 0, _, h, _ => h.elim
  | n + 1, v, h, 0 => Nat.one_le_pow _ _ (by omega)
  | n + 1, v, h, k + 1 => by
    have hp : 2 ^ (n + 1) = 2 * 2 ^ n := by rw [Nat.pow_succ]; omega
    have h1 : 1 ≤ 2 ^ n := Nat.one_le_pow _ _ (by omega)
    have h2 := sum_le (B := 2 ^ n - 1) (ksize k) (PF.kids v) fun a ha => by
      have := (h.kids a ha).size k
      omega
    have h3 := h.kids_len
    have h4 : (PF.kids v).length * (2 ^ n - 1) ≤ 2 * (2 ^ n - 1) := Nat.mul_le_mul_right _ h3
    rw [ksize]
    omega
/-- not larger than N at any depth -/
def Ks (N : Nat) (v : PV) : Prop := ∀ k, ksize k v ≤ N
theorem Ks.fn {m : Int} {j M N : Nat} {t : Str} {a b : PV} (h : Kd m j a) (ha : Ks M a) (hb : Ks N b) : Ks (1 + M + N) (.tup [.str t, a, b])
  | 0 => Nat.zero_le _
  | k + 1 => by
    rw [ksize, kids_fn h]
    have := ha k
    have := hb k
    simp
    omega
theorem Ks.ref {m : Int} {j M : Nat} {t : Str} {a : PV} (h : Kd m j a) (ha : Ks M a) : Ks (1 + M) (.tup [.str t, a])
  | 0 => Nat.zero_le _
  | k + 1 => by
    rw [ksize, kids_ref h]
    have := ha k
    simp
    omega
theorem Ks.made {M N : Nat} {t x : Str} {a b : PV} (ha : Ks M a) (hb : Ks N b) : Ks (1 + M + N) (.tup [.str t, .str x, .tup [a, b]])
  | 0 => Nat.zero_le _
  | k + 1 => by
    have := ha k
    have := hb k
    show 1 + ([a, b].map (ksize k)).sum ≤ _
    simp
    omega
theorem Ks.up {M N : Nat} {v : PV} (h : Ks M v) (k : M ≤ N) : Ks N v := fun j => Nat.le_trans (h j) k
theorem Ks.open {t : Str} {i : Int} : Ks 1 (.tup [.str t, .int i])
  | 0 => Nat.zero_le _
  | k + 1 => by show 1 + (([] : List PV).map (ksize k)).sum ≤ 1; simp
theorem Ks.num {t : Str} : Ks 1 (.tup [.str t])
  | 0 => Nat.zero_le _
  | k + 1 => by show 1 + (([] : List PV).map (ksize k)).sum ≤ 1; simp
section
local macro_rules | `(tactic| trivial) => `(tactic| simp only [startE, exs, ex, ev, evs, okS_then, okS_toS, okR_bind, okS_nx, okS_rt, okR_ok, okS_ite, okR_ite, List.length_cons, List.length_nil, List.map_cons, List.map_nil, List.replicate, List.cons_append, List.nil_append, List.getElem?_cons_zero, List.getElem?_cons_succ, putT, List.set_cons_zero, List.set_cons_succ, okR_some, o_add, o_sub, o_mul, o_div, o_mod, o_pow, c_lt, c_le, c_gt, c_ge, c_eq, c_ne, t_bl, map_some', decide_eq_true_eq, R.bind_ok, R.ofO_some, ifs0, ifs1, compR_f, wipeE, mk_f, mk_t, sz0, sz1, sz2, sz3, sz4, sz5, sz6, if_true, dic0, dic1, len_str, len_fz, len_lv, len_tup, tup_lv, list_tup, max_i, min_i, okR_only])
variable {T : List Fn} {im it : Nat}
/-- the deep kind, with its size -/
theorem deep_ks {idp : Nat} {cnt : Int} (hm : T[im]? = some FMix) (ht : T[it]? = some (FTake im)) (hd : T[idp]? = some (FDeep it cnt)) (c0 : 0 ≤ cnt) (c1 : cnt ≤ 1000) (b : Nat) (x0 : Str) (names : List PV) (hx0 : Nm x0) (m : Int) (m0 : 0 < m) (m1 : m < 2 ^ 100)
    (d n : Nat) (S : Store) (hb : Bx b n S) (hn : n < 2 ^ 48) : okR (call T (d + 3) idp [.loc b, .lv (.str x0 :: names), .int m] S) fun v S' => Fr b S S' ∧ Bx b (n + cnt.toNat + 1) S' ∧ Kd m (cnt.toNat + 2) v ∧ Ks (4 * cnt.toNat + 1) v := by
  refine okR_call (F := FDeep it cnt) hd rfl ?_
  simp only [FDeep]
  trivial
  refine okR_mono (take_ok hm ht d S b n m hb (by omega) m0 (by omega)) fun v S1 ⟨hf, hb1, r, hv, hr, hr2⟩ => ?_
  subst hv
  try trivial
  rw [iter_rng c0 (by omega)]
  try trivial
  have hbs : ∀ k, Kd m (k + 2) (.tup [.str (PF.S "fn"), .tup [.str (PF.S "num")], .tup [.str (PF.S "num")]]) := fun k => .inr (.inr (.inl ⟨_, _, .inl rfl, .inl rfl, rfl⟩))
  have hnum : Kd m 1 (.tup [.str (PF.S "num")]) := .inl rfl
  have hbk : Ks 3 (.tup [.str (PF.S "fn"), .tup [.str (PF.S "num")], .tup [.str (PF.S "num")]]) := Ks.fn hnum .num .num
  refine forL_ok (fun (i : Nat) (e : Env) (S' : Store) => Fr b S S' ∧ Bx b (n + 1 + i) S' ∧ ∃ v o5 o6, e = [some (.loc b), some (.lv (.str x0 :: names)), some (.int m), some v, some (.tup [.str (PF.S "fn"), .tup [.str (PF.S "num")], .tup [.str (PF.S "num")]]), o5, o6] ∧ Kd m (i + 2) v ∧ Ks (4 * i + 1) v)
    ⟨hf, hb1, _, _, _, rfl, .inr (.inl ⟨r, hr, hr2, rfl⟩), .open⟩ (fun _ _ _ _ _ => rfl) ?_ ?_
  · rintro i x e S2 hx ⟨hf2, hb2, v, o5, o6, rfl, hv, hvk⟩
    obtain ⟨rfl, hi⟩ := intRow_at hx
    try trivial
    refine okR_mono (take_ok hm ht d S2 b _ 4 hb2 (by omega) (by omega) (by omega)) fun u S3 ⟨hf3, hb3, r3, hu, h0, h1⟩ => ?_
    subst hu
    try trivial
    rw [ix_lv, atI0]
    try trivial
    obtain ⟨y, e1, e2⟩ := atI_some (xs := [PV.tup [.str (PF.S "fn"), v, .tup [.str (PF.S "fn"), .tup [.str (PF.S "num")], .tup [.str (PF.S "num")]]], .tup [.str (PF.S "fn"), .tup [.str (PF.S "fn"), .tup [.str (PF.S "num")], .tup [.str (PF.S "num")]], v], .tup [.str (PF.S "ref"), v],
      .tup [.str (PF.S "made"), .str x0, .tup [.tup [.str (PF.S "fn"), .tup [.str (PF.S "num")], .tup [.str (PF.S "num")]], v]]]) (i := r3) h0 (by simp only [List.length_cons, List.length_nil]; omega)
    rw [ix_lv, e1]
    try trivial
    refine ⟨hf2.trans hf3, by rw [show n + 1 + (i + 1) = n + 1 + i + 1 by omega]; exact hb3, y, _, _, rfl, ?_⟩
    simp only [List.mem_cons, List.not_mem_nil, or_false] at e2
    rcases e2 with e | e | e | e
    · exact ⟨.inr (.inr (.inl ⟨_, _, hv, hbs i, e⟩)), by rw [e]; exact (Ks.fn hv hvk hbk).up (by omega)⟩
    · exact ⟨.inr (.inr (.inl ⟨_, _, hbs i, hv, e⟩)), by rw [e]; exact (Ks.fn (hbs i) hbk hvk).up (by omega)⟩
    · exact ⟨.inr (.inr (.inr (.inl ⟨_, hv, e⟩))), by rw [e]; exact (Ks.ref hv hvk).up (by omega)⟩
    · refine ⟨.inr (.inr (.inr (.inr ⟨x0, _, hx0, ?_, fun k hk => ?_, e⟩))), by rw [e]; exact (Ks.made hbk hvk).up (by omega)⟩
      · simp
      · rcases List.mem_cons.mp hk with z | z
        · rw [z]; exact hbs i
        · rw [List.mem_singleton.mp z]; exact hv
  · rintro e S2 ⟨hf2, hb2, v, o5, o6, rfl, hv, hvk⟩
    rw [intRow_length] at hb2 hv hvk
    try trivial
    exact done_len hf2.1 ⟨hf2, hb2.up (by omega), hv, hvk⟩
end
end L2.PF

set_option Elab.async false
set_option linter.all false
set_option maxRecDepth 100000
set_option maxHeartbeats 4000000
/-! PFV: plain trees of values: what == tells of them. -/
namespace L2.PF
open PySem PySem.Spec PyProof.Rows
/-- no dict ahead, no made one with a tuple -/
def noDv : List PV → Prop
  | .dv _ _ :: _ => False
  | [.str t, _, .tup _] => t ≠ S "made"
  | _ => True
/-- values, texts that P holds of, tuples and lists of such (no dict ahead in a tuple), dicts, n within one another at most -/
def Tree (P : Str → Prop) : Nat → PV → Prop
  | 0, _ => False
  | n + 1, v => v = .non ∨ (∃ b, v = .bl b) ∨ (∃ i, v = .int i) ∨ (∃ x, P x ∧ v = .str x) ∨ (∃ xs, ((∀ x ∈ xs, Tree P n x) ∧ noDv xs) ∧ v = .tup xs) ∨ (∃ xs, (∀ x ∈ xs, Tree P n x) ∧ v = .lv xs) ∨ (∃ ks xs, v = .dv ks xs) ∨ ∃ a ks, Tree P n a ∧ (∀ x ∈ ks, Tree P n x) ∧ v = .tup [.str (S "made"), a, .tup ks]
theorem Tree.up {P : Str → Prop} : ∀ {n k : Nat} {v : PV}, Tree P n v → n ≤ k → Tree P k v
  | 0, _, _, h, _ => h.elim
  | n + 1, 0, _, _, h => absurd h (by omega)
  | n + 1, k + 1, v, h, hk => by
    have hk : n ≤ k := by omega
    rcases h with h | h | h | h | ⟨xs, h1, h⟩ | ⟨xs, h1, h⟩ | h | ⟨a, ks, h1, h2, h⟩
    · exact .inl h
    · exact .inr (.inl h)
    · exact .inr (.inr (.inl h))
    · exact .inr (.inr (.inr (.inl h)))
    · exact .inr (.inr (.inr (.inr (.inl ⟨xs, ⟨fun x hx => (h1.1 x hx).up hk, h1.2⟩, h⟩))))
    · exact .inr (.inr (.inr (.inr (.inr (.inl ⟨xs, fun x hx => (h1 x hx).up hk, h⟩)))))
    · exact .inr (.inr (.inr (.inr (.inr (.inr (.inl h))))))
    · exact .inr (.inr (.inr (.inr (.inr (.inr (.inr ⟨a, ks, h1.up hk, fun x hx => (h2 x hx).up hk, h⟩))))))
def eqStr (v : PV) (y : Str) : Bool := match v with | .str x => decide (x = y) | _ => false
/-- a value that is no dict, no instance against a text -/
theorem c_eq_s {S : Store} {v : PV} {y : Str} (h : flatP v = true ∨ ∃ p, seqK S v = some p) : cmpV .Eq S v (.str y) = some (eqStr v y) := by
  show eqG S (169 + 1) v (.str y) = _
  rw [eqG]
  by_cases hf : flatP v = true
  · rw [if_pos hf, if_pos (by rfl)]
    cases v <;> first | rfl | cases hf
  · rw [if_neg hf]
    rcases h with h | ⟨p, h⟩
    · exact absurd h hf
    · rw [h]
      simp only
      rw [if_pos (by rfl)]
      cases v <;> first | rfl | (exact absurd rfl hf)
/-- a tuple against () -/
theorem c_eq_t0 {S : Store} {xs : List PV} : cmpV .Eq S (.tup xs) (.tup []) = some xs.isEmpty := by
  show eqG S (169 + 1) (.tup xs) (.tup []) = _
  rw [eqG, if_neg (by simp [flatP])]
  cases xs <;> rfl
/-- a list against [] -/
theorem c_eq_l0 {S : Store} {xs : List PV} : cmpV .Eq S (.lv xs) (.lv []) = some xs.isEmpty := by
  show eqG S (169 + 1) (.lv xs) (.lv []) = _
  rw [eqG, if_neg (by simp [flatP])]
  cases xs <;> rfl
/-- a list in the store against [] -/
theorem c_eq_o0 {S : Store} {n : Nat} {xs : List PV} (h : S[n]? = some (.lst xs)) : cmpV .Eq S (.loc n) (.lv []) = some xs.isEmpty := by
  show eqG S (169 + 1) (.loc n) (.lv []) = _
  rw [eqG, if_neg (by simp [flatP])]
  simp only [seqK, litems, h]
  cases xs <;> rfl
section
variable {P : Str → Prop}
theorem Tree.ty {n : Nat} {v : PV} (h : Tree P n v) : ∃ t, (∀ S, tyName S v = some t) ∧ (t = "tuple" ↔ ∃ xs, v = .tup xs) ∧ (t = "str" ↔ ∃ x, v = .str x) := by
  cases n with
  | zero => exact h.elim
  | succ n =>
    rcases h with rfl | ⟨b, rfl⟩ | ⟨i, rfl⟩ | ⟨x, hx, rfl⟩ | ⟨xs, h1', rfl⟩ | ⟨xs, h1', rfl⟩ | ⟨ks, xs, rfl⟩ | ⟨a, ks, h1', h2', rfl⟩
    · exact ⟨"NoneType", fun _ => rfl, by simp, by simp⟩
    · exact ⟨"bool", fun _ => rfl, by simp, by simp⟩
    · exact ⟨"int", fun _ => rfl, by simp, by simp⟩
    · exact ⟨"str", fun _ => rfl, by simp, by simp⟩
    · exact ⟨"tuple", fun _ => rfl, by simp, by simp⟩
    · exact ⟨"list", fun _ => rfl, by simp, by simp⟩
    · exact ⟨"dict", fun _ => rfl, by simp, by simp⟩
    · exact ⟨"tuple", fun _ => rfl, by simp, by simp⟩
/-- a tree that is no dict against a text -/
theorem c_eq_ts {S : Store} {n : Nat} {v : PV} {y : Str} (h : Tree P n v) (hd : ∀ ks xs, v ≠ .dv ks xs) : cmpV .Eq S v (.str y) = some (eqStr v y) := by
  refine c_eq_s ?_
  cases n with
  | zero => exact h.elim
  | succ n =>
    rcases h with rfl | ⟨b, rfl⟩ | ⟨i, rfl⟩ | ⟨x, hx, rfl⟩ | ⟨xs, h1', rfl⟩ | ⟨xs, h1', rfl⟩ | ⟨ks, xs, rfl⟩ | ⟨a, ks, h1', h2', rfl⟩
    · exact .inl rfl
    · exact .inl rfl
    · exact .inl rfl
    · exact .inl rfl
    · exact .inr ⟨_, rfl⟩
    · exact .inr ⟨_, rfl⟩
    · exact absurd rfl (hd _ _)
    · exact .inr ⟨_, rfl⟩
end
end L2.PF

set_option Elab.async false
set_option linter.all false
set_option maxRecDepth 100000
set_option maxHeartbeats 4000000
namespace L2.PF.KB
open PySem PySem.Spec PyProof.Rows
def topS (i : Nat) : Stmt := PySem.Challenge.pw_kindbooks_k11_kinds_of_any_thing.main.body.getD i (.Pass ⟨0, 0, 0, 0⟩)
def tb : Tab := ⟨[((S "is_whole"), 0, 1), ((S "is_word"), 1, 1), ((S "is_made_name"), 2, 1), ((S "within"), 3, 1), ((S "is_kind"), 4, 1), ((S "parts_of"), 5, 1), ((S "opens_in"), 6, 1), ((S "_law_cell"), 7, 2), ((S "_law_mixed"), 8, 2), ((S "_law_box"), 9, 2), ((S "_law_take"), 10, 2), ((S "_law_word"), 11, 1), ((S "_law_name"), 12, 1), ((S "_law_kind"), 13, 4), ((S "_law_deep"), 14, 3), ((S "_law_within"), 15, 1), ((S "_law_with"), 16, 2), ((S "_law_bad"), 17, 2), ((S "_law_spoilt"), 18, 2), ((S "_law_is_word"), 19, 1), ((S "_law_is_name"), 20, 1), ((S "_law_is_kind"), 21, 1), ((S "_law_opens"), 22, 1), ((S "_law_size"), 23, 1), ((S "_law_told"), 24, 1), ((S "law"), 25, 1)],
  [((S "LETTERS"), (.str (S "abcdefghijklmnopqrstuvwxyz"))), ((S "LONGEST"), (.int 6))],
  [(S "isinstance"), (S "int"), (S "bool"), (S "str"), (S "len"), (S "tuple"), (S "sum"), (S "range"), (S "list"), (S "max"), (S "min"), (S "enumerate")],
  [⟨45, 12, 45, 14⟩, ⟨61, 15, 61, 37⟩, ⟨62, 11, 62, 46⟩, ⟨97, 15, 97, 38⟩, ⟨99, 15, 99, 39⟩, ⟨100, 11, 100, 13⟩, ⟨140, 17, 140, 19⟩, ⟨139, 15, 139, 34⟩]⟩
/-- is_whole: [thing] -/
def f0 : Fn := ⟨1, 1, [(.ret (.and (.isi (.v 0) ["int"]) (.not (.isi (.v 0) ["bool"]))))], false⟩
/-- is_word: [thing, sign] -/
def f1 : Fn := ⟨2, 1, [(.ite (.or (.not (.isi (.v 0) ["str"])) (.not (.chn .LtE .LtE (.c (.int 1)) (.blt .len [(.v 0)]) (.c (.int 6))))) [(.ret (.c (.bl false)))] []),
    (.forS (.n 1) .seq [(.v 0)] [(.ite (.cmp .NotIn (.v 1) (.c (.str (S "abcdefghijklmnopqrstuvwxyz")))) [(.ret (.c (.bl false)))] [])]),
    (.ret (.c (.bl true)))], false⟩
/-- is_made_name: [thing, ahead, dot, behind] -/
def f2 : Fn := ⟨4, 1, [(.ite (.not (.isi (.v 0) ["str"])) [(.ret (.c (.bl false)))] []),
    (.set (.t [1, 2, 3]) (.mth .partition (.v 0) [(.c (.str (S ".")))])),
    (.ret (.and (.fn 1 [(.v 1)]) (.or (.cmp .Eq (.v 2) (.c (.str (S "")))) (.fn 1 [(.v 3)]))))], false⟩
/-- within: [kind] -/
def f3 : Fn := ⟨1, 1, [(.ite (.cmp .Eq (.ix (.v 0) (.c (.int 0))) (.c (.str (S "made")))) [(.ret (.ix (.v 0) (.c (.int 2))))] []),
    (.ite (.or (.cmp .Eq (.ix (.v 0) (.c (.int 0))) (.c (.str (S "fn")))) (.cmp .Eq (.ix (.v 0) (.c (.int 0))) (.c (.str (S "ref"))))) [(.ret (.sl (.v 0) (.num (.c (.int 1))) (.c .non)))] []),
    (.ret (.tup []))], false⟩
/-- is_kind: [thing, one] -/
def f4 : Fn := ⟨2, 1, [(.ite (.or (.not (.isi (.v 0) ["tuple"])) (.cmp .Eq (.v 0) (.tup []))) [(.ret (.c (.bl false)))] []),
    (.ite (.cmp .Eq (.ix (.v 0) (.c (.int 0))) (.c (.str (S "num")))) [(.ret (.cmp .Eq (.blt .len [(.v 0)]) (.c (.int 1))))] []),
    (.ite (.cmp .Eq (.ix (.v 0) (.c (.int 0))) (.c (.str (S "open")))) [(.ret (.and (.cmp .Eq (.blt .len [(.v 0)]) (.c (.int 2))) (.and (.fn 0 [(.ix (.v 0) (.c (.int 1)))]) (.cmp .GtE (.ix (.v 0) (.c (.int 1))) (.c (.int 0))))))] []),
    (.ite (.cmp .Eq (.ix (.v 0) (.c (.int 0))) (.c (.str (S "made")))) [(.ite (.or (.cmp .NotEq (.blt .len [(.v 0)]) (.c (.int 3))) (.or (.not (.fn 2 [(.ix (.v 0) (.c (.int 1)))])) (.or (.not (.isi (.ix (.v 0) (.c (.int 2))) ["tuple"])) (.cmp .Gt (.blt .len [(.ix (.v 0) (.c (.int 2)))]) (.c (.int 2)))))) [(.ret (.c (.bl false)))] [])] [(.ite (.not (.or (.and (.cmp .Eq (.ix (.v 0) (.c (.int 0))) (.c (.str (S "fn")))) (.cmp .Eq (.blt .len [(.v 0)]) (.c (.int 3)))) (.and (.cmp .Eq (.ix (.v 0) (.c (.int 0))) (.c (.str (S "ref")))) (.cmp .Eq (.blt .len [(.v 0)]) (.c (.int 2)))))) [(.ret (.c (.bl false)))] [])]),
    (.forS (.n 1) .seq [(.fn 3 [(.v 0)])] [(.ite (.not (.fn 4 [(.v 1)])) [(.ret (.c (.bl false)))] [])]),
    (.ret (.c (.bl true)))], false⟩
/-- parts_of: [kind, .0, one] -/
def f5 : Fn := ⟨3, 1, [(.ret (.bin .Add (.c (.int 1)) (.blt .sum1 [(.comp false (.fn 5 [(.v 2)]) [1, 2] (.n 2) .seq [(.fn 3 [(.v 0)])] [])])))], false⟩
/-- opens_in: [kind, found, one, .0, name] -/
def f6 : Fn := ⟨5, 1, [(.ite (.cmp .Eq (.ix (.v 0) (.c (.int 0))) (.c (.str (S "open")))) [(.ret (.tup [(.ix (.v 0) (.c (.int 1)))]))] []),
    (.set (.n 1) (.lst true [])),
    (.forS (.n 2) .seq [(.fn 3 [(.v 0)])] [(.ex (.mth .extend (.v 1) [(.comp false (.v 4) [3, 4] (.n 4) .seq [(.fn 6 [(.v 2)])] [(.cmp .NotIn (.v 4) (.v 1))])]))]),
    (.ret (.blt .tuple1 [(.v 1)]))], false⟩
/-- _law_cell: [_law_script, _law_k] -/
def f7 : Fn := ⟨2, 2, [(.ite (.cmp .Lt (.v 1) (.blt .len [(.v 0)])) [(.ret (.ix (.v 0) (.v 1)))] []),
    (.ret (.bin .Add (.bin .Mult (.c (.int 7919)) (.v 1)) (.c (.int 13))))], false⟩
/-- _law_mixed: [_law_cell_here, _law_k, _law_number] -/
def f8 : Fn := ⟨3, 2, [(.set (.n 2) (.bin .Mod (.bin .Add (.bin .Add (.v 0) (.bin .Mult (.c (.int 7919)) (.v 1))) (.c (.int 12345))) (.c (.int 2147483629)))),
    (.set (.n 2) (.bin .Mod (.bin .Add (.bin .Mult (.v 2) (.v 2)) (.bin .Mult (.c (.int 48271)) (.v 1))) (.c (.int 2147483629)))),
    (.ret (.bin .Mod (.bin .Mult (.v 2) (.v 2)) (.c (.int 2147483587))))], false⟩
/-- _law_box: [_law_script, _law_k, _law_cell_here] -/
def f9 : Fn := ⟨3, 2, [(.set (.n 2) (.fn 7 [(.v 0), (.v 1)])),
    (.ite (.cmp .GtE (.v 2) (.bin .Pow (.c (.int 10)) (.c (.int 18)))) [(.ret (.lst true [(.v 2), (.c (.int 0)), (.c (.int 0))]))] []),
    (.ret (.lst true [(.c (.int 0)), (.bin .Mod (.v 2) (.c (.int 2147483647))), (.c (.int 0))]))], false⟩
/-- _law_take: [_law_box_here, _law_many, _law_digit] -/
def f10 : Fn := ⟨3, 2, [(.ite (.cmp .Gt (.ix (.v 0) (.c (.int 0))) (.c (.int 0))) [(.set (.n 2) (.bin .Mod (.ix (.v 0) (.c (.int 0))) (.v 1))),
    (.setix (.v 0) (.c (.int 0)) (.bin .FloorDiv (.ix (.v 0) (.c (.int 0))) (.v 1))),
    (.ret (.v 2))] []),
    (.setix (.v 0) (.c (.int 2)) (.bin .Add (.ix (.v 0) (.c (.int 2))) (.c (.int 1)))),
    (.ret (.bin .Mod (.fn 8 [(.ix (.v 0) (.c (.int 1))), (.ix (.v 0) (.c (.int 2)))]) (.v 1)))], false⟩
/-- _law_word: [_law_box_here, .0, _law_k] -/
def f11 : Fn := ⟨3, 1, [(.ret (.mth .join (.c (.str (S ""))) [(.comp false (.ix (.c (.str (S "abcdefghijklmnopqrstuvwxyz"))) (.fn 10 [(.v 0), (.c (.int 26))])) [1, 2] (.n 2) .rng1 [(.bin .Add (.c (.int 1)) (.fn 10 [(.v 0), (.c (.int 6))]))] [])]))], false⟩
/-- _law_name: [_law_box_here] -/
def f12 : Fn := ⟨1, 1, [(.ite (.cmp .Eq (.fn 10 [(.v 0), (.c (.int 3))]) (.c (.int 0))) [(.ret (.bin .Add (.bin .Add (.fn 11 [(.v 0)]) (.c (.str (S ".")))) (.fn 11 [(.v 0)])))] []),
    (.ret (.fn 11 [(.v 0)]))], false⟩
/-- _law_kind: [_law_box_here, _law_names, _law_most, _law_deep_here, _law_way, _law_name_here, .0, _law_k] -/
def f13 : Fn := ⟨8, 4, [(.set (.n 4) (.fn 10 [(.v 0), (.c (.int 8))])),
    (.ite (.or (.cmp .Lt (.v 3) (.c (.int 1))) (.cmp .Lt (.v 4) (.c (.int 2)))) [(.ret (.ix (.lst false [(.tup [(.c (.str (S "num")))]), (.tup [(.c (.str (S "open"))), (.fn 10 [(.v 0), (.v 2)])])]) (.bin .Mod (.v 4) (.c (.int 2)))))] []),
    (.ite (.cmp .Eq (.v 4) (.c (.int 2))) [(.ret (.tup [(.c (.str (S "open"))), (.fn 10 [(.v 0), (.v 2)])]))] []),
    (.ite (.cmp .Lt (.v 4) (.c (.int 5))) [(.ret (.tup [(.c (.str (S "fn"))), (.fn 13 [(.v 0), (.v 1), (.v 2), (.bin .Sub (.v 3) (.c (.int 1)))]), (.fn 13 [(.v 0), (.v 1), (.v 2), (.bin .Sub (.v 3) (.c (.int 1)))])]))] []),
    (.ite (.cmp .Eq (.v 4) (.c (.int 5))) [(.ret (.tup [(.c (.str (S "ref"))), (.fn 13 [(.v 0), (.v 1), (.v 2), (.bin .Sub (.v 3) (.c (.int 1)))])]))] []),
    (.set (.n 5) (.ix (.v 1) (.fn 10 [(.v 0), (.blt .len [(.v 1)])]))),
    (.ret (.tup [(.c (.str (S "made"))), (.v 5), (.blt .tuple1 [(.comp false (.fn 13 [(.v 0), (.v 1), (.v 2), (.bin .Sub (.v 3) (.c (.int 1)))]) [6, 7] (.n 7) .rng1 [(.fn 10 [(.v 0), (.c (.int 3))])] [])])]))], false⟩
/-- _law_deep: [_law_box_here, _law_names, _law_most, _law_kind_here, _law_beside, _law_k, _law_way] -/
def f14 : Fn := ⟨7, 3, [(.set (.n 3) (.tup [(.c (.str (S "open"))), (.fn 10 [(.v 0), (.v 2)])])),
    (.set (.n 4) (.tup [(.c (.str (S "fn"))), (.tup [(.c (.str (S "num")))]), (.tup [(.c (.str (S "num")))])])),
    (.forS (.n 5) .rng1 [(.c (.int 48))] [(.set (.n 6) (.fn 10 [(.v 0), (.c (.int 4))])),
    (.set (.n 3) (.ix (.lst false [(.tup [(.c (.str (S "fn"))), (.v 3), (.v 4)]), (.tup [(.c (.str (S "fn"))), (.v 4), (.v 3)]), (.tup [(.c (.str (S "ref"))), (.v 3)]), (.tup [(.c (.str (S "made"))), (.ix (.v 1) (.c (.int 0))), (.tup [(.v 4), (.v 3)])])]) (.v 6)))]),
    (.ret (.v 3))], false⟩
/-- _law_within: [_law_kind_here] -/
def f15 : Fn := ⟨1, 1, [(.ite (.cmp .Eq (.ix (.v 0) (.c (.int 0))) (.c (.str (S "made")))) [(.ret (.blt .list1m [(.ix (.v 0) (.c (.int 2)))]))] []),
    (.ite (.cmp .In (.ix (.v 0) (.c (.int 0))) (.tup [(.c (.str (S "fn"))), (.c (.str (S "ref")))])) [(.ret (.blt .list1m [(.sl (.v 0) (.num (.c (.int 1))) (.c .non))]))] []),
    (.ret (.lst true []))], false⟩
/-- _law_with: [_law_kind_here, _law_kinds] -/
def f16 : Fn := ⟨2, 2, [(.ite (.cmp .Eq (.ix (.v 0) (.c (.int 0))) (.c (.str (S "made")))) [(.ret (.tup [(.c (.str (S "made"))), (.ix (.v 0) (.c (.int 1))), (.blt .tuple1 [(.v 1)])]))] []),
    (.ret (.bin .Add (.sl (.v 0) (.c .non) (.num (.c (.int 1)))) (.blt .tuple1 [(.v 1)])))], false⟩
/-- _law_bad: [_law_box_here, _law_kind_here, _law_some] -/
def f17 : Fn := ⟨3, 2, [(.set (.n 2) (.lst false [(.blt .list1 [(.v 1)]), (.bin .Add (.v 1) (.tup [(.tup [(.c (.str (S "num")))])])), (.sl (.v 1) (.c .non) (.num (.neg (.c (.int 1))))), (.tup [(.c (.str (S "open"))), (.c (.bl true))]), (.tup [(.c (.str (S "open"))), (.neg (.c (.int 1)))]), (.tup [(.c (.str (S "open"))), (.c (.str (S "a")))]), (.tup [(.c (.str (S "num"))), (.c (.int 1))]), (.tup [(.c (.str (S "x")))])])),
    (.set (.n 2) (.bin .Add (.v 2) (.lst false [(.tup [(.c (.str (S "made"))), (.c (.str (S "abcdefg"))), (.tup [])]), (.tup [(.c (.str (S "made"))), (.c (.str (S "a.b.c"))), (.tup [])]), (.tup [(.c (.str (S "made"))), (.c (.str (S "a."))), (.tup [])]), (.tup [(.c (.str (S "made"))), (.c (.str (S "A"))), (.tup [])])]))),
    (.set (.n 2) (.bin .Add (.v 2) (.lst false [(.tup [(.c (.str (S "made"))), (.c (.str (S "a.abcdefg"))), (.tup [])]), (.tup [(.c (.str (S "made"))), (.c (.str (S "a.B"))), (.tup [])]), (.tup [(.c (.str (S "made"))), (.c (.str (S ""))), (.tup [])]), (.tup [(.c (.str (S "made"))), (.c (.str (S "a"))), (.lst false [(.tup [(.c (.str (S "num")))])])])]))),
    (.set (.n 2) (.bin .Add (.v 2) (.lst false [(.tup [(.c (.str (S "made"))), (.c (.str (S "a"))), (.bin .Mult (.tup [(.tup [(.c (.str (S "num")))])]) (.c (.int 3)))]), (.tup [(.c (.str (S "made"))), (.c (.str (S "a")))]), (.tup [(.c (.str (S "fn"))), (.tup [(.c (.str (S "num")))])]), (.tup [(.c (.str (S "ref")))]), (.tup []), (.c .non), (.c (.str (S "num"))), (.c (.int 5))]))),
    (.set (.n 2) (.bin .Add (.v 2) (.lst false [(.c (.bl true)), (.dic false []), (.tup [(.c (.str (S "open"))), (.c .non)]), (.tup [(.c (.str (S "made"))), (.c (.int 5)), (.tup [])]), (.tup [(.c (.str (S "made"))), (.c (.str (S "a"))), (.tup [(.c (.str (S "num")))])]), (.tup [(.lst false [(.c (.str (S "num")))])]), (.tup [(.c (.str (S "open"))), (.c (.int 0)), (.c (.int 0))])]))),
    (.set (.n 2) (.bin .Add (.v 2) (.lst false [(.tup [(.c (.str (S "made"))), (.c (.str (S ".a"))), (.tup [])]), (.tup [(.c (.str (S "made"))), (.c (.str (S "a b"))), (.tup [])]), (.tup [(.c (.str (S "fn"))), (.tup [(.c (.str (S "num")))]), (.c (.str (S "num")))])]))),
    (.ret (.ix (.v 2) (.fn 10 [(.v 0), (.blt .len [(.v 2)])])))], false⟩
/-- _law_spoilt: [_law_box_here, _law_kind_here, _law_kinds, _law_at] -/
def f18 : Fn := ⟨4, 2, [(.set (.n 2) (.fn 15 [(.v 1)])),
    (.ite (.or (.cmp .Eq (.v 2) (.lst false [])) (.cmp .Eq (.fn 10 [(.v 0), (.c (.int 3))]) (.c (.int 0)))) [(.ret (.fn 17 [(.v 0), (.v 1)]))] []),
    (.set (.n 3) (.fn 10 [(.v 0), (.blt .len [(.v 2)])])),
    (.setix (.v 2) (.v 3) (.fn 18 [(.v 0), (.ix (.v 2) (.v 3))])),
    (.ret (.fn 16 [(.v 1), (.v 2)]))], false⟩
/-- _law_is_word: [_law_thing, .0, _law_sign] -/
def f19 : Fn := ⟨3, 1, [(.ret (.and (.chn .LtE .LtE (.c (.int 1)) (.blt .len [(.v 0)]) (.c (.int 6))) (.cmp .Eq (.comp false (.v 2) [1, 2] (.n 2) .seq [(.v 0)] [(.cmp .NotIn (.v 2) (.c (.str (S "abcdefghijklmnopqrstuvwxyz"))))]) (.lst false []))))], false⟩
/-- _law_is_name: [_law_thing, .0, _law_word_here] -/
def f20 : Fn := ⟨3, 1, [(.ite (.or (.not (.isi (.v 0) ["str"])) (.cmp .Gt (.mth .count (.v 0) [(.c (.str (S ".")))]) (.c (.int 1)))) [(.ret (.c (.bl false)))] []),
    (.ret (.cmp .Eq (.comp false (.v 2) [1, 2] (.n 2) .seq [(.mth .split (.v 0) [(.c (.str (S ".")))])] [(.not (.fn 19 [(.v 2)]))]) (.lst false [])))], false⟩
/-- _law_is_kind: [_law_thing, _law_many, .0, _law_one] -/
def f21 : Fn := ⟨4, 1, [(.ite (.or (.not (.isi (.v 0) ["tuple"])) (.or (.cmp .Eq (.blt .len [(.v 0)]) (.c (.int 0))) (.not (.isi (.ix (.v 0) (.c (.int 0))) ["str"])))) [(.ret (.c (.bl false)))] []),
    (.ite (.cmp .Eq (.ix (.v 0) (.c (.int 0))) (.c (.str (S "open")))) [(.ret (.and (.cmp .Eq (.blt .len [(.v 0)]) (.c (.int 2))) (.and (.isi (.ix (.v 0) (.c (.int 1))) ["int"]) (.and (.not (.isi (.ix (.v 0) (.c (.int 1))) ["bool"])) (.cmp .GtE (.ix (.v 0) (.c (.int 1))) (.c (.int 0)))))))] []),
    (.ite (.cmp .Eq (.ix (.v 0) (.c (.int 0))) (.c (.str (S "made")))) [(.ite (.or (.cmp .NotEq (.blt .len [(.v 0)]) (.c (.int 3))) (.or (.not (.fn 20 [(.ix (.v 0) (.c (.int 1)))])) (.or (.not (.isi (.ix (.v 0) (.c (.int 2))) ["tuple"])) (.cmp .Gt (.blt .len [(.ix (.v 0) (.c (.int 2)))]) (.c (.int 2)))))) [(.ret (.c (.bl false)))] []),
    (.ret (.cmp .Eq (.comp false (.v 3) [2, 3] (.n 3) .seq [(.ix (.v 0) (.c (.int 2)))] [(.not (.fn 21 [(.v 3)]))]) (.lst false [])))] []),
    (.set (.n 1) (.mth .get2 (.dic false [(.c (.str (S "num"))), (.c (.int 1)), (.c (.str (S "ref"))), (.c (.int 2)), (.c (.str (S "fn"))), (.c (.int 3))]) [(.ix (.v 0) (.c (.int 0))), (.c (.int 0))])),
    (.ret (.and (.cmp .Eq (.blt .len [(.v 0)]) (.v 1)) (.cmp .Eq (.comp false (.v 3) [2, 3] (.n 3) .seq [(.sl (.v 0) (.num (.c (.int 1))) (.c .non))] [(.not (.fn 21 [(.v 3)]))]) (.lst false []))))], false⟩
/-- _law_opens: [_law_kind_here, _law_found, _law_one] -/
def f22 : Fn := ⟨3, 1, [(.ite (.cmp .Eq (.ix (.v 0) (.c (.int 0))) (.c (.str (S "open")))) [(.ret (.lst true [(.ix (.v 0) (.c (.int 1)))]))] []),
    (.set (.n 1) (.lst true [])),
    (.forS (.n 2) .seq [(.fn 15 [(.v 0)])] [(.ex (.mth .extend (.v 1) [(.fn 22 [(.v 2)])]))]),
    (.ret (.v 1))], false⟩
/-- _law_size: [_law_kind_here, .0, _law_one] -/
def f23 : Fn := ⟨3, 1, [(.ret (.bin .Add (.c (.int 1)) (.blt .sum1 [(.comp false (.fn 23 [(.v 2)]) [1, 2] (.n 2) .seq [(.fn 15 [(.v 0)])] [])])))], false⟩
/-- _law_told: [_law_thing, _law_found] -/
def f24 : Fn := ⟨2, 1, [(.set (.n 1) (.fn 4 [(.v 0)])),
    (.ret (.and (.isi (.v 1) ["bool"]) (.cmp .Eq (.v 1) (.fn 21 [(.v 0)]))))], false⟩
/-- law: [_law_script, _law_k, _law_box_here, _law_names, _law_kind_here, _law_opens_here, _law_due, _law_once, .0, _law_j, _law_at, _law_name_here] -/
def f25 : Fn := ⟨12, 1, [(.forS (.n 1) .rng1 [(.blt .max2 [(.c (.int 3)), (.blt .min2 [(.c (.int 30)), (.blt .len [(.v 0)])])])] [(.set (.n 2) (.fn 9 [(.v 0), (.v 1)])),
    (.set (.n 3) (.comp false (.fn 12 [(.v 2)]) [8, 9] (.n 9) .rng1 [(.c (.int 3))] [])),
    (.set (.n 4) (.fn 13 [(.v 2), (.v 3), (.ix (.lst false [(.c (.int 4)), (.c (.int 40)), (.bin .Pow (.c (.int 10)) (.c (.int 9)))]) (.fn 10 [(.v 2), (.c (.int 3))])), (.c (.int 4))])),
    (.ite (.cmp .Eq (.fn 10 [(.v 2), (.c (.int 8))]) (.c (.int 0))) [(.set (.n 4) (.fn 14 [(.v 2), (.v 3), (.c (.int 4))]))] []),
    (.ite (.or (.not (.fn 24 [(.v 4)])) (.or (.not (.fn 24 [(.fn 18 [(.v 2), (.v 4)])])) (.not (.fn 24 [(.fn 17 [(.v 2), (.v 4)])])))) [(.ret (.c (.bl false)))] []),
    (.set (.n 5) (.fn 6 [(.v 4)])),
    (.set (.n 6) (.fn 22 [(.v 4)])),
    (.set (.n 7) (.comp false (.v 11) [8, 10, 11] (.t [10, 11]) .enum [(.v 6)] [(.cmp .NotIn (.v 11) (.sl (.v 6) (.c .non) (.num (.v 10))))])),
    (.ite (.or (.not (.isi (.v 5) ["tuple"])) (.or (.cmp .NotEq (.blt .list1 [(.v 5)]) (.v 7)) (.cmp .NotEq (.fn 5 [(.v 4)]) (.fn 23 [(.v 4)])))) [(.ret (.c (.bl false)))] [])]),
    (.ret (.cmp .Is (.fn 4 [(.tup [(.c (.str (S "num")))])]) (.c (.bl true))))], false⟩
def fs : List Fn := [f0, f1, f2, f3, f4, f5, f6, f7, f8, f9, f10, f11, f12, f13, f14, f15, f16, f17, f18, f19, f20, f21, f22, f23, f24, f25]
theorem t0 : trDef tb 60 [(S "thing")] [(S "thing")] false (topS 3) = some f0 := by kernel_rfl
theorem s0 : FnScope [(S "thing")] [(S "thing")] (defScope (topS 3)) := ⟨rfl, rfl, rfl, by decide +kernel, by kernel_rfl, by decide +kernel, by decide +kernel⟩
theorem t1 : trDef tb 60 [(S "thing"), (S "sign")] [(S "thing")] false (topS 4) = some f1 := by kernel_rfl
theorem s1 : FnScope [(S "thing"), (S "sign")] [(S "thing")] (defScope (topS 4)) := ⟨rfl, rfl, rfl, by decide +kernel, by kernel_rfl, by decide +kernel, by decide +kernel⟩
theorem t2 : trDef tb 60 [(S "thing"), (S "ahead"), (S "dot"), (S "behind")] [(S "thing")] false (topS 5) = some f2 := by kernel_rfl
theorem s2 : FnScope [(S "thing"), (S "ahead"), (S "dot"), (S "behind")] [(S "thing")] (defScope (topS 5)) := ⟨rfl, rfl, rfl, by decide +kernel, by kernel_rfl, by decide +kernel, by decide +kernel⟩
theorem t3 : trDef tb 60 [(S "kind")] [(S "kind")] false (topS 6) = some f3 := by kernel_rfl
theorem s3 : FnScope [(S "kind")] [(S "kind")] (defScope (topS 6)) := ⟨rfl, rfl, rfl, by decide +kernel, by kernel_rfl, by decide +kernel, by decide +kernel⟩
theorem t4 : trDef tb 60 [(S "thing"), (S "one")] [(S "thing")] false (topS 7) = some f4 := by kernel_rfl
theorem s4 : FnScope [(S "thing"), (S "one")] [(S "thing")] (defScope (topS 7)) := ⟨rfl, rfl, rfl, by decide +kernel, by kernel_rfl, by decide +kernel, by decide +kernel⟩
theorem t5 : trDef tb 60 [(S "kind"), (S ".0"), (S "one")] [(S "kind")] false (topS 8) = some f5 := by kernel_rfl
theorem s5 : FnScope [(S "kind"), (S ".0"), (S "one")] [(S "kind")] (defScope (topS 8)) := ⟨rfl, rfl, rfl, by decide +kernel, by kernel_rfl, by decide +kernel, by decide +kernel⟩
theorem t6 : trDef tb 60 [(S "kind"), (S "found"), (S "one"), (S ".0"), (S "name")] [(S "kind")] false (topS 9) = some f6 := by kernel_rfl
theorem s6 : FnScope [(S "kind"), (S "found"), (S "one"), (S ".0"), (S "name")] [(S "kind")] (defScope (topS 9)) := ⟨rfl, rfl, rfl, by decide +kernel, by kernel_rfl, by decide +kernel, by decide +kernel⟩
theorem t7 : trDef tb 60 [(S "_law_script"), (S "_law_k")] [(S "_law_script"), (S "_law_k")] false (topS 11) = some f7 := by kernel_rfl
theorem s7 : FnScope [(S "_law_script"), (S "_law_k")] [(S "_law_script"), (S "_law_k")] (defScope (topS 11)) := ⟨rfl, rfl, rfl, by decide +kernel, by kernel_rfl, by decide +kernel, by decide +kernel⟩
theorem t8 : trDef tb 60 [(S "_law_cell_here"), (S "_law_k"), (S "_law_number")] [(S "_law_cell_here"), (S "_law_k")] false (topS 12) = some f8 := by kernel_rfl
theorem s8 : FnScope [(S "_law_cell_here"), (S "_law_k"), (S "_law_number")] [(S "_law_cell_here"), (S "_law_k")] (defScope (topS 12)) := ⟨rfl, rfl, rfl, by decide +kernel, by kernel_rfl, by decide +kernel, by decide +kernel⟩
theorem t9 : trDef tb 60 [(S "_law_script"), (S "_law_k"), (S "_law_cell_here")] [(S "_law_script"), (S "_law_k")] false (topS 13) = some f9 := by kernel_rfl
theorem s9 : FnScope [(S "_law_script"), (S "_law_k"), (S "_law_cell_here")] [(S "_law_script"), (S "_law_k")] (defScope (topS 13)) := ⟨rfl, rfl, rfl, by decide +kernel, by kernel_rfl, by decide +kernel, by decide +kernel⟩
theorem t10 : trDef tb 60 [(S "_law_box_here"), (S "_law_many"), (S "_law_digit")] [(S "_law_box_here"), (S "_law_many")] false (topS 14) = some f10 := by kernel_rfl
theorem s10 : FnScope [(S "_law_box_here"), (S "_law_many"), (S "_law_digit")] [(S "_law_box_here"), (S "_law_many")] (defScope (topS 14)) := ⟨rfl, rfl, rfl, by decide +kernel, by kernel_rfl, by decide +kernel, by decide +kernel⟩
theorem t11 : trDef tb 60 [(S "_law_box_here"), (S ".0"), (S "_law_k")] [(S "_law_box_here")] false (topS 15) = some f11 := by kernel_rfl
theorem s11 : FnScope [(S "_law_box_here"), (S ".0"), (S "_law_k")] [(S "_law_box_here")] (defScope (topS 15)) := ⟨rfl, rfl, rfl, by decide +kernel, by kernel_rfl, by decide +kernel, by decide +kernel⟩
theorem t12 : trDef tb 60 [(S "_law_box_here")] [(S "_law_box_here")] false (topS 16) = some f12 := by kernel_rfl
theorem s12 : FnScope [(S "_law_box_here")] [(S "_law_box_here")] (defScope (topS 16)) := ⟨rfl, rfl, rfl, by decide +kernel, by kernel_rfl, by decide +kernel, by decide +kernel⟩
theorem t13 : trDef tb 60 [(S "_law_box_here"), (S "_law_names"), (S "_law_most"), (S "_law_deep_here"), (S "_law_way"), (S "_law_name_here"), (S ".0"), (S "_law_k")] [(S "_law_box_here"), (S "_law_names"), (S "_law_most"), (S "_law_deep_here")] false (topS 17) = some f13 := by kernel_rfl
theorem s13 : FnScope [(S "_law_box_here"), (S "_law_names"), (S "_law_most"), (S "_law_deep_here"), (S "_law_way"), (S "_law_name_here"), (S ".0"), (S "_law_k")] [(S "_law_box_here"), (S "_law_names"), (S "_law_most"), (S "_law_deep_here")] (defScope (topS 17)) := ⟨rfl, rfl, rfl, by decide +kernel, by kernel_rfl, by decide +kernel, by decide +kernel⟩
theorem t14 : trDef tb 60 [(S "_law_box_here"), (S "_law_names"), (S "_law_most"), (S "_law_kind_here"), (S "_law_beside"), (S "_law_k"), (S "_law_way")] [(S "_law_box_here"), (S "_law_names"), (S "_law_most")] false (topS 18) = some f14 := by kernel_rfl
theorem s14 : FnScope [(S "_law_box_here"), (S "_law_names"), (S "_law_most"), (S "_law_kind_here"), (S "_law_beside"), (S "_law_k"), (S "_law_way")] [(S "_law_box_here"), (S "_law_names"), (S "_law_most")] (defScope (topS 18)) := ⟨rfl, rfl, rfl, by decide +kernel, by kernel_rfl, by decide +kernel, by decide +kernel⟩
theorem t15 : trDef tb 60 [(S "_law_kind_here")] [(S "_law_kind_here")] false (topS 19) = some f15 := by kernel_rfl
theorem s15 : FnScope [(S "_law_kind_here")] [(S "_law_kind_here")] (defScope (topS 19)) := ⟨rfl, rfl, rfl, by decide +kernel, by kernel_rfl, by decide +kernel, by decide +kernel⟩
theorem t16 : trDef tb 60 [(S "_law_kind_here"), (S "_law_kinds")] [(S "_law_kind_here"), (S "_law_kinds")] false (topS 20) = some f16 := by kernel_rfl
theorem s16 : FnScope [(S "_law_kind_here"), (S "_law_kinds")] [(S "_law_kind_here"), (S "_law_kinds")] (defScope (topS 20)) := ⟨rfl, rfl, rfl, by decide +kernel, by kernel_rfl, by decide +kernel, by decide +kernel⟩
theorem t17 : trDef tb 60 [(S "_law_box_here"), (S "_law_kind_here"), (S "_law_some")] [(S "_law_box_here"), (S "_law_kind_here")] false (topS 21) = some f17 := by kernel_rfl
theorem s17 : FnScope [(S "_law_box_here"), (S "_law_kind_here"), (S "_law_some")] [(S "_law_box_here"), (S "_law_kind_here")] (defScope (topS 21)) := ⟨rfl, rfl, rfl, by decide +kernel, by kernel_rfl, by decide +kernel, by decide +kernel⟩
theorem t18 : trDef tb 60 [(S "_law_box_here"), (S "_law_kind_here"), (S "_law_kinds"), (S "_law_at")] [(S "_law_box_here"), (S "_law_kind_here")] false (topS 22) = some f18 := by kernel_rfl
theorem s18 : FnScope [(S "_law_box_here"), (S "_law_kind_here"), (S "_law_kinds"), (S "_law_at")] [(S "_law_box_here"), (S "_law_kind_here")] (defScope (topS 22)) := ⟨rfl, rfl, rfl, by decide +kernel, by kernel_rfl, by decide +kernel, by decide +kernel⟩
theorem t19 : trDef tb 60 [(S "_law_thing"), (S ".0"), (S "_law_sign")] [(S "_law_thing")] false (topS 23) = some f19 := by kernel_rfl
theorem s19 : FnScope [(S "_law_thing"), (S ".0"), (S "_law_sign")] [(S "_law_thing")] (defScope (topS 23)) := ⟨rfl, rfl, rfl, by decide +kernel, by kernel_rfl, by decide +kernel, by decide +kernel⟩
theorem t20 : trDef tb 60 [(S "_law_thing"), (S ".0"), (S "_law_word_here")] [(S "_law_thing")] false (topS 24) = some f20 := by kernel_rfl
theorem s20 : FnScope [(S "_law_thing"), (S ".0"), (S "_law_word_here")] [(S "_law_thing")] (defScope (topS 24)) := ⟨rfl, rfl, rfl, by decide +kernel, by kernel_rfl, by decide +kernel, by decide +kernel⟩
theorem t21 : trDef tb 60 [(S "_law_thing"), (S "_law_many"), (S ".0"), (S "_law_one")] [(S "_law_thing")] false (topS 25) = some f21 := by kernel_rfl
theorem s21 : FnScope [(S "_law_thing"), (S "_law_many"), (S ".0"), (S "_law_one")] [(S "_law_thing")] (defScope (topS 25)) := ⟨rfl, rfl, rfl, by decide +kernel, by kernel_rfl, by decide +kernel, by decide +kernel⟩
theorem t22 : trDef tb 60 [(S "_law_kind_here"), (S "_law_found"), (S "_law_one")] [(S "_law_kind_here")] false (topS 26) = some f22 := by kernel_rfl
theorem s22 : FnScope [(S "_law_kind_here"), (S "_law_found"), (S "_law_one")] [(S "_law_kind_here")] (defScope (topS 26)) := ⟨rfl, rfl, rfl, by decide +kernel, by kernel_rfl, by decide +kernel, by decide +kernel⟩
theorem t23 : trDef tb 60 [(S "_law_kind_here"), (S ".0"), (S "_law_one")] [(S "_law_kind_here")] false (topS 27) = some f23 := by kernel_rfl
theorem s23 : FnScope [(S "_law_kind_here"), (S ".0"), (S "_law_one")] [(S "_law_kind_here")] (defScope (topS 27)) := ⟨rfl, rfl, rfl, by decide +kernel, by kernel_rfl, by decide +kernel, by decide +kernel⟩
theorem t24 : trDef tb 60 [(S "_law_thing"), (S "_law_found")] [(S "_law_thing")] false (topS 28) = some f24 := by kernel_rfl
theorem s24 : FnScope [(S "_law_thing"), (S "_law_found")] [(S "_law_thing")] (defScope (topS 28)) := ⟨rfl, rfl, rfl, by decide +kernel, by kernel_rfl, by decide +kernel, by decide +kernel⟩
theorem t25 : trDef tb 60 [(S "_law_script"), (S "_law_k"), (S "_law_box_here"), (S "_law_names"), (S "_law_kind_here"), (S "_law_opens_here"), (S "_law_due"), (S "_law_once"), (S ".0"), (S "_law_j"), (S "_law_at"), (S "_law_name_here")] [(S "_law_script")] false (topS 29) = some f25 := by kernel_rfl
theorem s25 : FnScope [(S "_law_script"), (S "_law_k"), (S "_law_box_here"), (S "_law_names"), (S "_law_kind_here"), (S "_law_opens_here"), (S "_law_due"), (S "_law_once"), (S ".0"), (S "_law_j"), (S "_law_at"), (S "_law_name_here")] [(S "_law_script")] (defScope (topS 29)) := ⟨rfl, rfl, rfl, by decide +kernel, by kernel_rfl, by decide +kernel, by decide +kernel⟩
end L2.PF.KB

set_option Elab.async false
set_option linter.all false
set_option maxRecDepth 100000
set_option maxHeartbeats 4000000
namespace L2.PF.KB
open PySem PySem.Spec PyProof.Rows
theorem put_n {i : Nat} {v : PV} {e : Env} : putT (.n i) v e = some (e.set i (some v)) := rfl
theorem put3 {i j k : Nat} {a b c : PV} {e : Env} : putT (.t [i, j, k]) (.tup [a, b, c]) e = some (((e.set i (some a)).set j (some b)).set k (some c)) := rfl
theorem put2 {i j : Nat} {a b : PV} {e : Env} : putT (.t [i, j]) (.tup [a, b]) e = some ((e.set i (some a)).set j (some b)) := rfl
section
local macro_rules | `(tactic| trivial) => `(tactic| simp only [startE, exs, ex, ev, evs, okS_then, okS_toS, okR_bind, okS_nx, okS_rt, okR_ok, okS_ite, okR_ite, List.length_cons, List.length_nil, List.map_cons, List.map_nil, List.replicate, List.cons_append, List.nil_append, List.getElem?_cons_zero, List.getElem?_cons_succ, put_n, put2, put3, List.set_cons_zero, List.set_cons_succ, okR_some, o_add, o_sub, o_mul, o_div, o_mod, o_pow, c_lt, c_le, c_gt, c_ge, c_eq, c_ne, t_bl, map_some', decide_eq_true_eq, R.bind_ok, R.ofO_some, ifs0, ifs1, compR_f, wipeE, mk_f, mk_t, sz0, sz1, sz2, sz3, sz4, sz5, sz6, if_true, dic0, dic1, len_str, len_fz, len_lv, len_tup, tup_lv, list_tup, max_i, min_i, okR_only, ix_tup, atI0, atI1, atI2, sl1, bound, list1m_tup, Bool.false_eq_true, if_false, iter_tup, iter_str])
/-- what both of the law's questions after a word say -/
def WordB (x : Str) (b : Bool) : Prop := (∀ d S, okR (call fs (d + 1) 1 [.str x] S) fun u S' => S' = S ∧ u = .bl b) ∧ ∀ d S, okR (call fs (d + 1) 19 [.str x] S) fun u S' => S' = S ∧ u = .bl b
/-- letters tell themselves -/
def inL (c : Nat) : Bool := !(Builtin.Str.occurrences (PF.S "abcdefghijklmnopqrstuvwxyz") ⟨#[c]⟩ 0 (PF.S "abcdefghijklmnopqrstuvwxyz").length 1).isEmpty
theorem notin_let {S : Store} {c : Nat} : cmpV .NotIn S (.str ⟨#[c]⟩) (.str (PF.S "abcdefghijklmnopqrstuvwxyz")) = some (!inL c) := rfl
theorem inL_low : ∀ c, low c = true → inL c = true := by
  intro c h
  have : ∀ c ∈ List.range 123, low c = true → inL c = true := by decide +kernel
  exact this c (List.mem_range.mpr (by have := of_decide_eq_true h; omega)) h
theorem filt_strs (p : Nat → Bool) : ∀ cs : List Nat, cs.filterMap (fun c => if p c = true then some (PV.str ⟨#[c]⟩) else none) = (cs.filter p).map fun c => PV.str ⟨#[c]⟩
  | [] => rfl
  | c :: cs => by
    rw [List.filterMap_cons, List.filter_cons, filt_strs p cs]
    cases p c <;> rfl
theorem word_b (x : Str) (hx : PyData.strOk x = true) : WordB x (decide (1 ≤ x.length ∧ x.length ≤ 6) && x.cps.toList.all inL) := by
  constructor
  · intro d S
    refine okR_call (F := f1) rfl rfl ?_
    simp only [f1]
    trivial
    rw [show tyName S (.str x) = some "str" from rfl]
    try trivial
    rw [if_neg (by decide)]
    by_cases h1 : (1 : Int) ≤ x.length
    · rw [if_pos h1]
      try trivial
      by_cases h6 : (x.length : Int) ≤ 6
      · simp only [h6, decide_true, Bool.not_true, Bool.false_eq_true, if_false]
        try trivial
        refine forL_ok (fun (i : Nat) (e : Env) (S' : Store) => S' = S ∧ ((x.cps.toList.take i).all inL = true) ∧ ∃ o, e = [some (.str x), o]) ⟨rfl, rfl, _, rfl⟩ (fun _ _ _ _ _ => rfl) ?_ ?_
        · rintro i y e S' hy ⟨rfl, ha, o, rfl⟩
          rw [List.getElem?_map] at hy
          obtain ⟨c, hc, rfl⟩ := map_some hy
          try trivial
          rw [notin_let]
          try trivial
          cases hl : inL c with
          | true =>
            simp only [Bool.not_true, Bool.false_eq_true, if_false]
            refine ⟨by first | exact rfl | exact True.intro, ?_, _, rfl⟩
            rw [List.take_add_one, hc, List.all_append, ha]
            simp [hl]
          | false =>
            simp only [Bool.not_false, if_true]
            refine done_len rfl ⟨rfl, ?_⟩
            have : x.cps.toList.all inL = false := by
              rw [List.all_eq_false]
              exact ⟨c, List.mem_of_getElem? hc, by simp [hl]⟩
            rw [this, Bool.and_false]
        · rintro e S' ⟨rfl, ha, o, rfl⟩
          try trivial
          refine done_len rfl ⟨rfl, ?_⟩
          rw [List.length_map, List.take_length] at ha
          rw [ha, decide_eq_true (by omega)]
          rfl
      · simp only [h6, decide_false, Bool.not_false, if_true]
        try trivial
        exact done_len rfl ⟨rfl, by rw [decide_eq_false (by omega)]; rfl⟩
    · rw [if_neg h1]
      try trivial
      simp only [Bool.not_false, if_true]
      try trivial
      exact done_len rfl ⟨rfl, by rw [decide_eq_false (by omega)]; rfl⟩
  · intro d S
    refine okR_call (F := f19) rfl rfl ?_
    simp only [f19]
    trivial
    by_cases h1 : (1 : Int) ≤ x.length
    · rw [if_pos h1]
      by_cases h6 : (x.length : Int) ≤ 6
      · rw [if_pos h6]
        try trivial
        rw [compL_map (fun c : Nat => PV.str ⟨#[c]⟩) (fun c => if (!inL c) = true then some (.str ⟨#[c]⟩) else none)]
        · rw [filt_strs]
          try trivial
          rw [c_eq_l0]
          · try trivial
            refine done_len rfl ⟨rfl, ?_⟩
            rw [decide_eq_true (show 1 ≤ x.length ∧ x.length ≤ 6 by omega), Bool.true_and, List.isEmpty_map]
            generalize x.cps.toList = l
            congr 1
            induction l with
            | nil => rfl
            | cons c l ih =>
              rw [List.filter_cons, List.all_cons]
              cases inL c with
              | true => simpa using ih
              | false => rfl
        · intro c hc
          try trivial
          rw [notin_let]
          try trivial
          cases inL c <;> rfl
      · rw [if_neg h6]
        exact done_len rfl ⟨rfl, by rw [decide_eq_false (by omega), decide_eq_false (by omega)]; rfl⟩
    · rw [if_neg h1]
      try trivial
      exact done_len rfl ⟨rfl, by rw [decide_eq_false (by omega)]; rfl⟩
def dot : Str := PF.S "."
theorem dot_tl : TL.tl dot = 46 :: [] := by decide +kernel
theorem count_split (x : Str) : (Txt.split x dot).length = (Builtin.Str.occurrences x dot 0 x.length (x.length + 1)).length + 1 := by
  unfold Txt.split
  by_cases h : (decide (x.length < dot.length) || decide (Builtin.Str.strKind x < Builtin.Str.strKind dot)) = true
  · rw [if_pos h]
    have hk : Builtin.Str.strKind dot = 1 := by decide +kernel
    have hl : dot.length = 1 := by decide +kernel
    have hx : x.length = 0 := by
      rcases Bool.or_eq_true _ _ ▸ h with z | z
      · have := of_decide_eq_true z
        omega
      · have := of_decide_eq_true z
        rw [hk] at this
        unfold Builtin.Str.strKind at this
        split at this
        · omega
        · split at this <;> omega
    have : x = ⟨#[]⟩ := by
      obtain ⟨⟨l⟩⟩ := x
      have : l = [] := List.eq_nil_of_length_eq_zero hx
      rw [this]
    subst this
    decide +kernel
  · rw [if_neg h]
    by_cases h2 : (Builtin.Str.occurrences x dot 0 x.length (x.length + 1)).isEmpty = true
    · rw [if_pos h2, List.isEmpty_iff.mp h2]
      rfl
    · rw [if_neg h2]
      unfold Builtin.Str.partsBetween
      simp
theorem count_is (x : Str) : Txt.count x dot = ((Txt.split x dot).length : Int) - 1 := by
  rw [count_split]
  show (((Builtin.Str.occurrences x dot 0 x.length (x.length + 1)).length : Nat) : Int) = _
  omega
def NameB (x : Str) (b : Bool) : Prop := (∀ d S, okR (call fs (d + 2) 2 [.str x] S) fun u S' => S' = S ∧ u = .bl b) ∧ ∀ d S, okR (call fs (d + 2) 20 [.str x] S) fun u S' => S' = S ∧ u = .bl b
theorem okB_of {x : Str} (h : StrOk x) : okB x = true := by unfold okB; rw [h.2, decide_eq_true h.1]; rfl
theorem part_is {S : Store} {x a b c : Str} (h : Txt.partition x dot = (a, b, c)) (ha : StrOk a) (hb : StrOk b) (hc : StrOk c) : mthV .partition S (.str x) [.str (PF.S ".")] = .ok (.tup [.str a, .str b, .str c]) S := by
  show (if (!(dot.length == 0) && okB (Txt.partition x dot).1 && okB (Txt.partition x dot).2.1 && okB (Txt.partition x dot).2.2) = true then R.ok (PV.tup [.str (Txt.partition x dot).1, .str (Txt.partition x dot).2.1, .str (Txt.partition x dot).2.2]) S else .bad) = _
  rw [h, okB_of ha, okB_of hb, okB_of hc]
  rw [if_pos (by decide +kernel)]
theorem split_is {S : Store} {x : Str} {ys : List Str} (h : Txt.split x dot = ys) (hl : x.length + 2 ≤ sizeLine) (hy : ∀ y ∈ ys, StrOk y) (hn : ys.length ≤ sizeLine) : mthV .split S (.str x) [.str (PF.S ".")] = .ok (.lv (ys.map .str)) S := by
  show (if (!(dot.length == 0) && decide (x.length + 2 ≤ sizeLine) && (Txt.split x dot).all okB && decide ((Txt.split x dot).length ≤ sizeLine)) = true then R.ok (PV.lv ((Txt.split x dot).map .str)) S else .bad) = _
  rw [h, decide_eq_true hl, decide_eq_true hn, List.all_eq_true.mpr fun y hyy => okB_of (hy y hyy)]
  rw [if_pos (by decide +kernel)]
theorem empty_ok : StrOk Str.empty := ⟨by decide +kernel, by decide +kernel⟩
/-- _law_is_name, by its parts -/
theorem lname {x : Str} {ys : List Str} (h : Txt.split x dot = ys) (hl : x.length + 2 ≤ sizeLine) (hy : ∀ y ∈ ys, StrOk y) (hn : ys.length ≤ 2) (B : Str → Bool) (hB : ∀ y ∈ ys, WordB y (B y)) : ∀ d S, okR (call fs (d + 2) 20 [.str x] S) fun u S' => S' = S ∧ u = .bl (ys.all B) := by
  intro d S
  refine okR_call (F := f20) rfl rfl ?_
  simp only [f20]
  trivial
  rw [show tyName S (.str x) = some "str" from rfl]
  try trivial
  rw [if_neg (by decide), show mthIs .count S (.str x) = true from rfl, if_pos rfl, show mthV .count S (.str x) [.str (PF.S ".")] = .ok (.int (Txt.count x dot)) S from rfl]
  try trivial
  rw [count_is, h, if_neg (by omega), show mthIs .split S (.str x) = true from rfl, if_pos rfl, split_is h hl hy (by rw [sizeLine_eq]; omega)]
  try trivial
  rw [iter_lv]
  try trivial
  rw [compL_map PV.str (fun y => if (!B y) = true then some (.str y) else none)]
  · have : ∀ l : List Str, l.filterMap (fun y => if (!B y) = true then some (PV.str y) else none) = (l.filter fun y => !B y).map PV.str := by
      intro l
      induction l with
      | nil => rfl
      | cons y l ih =>
        rw [List.filterMap_cons, List.filter_cons, ih]
        cases B y <;> rfl
    rw [this]
    try trivial
    rw [c_eq_l0]
    · try trivial
      refine done_len rfl ⟨rfl, ?_⟩
      rw [List.isEmpty_map]
      congr 1
      clear h hl hy hn hB this
      induction ys with
      | nil => rfl
      | cons y l ih =>
        rw [List.filter_cons, List.all_cons]
        cases B y with
        | true => simpa using ih
        | false => rfl
  · intro y hyy
    try trivial
    rw [okR_det ((hB y hyy).2 d S)]
    try trivial
    cases B y <;> rfl
end
end L2.PF.KB

set_option Elab.async false
set_option linter.all false
set_option maxRecDepth 100000
set_option maxHeartbeats 4000000
namespace L2.PF.KB
open PySem PySem.Spec PyProof.Rows
section
local macro_rules | `(tactic| trivial) => `(tactic| simp only [startE, exs, ex, ev, evs, okS_then, okS_toS, okR_bind, okS_nx, okS_rt, okR_ok, okS_ite, okR_ite, List.length_cons, List.length_nil, List.map_cons, List.map_nil, List.replicate, List.cons_append, List.nil_append, List.getElem?_cons_zero, List.getElem?_cons_succ, put_n, put2, put3, List.set_cons_zero, List.set_cons_succ, okR_some, o_add, o_sub, o_mul, o_div, o_mod, o_pow, c_lt, c_le, c_gt, c_ge, c_eq, c_ne, t_bl, map_some', decide_eq_true_eq, R.bind_ok, R.ofO_some, ifs0, ifs1, compR_f, wipeE, mk_f, mk_t, sz0, sz1, sz2, sz3, sz4, sz5, sz6, if_true, dic0, dic1, len_str, len_fz, len_lv, len_tup, tup_lv, list_tup, max_i, min_i, okR_only, ix_tup, atI0, atI1, atI2, sl1, bound, list1m_tup, Bool.false_eq_true, if_false, iter_tup, iter_str])
theorem mname {x a b c : Str} (h : Txt.partition x dot = (a, b, c)) (ha : StrOk a) (hb : StrOk b) (hc : StrOk c) {wa wc : Bool} (Wa : WordB a wa) (Wc : WordB c wc) : ∀ d S, okR (call fs (d + 2) 2 [.str x] S) fun u S' => S' = S ∧ u = .bl (wa && (decide (b = PF.S "") || wc)) := by
  intro d S
  refine okR_call (F := f2) rfl rfl ?_
  simp only [f2]
  trivial
  rw [show tyName S (.str x) = some "str" from rfl]
  try trivial
  rw [if_neg (by decide), show mthIs .partition S (.str x) = true from rfl, if_pos rfl, part_is h ha hb hc]
  try trivial
  rw [okR_det (Wa.1 d S)]
  try trivial
  cases wa with
  | false => exact done_len rfl ⟨rfl, rfl⟩
  | true =>
    simp only [if_true]
    rw [c_eq_str]
    try trivial
    by_cases hz : b = PF.S ""
    · rw [if_pos hz, decide_eq_true hz]
      exact done_len rfl ⟨rfl, rfl⟩
    · rw [if_neg hz, decide_eq_false hz, okR_det (Wc.1 d S)]
      try trivial
      exact done_len rfl ⟨rfl, rfl⟩
def wb (x : Str) : Bool := decide (1 ≤ x.length ∧ x.length ≤ 6) && x.cps.toList.all inL
theorem wb_empty : wb Str.empty = false := by decide +kernel
theorem lname_no {x : Str} (h : 2 < (Txt.split x dot).length) : ∀ d S, okR (call fs (d + 2) 20 [.str x] S) fun u S' => S' = S ∧ u = .bl false := by
  intro d S
  refine okR_call (F := f20) rfl rfl ?_
  simp only [f20]
  trivial
  rw [show tyName S (.str x) = some "str" from rfl]
  try trivial
  rw [if_neg (by decide), show mthIs .count S (.str x) = true from rfl, if_pos rfl, show mthV .count S (.str x) [.str (PF.S ".")] = .ok (.int (Txt.count x dot)) S from rfl]
  try trivial
  rw [count_is, if_pos (by omega)]
  exact done_len rfl ⟨rfl, rfl⟩
/-- without a dot -/
theorem name1 {x : Str} (hx : StrOk x) (hl : x.length ≤ 100) (h : 46 ∉ TL.tl x) : NameB x (wb x) := by
  have hw := word_b x hx.2
  have hsp : Txt.split x dot = [x] := by
    have := TL.split_join (y := dot) dot_tl (by decide +kernel) (parts := [x]) (by simp) (fun p hp => by rw [List.mem_singleton.mp hp]; exact h)
    rw [TL.join_eq] at this
    exact this
  refine ⟨fun d S => ?_, fun d S => ?_⟩
  · have := mname (TL.partition_none (y := dot) dot_tl (a := x) h) hx empty_ok empty_ok hw (word_b _ empty_ok.2) d S
    refine okR_mono this fun u S' ⟨h1, h2⟩ => ⟨h1, ?_⟩
    rw [h2]
    show PV.bl (wb x && (decide (Str.empty = PF.S "") || _)) = _
    rw [decide_eq_true (by decide +kernel), Bool.true_or, Bool.and_true]
  · have := lname hsp (by rw [sizeLine_eq]; omega) (fun y hy => by rw [List.mem_singleton.mp hy]; exact hx) (by simp) wb (fun y hy => by rw [List.mem_singleton.mp hy]; exact hw) d S
    refine okR_mono this fun u S' ⟨h1, h2⟩ => ⟨h1, ?_⟩
    rw [h2]
    simp
/-- with one -/
theorem name2 {a b : Str} (ha : StrOk a) (hb : StrOk b) (hal : a.length ≤ 100) (hbl : b.length ≤ 100) (h1 : 46 ∉ TL.tl a) (h2 : 46 ∉ TL.tl b) : NameB (a ++ dot ++ b) (wb a && wb b) := by
  have wa := word_b a ha.2
  have wb' := word_b b hb.2
  have hd : StrOk dot := ⟨by decide +kernel, by decide +kernel⟩
  have hsp : Txt.split (a ++ dot ++ b) dot = [a, b] := by
    have := TL.split_join (y := dot) dot_tl (by decide +kernel) (parts := [a, b]) (by simp) (fun p hp => by
      rcases List.mem_cons.mp hp with e | e
      · rw [e]; exact h1
      · rw [List.mem_singleton.mp e]; exact h2)
    rw [TL.join_eq] at this
    exact this
  have hl : (a ++ dot ++ b).length ≤ 201 := by
    rw [length_cps, cps_append, cps_append, List.length_append, List.length_append, ← length_cps, ← length_cps, ← length_cps, show dot.length = 1 by decide +kernel]
    omega
  refine ⟨fun d S => ?_, fun d S => ?_⟩
  · have := mname (TL.partition_app (y := dot) dot_tl (a := a) (b := b) h1) ha hd hb wa wb' d S
    refine okR_mono this fun u S' ⟨h1, h2⟩ => ⟨h1, ?_⟩
    rw [h2, decide_eq_false (show ¬ dot = PF.S "" by decide +kernel), Bool.false_or]
    rfl
  · have := lname hsp (by rw [sizeLine_eq]; omega) (fun y hy => by
      rcases List.mem_cons.mp hy with e | e
      · rw [e]; exact ha
      · rw [List.mem_singleton.mp e]; exact hb) (by simp) wb (fun y hy => by
      rcases List.mem_cons.mp hy with e | e
      · rw [e]; exact wa
      · rw [List.mem_singleton.mp e]; exact wb') d S
    refine okR_mono this fun u S' ⟨h1, h2⟩ => ⟨h1, ?_⟩
    rw [h2]
    simp
end
end L2.PF.KB

set_option Elab.async false
set_option linter.all false
set_option maxRecDepth 100000
set_option maxHeartbeats 4000000
namespace L2.PF.KB
open PySem PySem.Spec PyProof.Rows
def P1 (x : Str) : Prop := StrOk x ∧ ∃ b, NameB x b
theorem hP1 : ∀ x, P1 x → PyData.strOk x = true := fun x h => h.1.2
def KB (n : Nat) (v : PV) (b : Bool) : Prop := (∀ d S, okR (call fs (d + n + 3) 4 [v] S) fun u S' => S' = S ∧ u = .bl b) ∧ ∀ d S, okR (call fs (d + n + 3) 21 [v] S) fun u S' => S' = S ∧ u = .bl b
section
local macro_rules | `(tactic| trivial) => `(tactic| simp only [startE, exs, ex, ev, evs, okS_then, okS_toS, okR_bind, okS_nx, okS_rt, okR_ok, okS_ite, okR_ite, List.length_cons, List.length_nil, List.map_cons, List.map_nil, List.replicate, List.cons_append, List.nil_append, List.getElem?_cons_zero, List.getElem?_cons_succ, put_n, put2, put3, List.set_cons_zero, List.set_cons_succ, okR_some, o_add, o_sub, o_mul, o_div, o_mod, o_pow, c_lt, c_le, c_gt, c_ge, c_eq, c_ne, t_bl, map_some', decide_eq_true_eq, R.bind_ok, R.ofO_some, ifs0, ifs1, compR_f, wipeE, mk_f, mk_t, sz0, sz1, sz2, sz3, sz4, sz5, sz6, if_true, dic0, dic1, len_str, len_fz, len_lv, len_tup, tup_lv, list_tup, max_i, min_i, okR_only, ix_tup, atI0, atI1, atI2, sl1, bound, list1m_tup, Bool.false_eq_true, if_false, iter_tup, iter_str])
/-- what is no tuple -/
theorem kb_no {n : Nat} {v : PV} {t : String} (ht : ∀ S, tyName S v = some t) (hn : t ≠ "tuple") : KB n v false := by
  have e : (["tuple"].any (isT t)) = false := by
    simp only [List.any_cons, List.any_nil, Bool.or_false, isT, Bool.or_eq_false_iff, beq_eq_false_iff_ne, Bool.and_eq_false_imp]
    exact ⟨hn, fun _ => by decide⟩
  refine ⟨fun d S => ?_, fun d S => ?_⟩
  · refine okR_call (F := f4) rfl rfl ?_
    simp only [f4]
    trivial
    rw [ht]
    try trivial
    rw [e]
    simp only [Bool.not_false, if_true]
    exact done_len rfl ⟨rfl, rfl⟩
  · refine okR_call (F := f21) rfl rfl ?_
    simp only [f21]
    trivial
    rw [ht]
    try trivial
    rw [e]
    simp only [Bool.not_false, if_true]
    exact done_len rfl ⟨rfl, rfl⟩
/-- () -/
theorem kb_nil {n : Nat} : KB n (.tup []) false := by
  refine ⟨fun d S => ?_, fun d S => ?_⟩
  · refine okR_call (F := f4) rfl rfl ?_
    simp only [f4]
    trivial
    rw [show tyName S (.tup []) = some "tuple" from rfl]
    try trivial
    rw [if_neg (by decide), c_eq_t0]
    try trivial
    simp only [List.isEmpty_nil, if_true]
    exact done_len rfl ⟨rfl, rfl⟩
  · refine okR_call (F := f21) rfl rfl ?_
    simp only [f21]
    trivial
    rw [show tyName S (.tup []) = some "tuple" from rfl]
    try trivial
    rw [if_neg (by decide)]
    try trivial
    first | exact done_len rfl ⟨rfl, rfl⟩ | (simp only [if_true]; exact done_len rfl ⟨rfl, rfl⟩) | (rw [if_pos rfl]; exact done_len rfl ⟨rfl, rfl⟩) | trace_state
/-- a tuple whose first is no text -/
theorem kb_odd {n k : Nat} {v : PV} {r : List PV} (hv : Tree P1 k v) (hr : ∀ x ∈ r, Tree P1 k x) (ho : ∀ x, v ≠ .str x) (hd : ∀ ks xs, v ≠ .dv ks xs) : KB n (.tup (v :: r)) false := by
  have hall : ∀ x ∈ v :: r, Tree P1 k x := fun x hx => by
    rcases List.mem_cons.mp hx with e | e
    · rw [e]; exact hv
    · exact hr x e
  have hne : ∀ (S : Store) (y : Str), PyData.strOk y = true → cmpV .Eq S v (.str y) = some false := fun S y hy => by
    rw [c_eq_ts hv hd]
    cases v with
    | str x => exact absurd rfl (ho x)
    | _ => rfl
  have tg : ∀ x ∈ ["num", "open", "fn", "ref", "made"], PyData.strOk (PF.S x) = true := by decide +kernel
  obtain ⟨t, h1, h2, h3⟩ := Tree.ty hv
  have es : (["str"].any (isT t)) = false := by
    simp only [List.any_cons, List.any_nil, Bool.or_false, isT, Bool.or_eq_false_iff, beq_eq_false_iff_ne, Bool.and_eq_false_imp]
    exact ⟨fun e => by obtain ⟨x, hx⟩ := h3.mp e; exact ho x hx, fun _ => by decide⟩
  refine ⟨fun d S => ?_, fun d S => ?_⟩
  · refine okR_call (F := f4) rfl rfl ?_
    simp only [f4]
    trivial
    rw [show tyName S (.tup (v :: r)) = some "tuple" from rfl]
    try trivial
    rw [if_neg (by decide), c_eq_t0]
    try trivial
    simp only [List.isEmpty_cons, Bool.false_eq_true, if_false]
    simp only [hne S _ (tg "num" (by simp)), hne S _ (tg "open" (by simp)), hne S _ (tg "fn" (by simp)), hne S _ (tg "ref" (by simp)), hne S _ (tg "made" (by simp))]
    try trivial
    simp only [hne S _ (tg "num" (by simp)), hne S _ (tg "open" (by simp)), hne S _ (tg "fn" (by simp)), hne S _ (tg "ref" (by simp)), hne S _ (tg "made" (by simp)), okR_some, map_some', t_bl, Bool.false_eq_true, if_false, Bool.not_false, if_true]
    exact done_len rfl ⟨rfl, rfl⟩
  · refine okR_call (F := f21) rfl rfl ?_
    simp only [f21]
    trivial
    rw [show tyName S (.tup (v :: r)) = some "tuple" from rfl]
    try trivial
    rw [if_neg (by decide)]
    try trivial
    rw [if_neg (by omega), h1]
    try trivial
    rw [es]
    simp only [Bool.not_false, if_true]
    exact done_len rfl ⟨rfl, rfl⟩
end
end L2.PF.KB

set_option Elab.async false
set_option linter.all false
set_option maxRecDepth 100000
set_option maxHeartbeats 4000000
namespace L2.PF.KB
open PySem PySem.Spec PyProof.Rows
def D3 : List (Key × PV) := [(.inr (PF.S "num"), .int 1), (.inr (PF.S "ref"), .int 2), (.inr (PF.S "fn"), .int 3)]
theorem dic3 {S : Store} : dicNew false [.str (PF.S "num"), .int 1, .str (PF.S "ref"), .int 2, .str (PF.S "fn"), .int 3] S = .ok (.dv (D3.map (·.1)) (D3.map (·.2))) S := by
  have h : (([(.inr (PF.S "num"), .int 1), (.inr (PF.S "ref"), .int 2), (.inr (PF.S "fn"), .int 3)] : List (Key × PV)).foldl (fun d kv => putP d kv.1 kv.2) []) = D3 := by decide +kernel
  show mkDict false (List.foldl _ _ _) S = _
  rw [h]
  rfl
def manyOf (t : Str) : Int := if t = PF.S "num" then 1 else if t = PF.S "ref" then 2 else if t = PF.S "fn" then 3 else 0
theorem get3 {S : Store} {t : Str} : mthV .get2 S (.dv (D3.map (·.1)) (D3.map (·.2))) [.str t, .int 0] = .ok (.int (manyOf t)) S := by
  have : ((getK D3 (.inr t)).getD (.int 0)) = PV.int (manyOf t) := by
    unfold manyOf D3 getK
    by_cases h1 : t = PF.S "num"
    · subst h1; rw [if_pos rfl]; simp
    · rw [if_neg h1]
      have e1 : ¬ (PF.S "num" = t) := fun e => h1 e.symm
      by_cases h2 : t = PF.S "ref"
      · subst h2; rw [if_pos rfl]; simp [e1]
      · rw [if_neg h2]
        have e2 : ¬ (PF.S "ref" = t) := fun e => h2 e.symm
        by_cases h3 : t = PF.S "fn"
        · subst h3; rw [if_pos rfl]; simp [e1, e2]
        · rw [if_neg h3]
          have e3 : ¬ (PF.S "fn" = t) := fun e => h3 e.symm
          simp [e1, e2, e3]
  show R.ok ((getK D3 (.inr t)).getD (.int 0)) S = _
  rw [this]
theorem is_get {S : Store} : mthIs .get2 S (.dv (D3.map (·.1)) (D3.map (·.2))) = true := rfl
theorem compL_flt {turn : PV → Store → R (Option PV)} {S : Store} (B : PV → Bool) : ∀ (xs acc : List PV), (∀ x ∈ xs, turn x S = .ok (if (!B x) = true then some x else none) S) → compL [] turn xs acc S = .ok (acc ++ xs.filter fun x => !B x) S
  | [], acc, _ => by rw [compL, if_pos (show grdOk [] S = true from rfl)]; simp
  | x :: xs, acc, h => by
    rw [compL, if_pos (show grdOk [] S = true from rfl), h x List.mem_cons_self]
    have ih := fun acc => compL_flt B xs acc fun y hy => h y (List.mem_cons_of_mem _ hy)
    cases hb : B x with
    | true => simp [hb, ih]
    | false => simp [hb, ih]
theorem filt_emp (B : PV → Bool) : ∀ xs : List PV, (xs.filter fun x => !B x).isEmpty = xs.all B
  | [] => rfl
  | x :: xs => by
    rw [List.filter_cons, List.all_cons]
    cases B x with
    | true => simpa using filt_emp B xs
    | false => rfl
theorem KB.up {n k : Nat} {v : PV} {b : Bool} (h : KB n v b) (hk : n ≤ k) : KB k v b := by
  obtain ⟨j, rfl⟩ := Nat.le.dest hk
  refine ⟨fun d S => ?_, fun d S => ?_⟩
  · have := h.1 (d + j) S
    rw [show d + (n + j) + 3 = d + j + n + 3 by omega]
    exact this
  · have := h.2 (d + j) S
    rw [show d + (n + j) + 3 = d + j + n + 3 by omega]
    exact this
section
local macro_rules | `(tactic| trivial) => `(tactic| simp only [startE, exs, ex, ev, evs, okS_then, okS_toS, okR_bind, okS_nx, okS_rt, okR_ok, okS_ite, okR_ite, List.length_cons, List.length_nil, List.map_cons, List.map_nil, List.replicate, List.cons_append, List.nil_append, List.getElem?_cons_zero, List.getElem?_cons_succ, put_n, put2, put3, List.set_cons_zero, List.set_cons_succ, okR_some, o_add, o_sub, o_mul, o_div, o_mod, o_pow, c_lt, c_le, c_gt, c_ge, c_eq, c_ne, t_bl, map_some', decide_eq_true_eq, R.bind_ok, R.ofO_some, ifs0, ifs1, compR_f, wipeE, mk_f, mk_t, sz0, sz1, sz2, sz3, sz4, sz5, sz6, if_true, dic0, dic1, dic3, is_get, get3, len_str, len_fz, len_lv, len_tup, tup_lv, list_tup, max_i, min_i, okR_only, ix_tup, atI0, atI1, atI2, sl1, bound, list1m_tup, Bool.false_eq_true, if_false, iter_tup, iter_str])
/-- the law's reading of a tuple with a tag that is neither open nor made -/
theorem lk_rest {n : Nat} {t : Str} {r : List PV} (ht : PyData.strOk t = true) (hr : ∀ x ∈ r, Tree P1 n x) (B : PV → Bool) (hB : ∀ x ∈ r, KB n x (B x)) (h1 : t ≠ PF.S "open") (h2 : t ≠ PF.S "made") (d : Nat) (S : Store) :
    okR (call fs (d + (n + 1) + 3) 21 [.tup (.str t :: r)] S) fun u S' => S' = S ∧ u = .bl (decide (((r.length + 1 : Nat) : Int) = manyOf t) && r.all B) := by
  have tg : ∀ x ∈ ["num", "open", "fn", "ref", "made"], PyData.strOk (PF.S x) = true := by decide +kernel
  refine okR_call (F := f21) rfl rfl ?_
  simp only [f21]
  trivial
  rw [show tyName S (.tup (.str t :: r)) = some "tuple" from rfl]
  try trivial
  rw [if_neg (by decide)]
  try trivial
  rw [if_neg (by omega), show tyName S (.str t) = some "str" from rfl]
  try trivial
  rw [if_neg (by decide), c_eq_str]
  try trivial
  rw [if_neg h1, c_eq_str]
  try trivial
  rw [if_neg h2]
  by_cases hl : ((r.length + 1 : Nat) : Int) = manyOf t
  · rw [if_pos hl]
    rw [compL_flt B]
    · try trivial
      rw [c_eq_l0]
      try trivial
      rw [filt_emp]
      exact done_len rfl ⟨rfl, by rw [decide_eq_true hl]; rfl⟩
    · intro x hx
      try trivial
      rw [show d + (n + 1) + 2 = d + n + 3 by omega, okR_det ((hB x hx).2 d _)]
      try trivial
      cases B x <;> rfl
  · rw [if_neg hl]
    exact done_len rfl ⟨rfl, by rw [decide_eq_false hl]; rfl⟩
end
end L2.PF.KB

set_option Elab.async false
set_option linter.all false
set_option maxRecDepth 100000
set_option maxHeartbeats 4000000
namespace L2.PF.KB
open PySem PySem.Spec PyProof.Rows
section
local macro_rules | `(tactic| trivial) => `(tactic| simp only [startE, exs, ex, ev, evs, okS_then, okS_toS, okR_bind, okS_nx, okS_rt, okR_ok, okS_ite, okR_ite, List.length_cons, List.length_nil, List.map_cons, List.map_nil, List.replicate, List.cons_append, List.nil_append, List.getElem?_cons_zero, List.getElem?_cons_succ, put_n, put2, put3, List.set_cons_zero, List.set_cons_succ, okR_some, o_add, o_sub, o_mul, o_div, o_mod, o_pow, c_lt, c_le, c_gt, c_ge, c_eq, c_ne, t_bl, map_some', decide_eq_true_eq, R.bind_ok, R.ofO_some, ifs0, ifs1, compR_f, wipeE, mk_f, mk_t, sz0, sz1, sz2, sz3, sz4, sz5, sz6, if_true, dic0, dic1, dic3, is_get, get3, len_str, len_fz, len_lv, len_tup, tup_lv, list_tup, max_i, min_i, okR_only, ix_tup, atI0, atI1, atI2, sl1, bound, list1m_tup, Bool.false_eq_true, if_false, iter_tup, iter_str])
/-- the loop that asks all of r -/
theorem ask_loop {n : Nat} {e0 : PV} {r : List PV} (B : PV → Bool) (hB : ∀ x ∈ r, KB n x (B x)) (d : Nat) (S : Store) {D : En} (o : Option PV) (h1 : r.all B = true → ∀ o, D.nx [some e0, o] S) (h2 : r.all B = false → D.rt (.bl false) S) :
    okS (forL [] (fun x e S => match putT (.n 1) x e with | some e' => exs (call fs (d + n + 3)) [(.ite (.not (.fn 4 [(.v 1)])) [(.ret (.c (.bl false)))] [])] e' S | none => .bad) r [some e0, o] S) D := by
  refine forL_ok (fun (i : Nat) (e : Env) (S' : Store) => S' = S ∧ ((r.take i).all B = true) ∧ ∃ o, e = [some e0, o]) ⟨rfl, rfl, _, rfl⟩ (fun _ _ _ _ _ => rfl) ?_ ?_
  · rintro i y e S' hy ⟨rfl, ha, o, rfl⟩
    have hm : y ∈ r := List.mem_of_getElem? hy
    try trivial
    rw [okR_det ((hB y hm).1 d S')]
    try trivial
    cases hb : B y with
    | true =>
      simp only [Bool.not_true, Bool.false_eq_true, if_false]
      refine ⟨by first | exact rfl | exact True.intro, ?_, _, rfl⟩
      rw [List.take_add_one, hy, List.all_append, ha]
      simp [hb]
    | false =>
      simp only [Bool.not_false, if_true]
      exact h2 (by
        rw [List.all_eq_false]
        exact ⟨y, hm, by simp [hb]⟩)
  · rintro e S' ⟨rfl, ha, o, rfl⟩
    rw [List.take_length] at ha
    exact h1 ha o
theorem within_fr {t : Str} {r : List PV} (h : t = PF.S "fn" ∨ t = PF.S "ref") (d : Nat) (S : Store) : okR (call fs (d + 1) 3 [.tup (.str t :: r)] S) fun u S' => S' = S ∧ u = .tup r := by
  refine okR_call (F := f3) rfl rfl ?_
  simp only [f3]
  rcases h with rfl | rfl
  · trivial
    simp only [tfm, tff, okR_some, map_some', t_bl, Bool.false_eq_true, if_false, if_true]
    try trivial
    exact done_len rfl ⟨rfl, rfl⟩
  · trivial
    simp only [trm, trf, trr, okR_some, map_some', t_bl, Bool.false_eq_true, if_false, if_true]
    try trivial
    exact done_len rfl ⟨rfl, rfl⟩
theorem ik_rest {n : Nat} {t : Str} {r : List PV} (ht : P1 t) (hr : ∀ x ∈ r, Tree P1 n x) (B : PV → Bool) (hB : ∀ x ∈ r, KB n x (B x)) (h1 : t ≠ PF.S "open") (h2 : t ≠ PF.S "made") (d : Nat) (S : Store) :
    okR (call fs (d + (n + 1) + 3) 4 [.tup (.str t :: r)] S) fun u S' => S' = S ∧ u = .bl (decide (((r.length + 1 : Nat) : Int) = manyOf t) && r.all B) := by
  have tg : ∀ x ∈ ["num", "open", "fn", "ref", "made"], PyData.strOk (PF.S x) = true := by decide +kernel
  have hts := hP1 t ht
  have hall : ∀ x ∈ PV.str t :: r, Tree P1 (n + 1) x := fun x hx => by
    rcases List.mem_cons.mp hx with e | e
    · rw [e]; exact .inr (.inr (.inr (.inl ⟨t, ht, rfl⟩)))
    · exact (hr x e).up (by omega)
  refine okR_call (F := f4) rfl rfl ?_
  simp only [f4]
  trivial
  rw [show tyName S (.tup (.str t :: r)) = some "tuple" from rfl]
  try trivial
  rw [if_neg (by decide), c_eq_t0]
  try trivial
  simp only [List.isEmpty_cons, Bool.false_eq_true, if_false]
  have en : ∀ St, cmpV .Eq St (.str t) (.str (PF.S "num")) = some (decide (t = PF.S "num")) := fun St => c_eq_str
  have eo : ∀ St, cmpV .Eq St (.str t) (.str (PF.S "open")) = some (decide (t = PF.S "open")) := fun St => c_eq_str
  have em : ∀ St, cmpV .Eq St (.str t) (.str (PF.S "made")) = some (decide (t = PF.S "made")) := fun St => c_eq_str
  have ef : ∀ St, cmpV .Eq St (.str t) (.str (PF.S "fn")) = some (decide (t = PF.S "fn")) := fun St => c_eq_str
  have er : ∀ St, cmpV .Eq St (.str t) (.str (PF.S "ref")) = some (decide (t = PF.S "ref")) := fun St => c_eq_str
  have fn3 : manyOf (PF.S "fn") = 3 := by decide +kernel
  have rf2 : manyOf (PF.S "ref") = 2 := by decide +kernel
  have nm1 : manyOf (PF.S "num") = 1 := by decide +kernel
  rw [en]
  try trivial
  by_cases hn : t = PF.S "num"
  · rw [if_pos hn]
    refine done_len rfl ⟨rfl, ?_⟩
    subst hn
    rw [nm1]
    cases r with
    | nil => rfl
    | cons x r =>
      have e0 : ¬ (((x :: r).length + 1 : Nat) : Int) = 1 := by simp only [List.length_cons]; omega
      rw [decide_eq_false e0, Bool.false_and]
  · rw [if_neg hn, eo]
    try trivial
    rw [if_neg h1, em]
    try trivial
    rw [if_neg h2, ef]
    try trivial
    have yes : ∀ k : Int, ((r.length + 1 : Nat) : Int) = k → manyOf t = k → ∀ o : Bool, r.all B = o → (PV.bl o) = .bl (decide (((r.length + 1 : Nat) : Int) = manyOf t) && r.all B) := fun k e1 e2 o e3 => by
      rw [e2, decide_eq_true e1, Bool.true_and, e3]
    have no : ∀ k : Int, ¬ ((r.length + 1 : Nat) : Int) = k → manyOf t = k → (PV.bl false) = .bl (decide (((r.length + 1 : Nat) : Int) = manyOf t) && r.all B) := fun k e1 e2 => by
      rw [e2, decide_eq_false e1, Bool.false_and]
    by_cases hf : t = PF.S "fn"
    · have hmf : manyOf t = 3 := by rw [hf, fn3]
      rw [if_pos hf]
      by_cases hl : ((r.length + 1 : Nat) : Int) = 3
      · rw [if_pos hl, if_neg (by rw [decide_eq_true hl]; decide), okR_det (within_fr (.inl hf) (d + (n + 1) + 1) S)]
        try trivial
        exact ask_loop B hB d S none (fun ha o => done_len rfl ⟨rfl, yes 3 hl hmf true ha⟩) (fun ha => done_len rfl ⟨rfl, yes 3 hl hmf false ha⟩)
      · rw [if_neg hl, er, decide_eq_false (show ¬ t = PF.S "ref" by rw [hf]; decide +kernel)]
        try trivial
        rw [if_pos (by decide)]
        exact done_len rfl ⟨rfl, no 3 hl hmf⟩
    · rw [if_neg hf, if_neg hf, er]
      try trivial
      by_cases hr2 : t = PF.S "ref"
      · have hmf : manyOf t = 2 := by rw [hr2, rf2]
        rw [if_pos hr2]
        by_cases hl : ((r.length + 1 : Nat) : Int) = 2
        · rw [if_neg (by rw [decide_eq_true hl]; decide), okR_det (within_fr (.inr hr2) (d + (n + 1) + 1) S)]
          try trivial
          exact ask_loop B hB d S none (fun ha o => done_len rfl ⟨rfl, yes 2 hl hmf true ha⟩) (fun ha => done_len rfl ⟨rfl, yes 2 hl hmf false ha⟩)
        · rw [if_pos (by rw [decide_eq_false hl]; decide)]
          exact done_len rfl ⟨rfl, no 2 hl hmf⟩
      · have hmf : manyOf t = 0 := by unfold manyOf; rw [if_neg hn, if_neg hr2, if_neg hf]
        rw [if_neg hr2]
        try trivial
        rw [decide_eq_false hr2]
        rw [if_pos (by decide)]
        exact done_len rfl ⟨rfl, no 0 (by omega) hmf⟩
end
end L2.PF.KB

set_option Elab.async false
set_option linter.all false
set_option maxRecDepth 100000
set_option maxHeartbeats 4000000
namespace L2.PF.KB
open PySem PySem.Spec PyProof.Rows
def openB : List PV → Bool
  | [.int i] => decide (0 ≤ i)
  | _ => false
section
local macro_rules | `(tactic| trivial) => `(tactic| simp only [startE, exs, ex, ev, evs, okS_then, okS_toS, okR_bind, okS_nx, okS_rt, okR_ok, okS_ite, okR_ite, List.length_cons, List.length_nil, List.map_cons, List.map_nil, List.replicate, List.cons_append, List.nil_append, List.getElem?_cons_zero, List.getElem?_cons_succ, put_n, put2, put3, List.set_cons_zero, List.set_cons_succ, okR_some, o_add, o_sub, o_mul, o_div, o_mod, o_pow, c_lt, c_le, c_gt, c_ge, c_eq, c_ne, t_bl, map_some', decide_eq_true_eq, R.bind_ok, R.ofO_some, ifs0, ifs1, compR_f, wipeE, mk_f, mk_t, sz0, sz1, sz2, sz3, sz4, sz5, sz6, if_true, dic0, dic1, dic3, is_get, get3, len_str, len_fz, len_lv, len_tup, tup_lv, list_tup, max_i, min_i, okR_only, ix_tup, atI0, atI1, atI2, sl1, bound, list1m_tup, Bool.false_eq_true, if_false, iter_tup, iter_str])
/-- is_whole -/
theorem whole_ok {n : Nat} {v : PV} (hv : Tree P1 n v) (d : Nat) (S : Store) : okR (call fs (d + 1) 0 [v] S) fun u S' => S' = S ∧ u = .bl (match v with | .int _ => true | _ => false) := by
  obtain ⟨t, h1, h2, h3⟩ := Tree.ty hv
  refine okR_call (F := f0) rfl rfl ?_
  simp only [f0]
  cases n with
  | zero => exact hv.elim
  | succ n =>
    rcases hv with rfl | ⟨b, rfl⟩ | ⟨i, rfl⟩ | ⟨x, hx, rfl⟩ | ⟨xs, h1', rfl⟩ | ⟨xs, h1', rfl⟩ | ⟨dk, dx, rfl⟩ | ⟨ma, mk, h1', h2', rfl⟩
    · trivial
      rw [show tyName S .non = some "NoneType" from rfl]
      try trivial
      rw [if_neg (by decide)]
      exact done_len rfl ⟨rfl, rfl⟩
    · trivial
      rw [show tyName S (.bl b) = some "bool" from rfl]
      try trivial
      rw [if_pos (by decide), show tyName S (.bl b) = some "bool" from rfl]
      try trivial
      exact done_len rfl ⟨rfl, rfl⟩
    · trivial
      rw [show tyName S (.int i) = some "int" from rfl]
      try trivial
      rw [if_pos (by decide), show tyName S (.int i) = some "int" from rfl]
      try trivial
      exact done_len rfl ⟨rfl, rfl⟩
    · trivial
      rw [show tyName S (.str x) = some "str" from rfl]
      try trivial
      rw [if_neg (by decide)]
      exact done_len rfl ⟨rfl, rfl⟩
    · trivial
      rw [show tyName S (.tup xs) = some "tuple" from rfl]
      try trivial
      rw [if_neg (by decide)]
      exact done_len rfl ⟨rfl, rfl⟩
    · trivial
      rw [show tyName S (.lv xs) = some "list" from rfl]
      try trivial
      rw [if_neg (by decide)]
      exact done_len rfl ⟨rfl, rfl⟩
    · trivial
      rw [show tyName S (.dv dk dx) = some "dict" from rfl]
      try trivial
      rw [if_neg (by decide)]
      exact done_len rfl ⟨rfl, rfl⟩
    · trivial
      rw [show tyName S (.tup [.str (PF.S "made"), ma, .tup mk]) = some "tuple" from rfl]
      try trivial
      rw [if_neg (by decide)]
      exact done_len rfl ⟨rfl, rfl⟩
theorem kb_open {n : Nat} {r : List PV} (ht : P1 (PF.S "open")) (hr : ∀ x ∈ r, Tree P1 n x) : KB (n + 1) (.tup (.str (PF.S "open") :: r)) (openB r) := by
  have hall : ∀ x ∈ PV.str (PF.S "open") :: r, Tree P1 (n + 1) x := fun x hx => by
    rcases List.mem_cons.mp hx with e | e
    · rw [e]; exact .inr (.inr (.inr (.inl ⟨_, ht, rfl⟩)))
    · exact (hr x e).up (by omega)
  refine ⟨fun d S => ?_, fun d S => ?_⟩
  · refine okR_call (F := f4) rfl rfl ?_
    simp only [f4]
    trivial
    rw [show tyName S (.tup (.str (PF.S "open") :: r)) = some "tuple" from rfl]
    try trivial
    rw [if_neg (by decide), c_eq_t0]
    try trivial
    simp only [List.isEmpty_cons, Bool.false_eq_true, if_false, ton, too, okR_some, map_some', t_bl, if_true]
    try trivial
    match r, hr with
    | [], _ =>
      rw [if_neg (by simp)]
      exact done_len rfl ⟨rfl, rfl⟩
    | a1 :: a2 :: a3, _ =>
      have hne : ¬ (((a1 :: a2 :: a3 : List PV).length + 1 : Nat) : Int) = 2 := by simp only [List.length_cons]; omega
      rw [if_neg hne, decide_eq_false hne]
      exact done_len rfl ⟨rfl, by cases a1 <;> rfl⟩
    | [x], hr =>
      rw [if_pos (by simp)]
      simp only [atI1, okR_some]
      rw [okR_det (whole_ok (hr x List.mem_cons_self) (d + (n + 1) + 1) S)]
      try trivial
      cases x with
      | int i =>
        simp only [if_true]
        try trivial
        exact done_len rfl ⟨rfl, rfl⟩
      | _ =>
        simp only [Bool.false_eq_true, if_false]
        exact done_len rfl ⟨rfl, rfl⟩
  · refine okR_call (F := f21) rfl rfl ?_
    simp only [f21]
    trivial
    rw [show tyName S (.tup (.str (PF.S "open") :: r)) = some "tuple" from rfl]
    try trivial
    rw [if_neg (by decide)]
    try trivial
    rw [if_neg (by omega), show tyName S (.str (PF.S "open")) = some "str" from rfl]
    try trivial
    rw [if_neg (by decide)]
    simp only [too, okR_some, map_some', t_bl, if_true]
    try trivial
    match r, hr with
    | [], _ =>
      rw [if_neg (by simp)]
      exact done_len rfl ⟨rfl, rfl⟩
    | a1 :: a2 :: a3, _ =>
      have hne : ¬ (((a1 :: a2 :: a3 : List PV).length + 1 : Nat) : Int) = 2 := by simp only [List.length_cons]; omega
      rw [if_neg hne, decide_eq_false hne]
      exact done_len rfl ⟨rfl, by cases a1 <;> rfl⟩
    | [x], hr =>
      rw [if_pos (by simp)]
      simp only [atI1, okR_some]
      obtain ⟨t, h1, h2, h3⟩ := Tree.ty (hr x List.mem_cons_self)
      cases x with
      | int i =>
        rw [show tyName S (.int i) = some "int" from rfl]
        try trivial
        rw [if_pos (by decide), show tyName S (.int i) = some "int" from rfl]
        try trivial
        rw [if_pos (by decide)]
        try trivial
        exact done_len rfl ⟨rfl, rfl⟩
      | bl b =>
        rw [show tyName S (.bl b) = some "bool" from rfl]
        try trivial
        rw [if_pos (by decide), show tyName S (.bl b) = some "bool" from rfl]
        try trivial
        rw [if_neg (by decide)]
        exact done_len rfl ⟨rfl, rfl⟩
      | non =>
        rw [show tyName S .non = some "NoneType" from rfl]
        try trivial
        rw [if_neg (by decide)]
        exact done_len rfl ⟨rfl, rfl⟩
      | str y =>
        rw [show tyName S (.str y) = some "str" from rfl]
        try trivial
        rw [if_neg (by decide)]
        exact done_len rfl ⟨rfl, rfl⟩
      | tup y =>
        rw [show tyName S (.tup y) = some "tuple" from rfl]
        try trivial
        rw [if_neg (by decide)]
        exact done_len rfl ⟨rfl, rfl⟩
      | lv y =>
        rw [show tyName S (.lv y) = some "list" from rfl]
        try trivial
        rw [if_neg (by decide)]
        exact done_len rfl ⟨rfl, rfl⟩
      | dv dk dx =>
        rw [show tyName S (.dv dk dx) = some "dict" from rfl]
        try trivial
        rw [if_neg (by decide)]
        exact done_len rfl ⟨rfl, rfl⟩
      | iv c ns xs => exact absurd (h1 []) (by simp [tyName])
      | loc k => exact absurd (h1 []) (by simp [tyName])
      | fz y => exact absurd (h1 []) (by simp [tyName])
end
end L2.PF.KB

set_option Elab.async false
set_option linter.all false
set_option maxRecDepth 100000
set_option maxHeartbeats 4000000
namespace L2.PF.KB
open PySem PySem.Spec PyProof.Rows
section
local macro_rules | `(tactic| trivial) => `(tactic| simp only [startE, exs, ex, ev, evs, okS_then, okS_toS, okR_bind, okS_nx, okS_rt, okR_ok, okS_ite, okR_ite, List.length_cons, List.length_nil, List.map_cons, List.map_nil, List.replicate, List.cons_append, List.nil_append, List.getElem?_cons_zero, List.getElem?_cons_succ, put_n, put2, put3, List.set_cons_zero, List.set_cons_succ, okR_some, o_add, o_sub, o_mul, o_div, o_mod, o_pow, c_lt, c_le, c_gt, c_ge, c_eq, c_ne, t_bl, map_some', decide_eq_true_eq, R.bind_ok, R.ofO_some, ifs0, ifs1, compR_f, wipeE, mk_f, mk_t, sz0, sz1, sz2, sz3, sz4, sz5, sz6, if_true, dic0, dic1, dic3, is_get, get3, len_str, len_fz, len_lv, len_tup, tup_lv, list_tup, max_i, min_i, okR_only, ix_tup, atI0, atI1, atI2, sl1, bound, list1m_tup, Bool.false_eq_true, if_false, iter_tup, iter_str])
/-- names of any tree -/
theorem name_no {v : PV} {t : String} (ht : ∀ S, tyName S v = some t) (hn : t ≠ "str") : (∀ d S, okR (call fs (d + 1) 2 [v] S) fun u S' => S' = S ∧ u = .bl false) ∧ ∀ d S, okR (call fs (d + 1) 20 [v] S) fun u S' => S' = S ∧ u = .bl false := by
  have e : (["str"].any (isT t)) = false := by
    simp only [List.any_cons, List.any_nil, Bool.or_false, isT, Bool.or_eq_false_iff, beq_eq_false_iff_ne, Bool.and_eq_false_imp]
    exact ⟨hn, fun _ => by decide⟩
  refine ⟨fun d S => ?_, fun d S => ?_⟩
  · refine okR_call (F := f2) rfl rfl ?_
    simp only [f2]
    trivial
    rw [ht]
    try trivial
    rw [e]
    simp only [Bool.not_false, if_true]
    exact done_len rfl ⟨rfl, rfl⟩
  · refine okR_call (F := f20) rfl rfl ?_
    simp only [f20]
    trivial
    rw [ht]
    try trivial
    rw [e]
    simp only [Bool.not_false, if_true]
    exact done_len rfl ⟨rfl, rfl⟩
theorem name_any {n : Nat} {v : PV} (hv : Tree P1 n v) : ∃ b, (∀ d S, okR (call fs (d + 2) 2 [v] S) fun u S' => S' = S ∧ u = .bl b) ∧ ∀ d S, okR (call fs (d + 2) 20 [v] S) fun u S' => S' = S ∧ u = .bl b := by
  obtain ⟨t, h1, h2, h3⟩ := Tree.ty hv
  by_cases hs : t = "str"
  · obtain ⟨x, rfl⟩ := h3.mp hs
    cases n with
    | zero => exact hv.elim
    | succ n =>
      rcases hv with h | ⟨b, h⟩ | ⟨i, h⟩ | ⟨y, hy, h⟩ | ⟨xs, ⟨h1', hnd⟩, h⟩ | ⟨xs, h1', h⟩ | ⟨dk, dx, h⟩ | ⟨ma, mk, hm1, hm2, h⟩
      · cases h
      · cases h
      · cases h
      · cases h
        obtain ⟨b, hb⟩ := hy.2
        exact ⟨b, hb.1, hb.2⟩
      · cases h
      · cases h
      · cases h
      · cases h
  · have := name_no h1 hs
    exact ⟨false, fun d S => this.1 (d + 1) S, fun d S => this.2 (d + 1) S⟩
theorem within_made {x : PV} {ks : List PV} (d : Nat) (S : Store) : okR (call fs (d + 1) 3 [.tup [.str (PF.S "made"), x, .tup ks]] S) fun u S' => S' = S ∧ u = .tup ks := by
  refine okR_call (F := f3) rfl rfl ?_
  simp only [f3]
  trivial
  simp only [tmm, okR_some, map_some', t_bl, if_true]
  try trivial
  exact done_len rfl ⟨rfl, rfl⟩
/-- a tuple that is 'made' -/
theorem ik_made {n : Nat} {x : PV} {ks : List PV} {nb : Bool} (ht : P1 (PF.S "made")) (hx : Tree P1 n x) (hk : ∀ k ∈ ks, Tree P1 n k) (hN : ∀ d S, okR (call fs (d + 2) 2 [x] S) fun u S' => S' = S ∧ u = .bl nb) (B : PV → Bool) (hB : ∀ k ∈ ks, KB n k (B k)) (d : Nat) (S : Store) :
    okR (call fs (d + (n + 1) + 3) 4 [.tup [.str (PF.S "made"), x, .tup ks]] S) fun u S' => S' = S ∧ u = .bl (nb && (decide (ks.length ≤ 2) && ks.all B)) := by
  refine okR_call (F := f4) rfl rfl ?_
  simp only [f4]
  trivial
  rw [show tyName S (.tup [.str (PF.S "made"), x, .tup ks]) = some "tuple" from rfl]
  try trivial
  rw [if_neg (by decide), c_eq_t0]
  try trivial
  simp only [List.isEmpty_cons, Bool.false_eq_true, if_false, tmn, tmo, tmm, okR_some, map_some', t_bl, if_true]
  try trivial
  rw [if_neg (by decide)]
  try trivial
  rw [okR_det (hN (d + (n + 1)) S)]
  try trivial
  cases nb with
  | false =>
    simp only [Bool.not_false, if_true]
    exact done_len rfl ⟨rfl, rfl⟩
  | true =>
    simp only [Bool.not_true, Bool.false_eq_true, if_false]
    rw [show tyName S (.tup ks) = some "tuple" from rfl]
    try trivial
    rw [if_neg (by decide)]
    by_cases hl : (2 : Int) < ks.length
    · rw [if_pos hl]
      exact done_len rfl ⟨rfl, by rw [decide_eq_false (by omega)]; rfl⟩
    · rw [if_neg hl, okR_det (within_made (d + (n + 1) + 1) S)]
      try trivial
      exact ask_loop B hB d S none (fun ha o => done_len rfl ⟨rfl, by rw [ha, decide_eq_true (by omega)]; rfl⟩) (fun ha => done_len rfl ⟨rfl, by rw [ha, decide_eq_true (by omega)]; rfl⟩)
theorem lk_made {n : Nat} {x : PV} {ks : List PV} {nb : Bool} (hk : ∀ k ∈ ks, Tree P1 n k) (hN : ∀ d S, okR (call fs (d + 2) 20 [x] S) fun u S' => S' = S ∧ u = .bl nb) (B : PV → Bool) (hB : ∀ k ∈ ks, KB n k (B k)) (d : Nat) (S : Store) :
    okR (call fs (d + (n + 1) + 3) 21 [.tup [.str (PF.S "made"), x, .tup ks]] S) fun u S' => S' = S ∧ u = .bl (nb && (decide (ks.length ≤ 2) && ks.all B)) := by
  refine okR_call (F := f21) rfl rfl ?_
  simp only [f21]
  trivial
  rw [show tyName S (.tup [.str (PF.S "made"), x, .tup ks]) = some "tuple" from rfl]
  try trivial
  rw [if_neg (by decide)]
  try trivial
  rw [if_neg (by decide), show tyName S (.str (PF.S "made")) = some "str" from rfl]
  try trivial
  rw [if_neg (by decide)]
  simp only [tmo, tmm, okR_some, map_some', t_bl, if_true, Bool.false_eq_true, if_false]
  try trivial
  rw [if_neg (by decide)]
  try trivial
  rw [okR_det (hN (d + (n + 1)) S)]
  try trivial
  cases nb with
  | false =>
    simp only [Bool.not_false, if_true]
    exact done_len rfl ⟨rfl, rfl⟩
  | true =>
    simp only [Bool.not_true, Bool.false_eq_true, if_false]
    rw [show tyName S (.tup ks) = some "tuple" from rfl]
    try trivial
    rw [if_neg (by decide)]
    by_cases hl : (2 : Int) < ks.length
    · rw [if_pos hl]
      exact done_len rfl ⟨rfl, by rw [decide_eq_false (by omega)]; rfl⟩
    · rw [if_neg hl]
      rw [compL_flt B]
      · try trivial
        rw [c_eq_l0]
        try trivial
        rw [filt_emp]
        exact done_len rfl ⟨rfl, by rw [decide_eq_true (by omega)]; rfl⟩
      · intro y hy
        try trivial
        rw [show d + (n + 1) + 2 = d + n + 3 by omega, okR_det ((hB y hy).2 d _)]
        try trivial
        cases B y <;> rfl
end
end L2.PF.KB

set_option Elab.async false
set_option linter.all false
set_option maxRecDepth 100000
set_option maxHeartbeats 4000000
namespace L2.PF.KB
open PySem PySem.Spec PyProof.Rows
section
local macro_rules | `(tactic| trivial) => `(tactic| simp only [startE, exs, ex, ev, evs, okS_then, okS_toS, okR_bind, okS_nx, okS_rt, okR_ok, okS_ite, okR_ite, List.length_cons, List.length_nil, List.map_cons, List.map_nil, List.replicate, List.cons_append, List.nil_append, List.getElem?_cons_zero, List.getElem?_cons_succ, put_n, put2, put3, List.set_cons_zero, List.set_cons_succ, okR_some, o_add, o_sub, o_mul, o_div, o_mod, o_pow, c_lt, c_le, c_gt, c_ge, c_eq, c_ne, t_bl, map_some', decide_eq_true_eq, R.bind_ok, R.ofO_some, ifs0, ifs1, compR_f, wipeE, mk_f, mk_t, sz0, sz1, sz2, sz3, sz4, sz5, sz6, if_true, dic0, dic1, dic3, is_get, get3, len_str, len_fz, len_lv, len_tup, tup_lv, list_tup, max_i, min_i, okR_only, ix_tup, atI0, atI1, atI2, sl1, bound, list1m_tup, Bool.false_eq_true, if_false, iter_tup, iter_str])
/-- 'made', not three -/
theorem kb_made3 {n : Nat} {r : List PV} (ht : P1 (PF.S "made")) (hr : ∀ x ∈ r, Tree P1 n x) (hl : r.length ≠ 2) : KB (n + 1) (.tup (.str (PF.S "made") :: r)) false := by
  have hne : ¬ ((r.length + 1 : Nat) : Int) = 3 := by omega
  refine ⟨fun d S => ?_, fun d S => ?_⟩
  · refine okR_call (F := f4) rfl rfl ?_
    simp only [f4]
    trivial
    rw [show tyName S (.tup (.str (PF.S "made") :: r)) = some "tuple" from rfl]
    try trivial
    rw [if_neg (by decide), c_eq_t0]
    try trivial
    simp only [List.isEmpty_cons, Bool.false_eq_true, if_false, tmn, tmo, tmm, okR_some, map_some', t_bl, if_true]
    try trivial
    rw [if_pos (by rw [decide_eq_false hne]; rfl)]
    try trivial
    first | exact done_len rfl ⟨rfl, rfl⟩ | (rw [if_pos (by rw [decide_eq_false hne]; rfl)]; exact done_len rfl ⟨rfl, rfl⟩)
  · refine okR_call (F := f21) rfl rfl ?_
    simp only [f21]
    trivial
    rw [show tyName S (.tup (.str (PF.S "made") :: r)) = some "tuple" from rfl]
    try trivial
    rw [if_neg (by decide)]
    try trivial
    rw [if_neg (by omega), show tyName S (.str (PF.S "made")) = some "str" from rfl]
    try trivial
    rw [if_neg (by decide)]
    simp only [tmo, tmm, okR_some, map_some', t_bl, if_true, Bool.false_eq_true, if_false]
    try trivial
    rw [if_pos (by rw [decide_eq_false hne]; rfl)]
    try trivial
    first | exact done_len rfl ⟨rfl, rfl⟩ | (rw [if_pos (by rw [decide_eq_false hne]; rfl)]; exact done_len rfl ⟨rfl, rfl⟩)
/-- 'made', the third no tuple -/
theorem kb_madeT {n : Nat} {x y : PV} {t : String} (ht : P1 (PF.S "made")) (hx : Tree P1 n x) (hy : Tree P1 n y) (hty : ∀ S, tyName S y = some t) (hnt : t ≠ "tuple") : KB (n + 1) (.tup [.str (PF.S "made"), x, y]) false := by
  have et : (["tuple"].any (isT t)) = false := by
    simp only [List.any_cons, List.any_nil, Bool.or_false, isT, Bool.or_eq_false_iff, beq_eq_false_iff_ne, Bool.and_eq_false_imp]
    exact ⟨hnt, fun _ => by decide⟩
  obtain ⟨nb, hN1, hN2⟩ := name_any hx
  refine ⟨fun d S => ?_, fun d S => ?_⟩
  · refine okR_call (F := f4) rfl rfl ?_
    simp only [f4]
    trivial
    rw [show tyName S (.tup [.str (PF.S "made"), x, y]) = some "tuple" from rfl]
    try trivial
    rw [if_neg (by decide), c_eq_t0]
    try trivial
    simp only [List.isEmpty_cons, Bool.false_eq_true, if_false, tmn, tmo, tmm, okR_some, map_some', t_bl, if_true]
    try trivial
    rw [if_neg (by decide)]
    try trivial
    rw [okR_det (hN1 (d + (n + 1)) S)]
    try trivial
    cases nb with
    | false =>
      simp only [Bool.not_false, if_true]
      exact done_len rfl ⟨rfl, rfl⟩
    | true =>
      simp only [Bool.not_true, Bool.false_eq_true, if_false]
      rw [hty]
      try trivial
      rw [et]
      simp only [Bool.not_false, if_true]
      exact done_len rfl ⟨rfl, rfl⟩
  · refine okR_call (F := f21) rfl rfl ?_
    simp only [f21]
    trivial
    rw [show tyName S (.tup [.str (PF.S "made"), x, y]) = some "tuple" from rfl]
    try trivial
    rw [if_neg (by decide)]
    try trivial
    rw [if_neg (by decide), show tyName S (.str (PF.S "made")) = some "str" from rfl]
    try trivial
    rw [if_neg (by decide)]
    simp only [tmo, tmm, okR_some, map_some', t_bl, if_true, Bool.false_eq_true, if_false]
    try trivial
    rw [if_neg (by decide)]
    try trivial
    rw [okR_det (hN2 (d + (n + 1)) S)]
    try trivial
    cases nb with
    | false =>
      simp only [Bool.not_false, if_true]
      exact done_len rfl ⟨rfl, rfl⟩
    | true =>
      simp only [Bool.not_true, Bool.false_eq_true, if_false]
      rw [hty]
      try trivial
      rw [et]
      simp only [Bool.not_false, if_true]
      exact done_len rfl ⟨rfl, rfl⟩
end
end L2.PF.KB

set_option Elab.async false
set_option linter.all false
set_option maxRecDepth 100000
set_option maxHeartbeats 4000000
namespace L2.PF.KB
open PySem PySem.Spec PyProof.Rows
theorem strok (s : String) (h : okB (PF.S s) = true) : StrOk (PF.S s) := okB_ok h
theorem p1_word {x : Str} (hx : StrOk x) (hl : x.length ≤ 100) (h : 46 ∉ TL.tl x) : P1 x := ⟨hx, _, name1 hx hl h⟩
theorem p1_made : P1 (PF.S "made") := p1_word (strok _ (by decide +kernel)) (by decide +kernel) (by decide +kernel)
theorem p1_open : P1 (PF.S "open") := p1_word (strok _ (by decide +kernel)) (by decide +kernel) (by decide +kernel)
/-- THE TWO READINGS AGREE, of any tree -/
theorem kb_all : ∀ (n : Nat) (v : PV), Tree P1 n v → ∃ b, KB n v b
  | 0, _, h => h.elim
  | n + 1, v, h => by
    have ih := fun x (hx : Tree P1 n x) => kb_all n x hx
    have hMade : ∀ {ha0 ks} (ha : Tree P1 n ha0) (hk : ∀ x ∈ ks, Tree P1 n x), ∃ b, KB (n + 1) (.tup [.str (PF.S "made"), ha0, .tup ks]) b := by
      intro ha0 ks ha hk
      obtain ⟨nb, hN1, hN2⟩ := name_any ha
      have hB : ∀ k, ∃ b, k ∈ ks → KB n k b := fun k => by
        by_cases hkk : k ∈ ks
        · obtain ⟨b, hb⟩ := ih k (hk k hkk)
          exact ⟨b, fun _ => hb⟩
        · exact ⟨false, fun z => absurd z hkk⟩
      let B : PV → Bool := fun k => Classical.choose (hB k)
      have hBB : ∀ k ∈ ks, KB n k (B k) := fun k hkk => Classical.choose_spec (hB k) hkk
      exact ⟨_, ik_made p1_made ha hk hN1 B hBB, lk_made hk hN2 B hBB⟩
    by_cases hmade : ∃ a ks, Tree P1 n a ∧ (∀ x ∈ ks, Tree P1 n x) ∧ v = .tup [.str (PF.S "made"), a, .tup ks]
    · obtain ⟨a, ks, h1, h2, rfl⟩ := hmade
      exact hMade h1 h2
    obtain ⟨t, h1, h2, h3⟩ := Tree.ty h
    by_cases htt : t = "tuple"
    · obtain ⟨xs, rfl⟩ := h2.mp htt
      obtain ⟨hxs, hnd0⟩ : (∀ x ∈ xs, Tree P1 n x) ∧ noDv xs := by
        rcases h with h | ⟨b, h⟩ | ⟨i, h⟩ | ⟨y, hy, h⟩ | ⟨ys, ⟨h1', hnd⟩, h⟩ | ⟨ys, h1', h⟩ | ⟨dk, dx, h⟩ | ⟨ma, mk, hm1, hm2, h⟩
        · cases h
        · cases h
        · cases h
        · cases h
        · cases h; exact ⟨h1', hnd⟩
        · cases h
        · cases h
        · cases h; exact absurd ⟨_, _, hm1, hm2, rfl⟩ hmade
      cases xs with
      | nil => exact ⟨false, kb_nil⟩
      | cons t0 r =>
        have hr : ∀ x ∈ r, Tree P1 n x := fun x hx => hxs x (List.mem_cons_of_mem _ hx)
        have h0 := hxs t0 List.mem_cons_self
        by_cases hs : ∃ x, t0 = .str x
        · obtain ⟨x, rfl⟩ := hs
          have hx : P1 x := by
            cases n with
            | zero => exact h0.elim
            | succ n =>
              rcases h0 with h | ⟨b, h⟩ | ⟨i, h⟩ | ⟨y, hy, h⟩ | ⟨ys, ⟨h1', hnd⟩, h⟩ | ⟨ys, h1', h⟩ | ⟨dk, dx, h⟩ | ⟨ma, mk, hm1, hm2, h⟩
              · cases h
              · cases h
              · cases h
              · cases h; exact hy
              · cases h
              · cases h
              · cases h
              · cases h
          by_cases ho : x = PF.S "open"
          · subst ho; exact ⟨_, kb_open hx hr⟩
          by_cases hm : x = PF.S "made"
          · subst hm
            by_cases hl : r.length = 2
            · match r, hl, hr with
              | [a, c], _, hr =>
                have ha := hr a List.mem_cons_self
                have hc := hr c (by simp)
                obtain ⟨t', g1, g2, g3⟩ := Tree.ty hc
                by_cases ht' : t' = "tuple"
                · obtain ⟨ks, rfl⟩ := g2.mp ht'
                  exact absurd rfl hnd0
                · exact ⟨false, kb_madeT hx ha hc g1 ht'⟩
            · exact ⟨false, kb_made3 hx hr hl⟩
          · have hB : ∀ k, ∃ b, k ∈ r → KB n k b := fun k => by
              by_cases hkk : k ∈ r
              · obtain ⟨b, hb⟩ := ih k (hr k hkk)
                exact ⟨b, fun _ => hb⟩
              · exact ⟨false, fun z => absurd z hkk⟩
            let B : PV → Bool := fun k => Classical.choose (hB k)
            have hBB : ∀ k ∈ r, KB n k (B k) := fun k hkk => Classical.choose_spec (hB k) hkk
            exact ⟨_, ik_rest hx hr B hBB ho hm, lk_rest (hP1 x hx) hr B hBB ho hm⟩
        · exact ⟨false, kb_odd h0 hr (fun x e => hs ⟨x, e⟩) (fun ks vs e => by rw [e] at hnd0; cases r <;> exact hnd0)⟩
    · exact ⟨false, kb_no h1 htt⟩
end L2.PF.KB

set_option Elab.async false
set_option linter.all false
set_option maxRecDepth 100000
set_option maxHeartbeats 4000000
namespace L2.PF.KB
open PySem PySem.Spec PyProof.Rows
theorem wd_ok {x : Str} (h : Wd x) : StrOk x := ⟨by have := h.2.1; rw [sizeLine_eq]; omega, h.ok⟩
theorem wd_nodot {x : Str} (h : Wd x) : 46 ∉ TL.tl x := fun z => by
  have := h.2.2 46 z
  exact absurd this (by decide)
theorem p1_nm {x : Str} (h : Nm x) : P1 x := by
  rcases h with h | ⟨a, b, ha, hb, rfl⟩
  · exact p1_word (wd_ok h) (by have := h.2.1; omega) (wd_nodot h)
  · have h2 := name2 (wd_ok ha) (wd_ok hb) (by have := ha.2.1; omega) (by have := hb.2.1; omega) (wd_nodot ha) (wd_nodot hb)
    refine ⟨?_, _, h2⟩
    have hd : StrOk dot := ⟨by decide +kernel, by decide +kernel⟩
    have l1 : dot.length = 1 := by decide +kernel
    have e1 : (a ++ dot).length = a.length + 1 := by rw [length_cps, cps_append, List.length_append, ← length_cps, ← length_cps, l1]
    have h3 := (wd_ok ha).append hd (by have := ha.2.1; rw [l1, sizeLine_eq]; omega)
    exact h3.append (wd_ok hb) (by have := ha.2.1; have := hb.2.1; rw [e1, sizeLine_eq]; omega)
theorem p1_num : P1 (PF.S "num") := p1_word (strok _ (by decide +kernel)) (by decide +kernel) (by decide +kernel)
theorem p1_fn : P1 (PF.S "fn") := p1_word (strok _ (by decide +kernel)) (by decide +kernel) (by decide +kernel)
theorem p1_ref : P1 (PF.S "ref") := p1_word (strok _ (by decide +kernel)) (by decide +kernel) (by decide +kernel)
theorem t_str {n : Nat} {x : Str} (h : P1 x) : Tree P1 (n + 1) (.str x) := .inr (.inr (.inr (.inl ⟨x, h, rfl⟩)))
theorem t_tup {n : Nat} {xs : List PV} (h : ∀ x ∈ xs, Tree P1 n x) (hd : noDv xs) : Tree P1 (n + 1) (.tup xs) := .inr (.inr (.inr (.inr (.inl ⟨xs, ⟨h, hd⟩, rfl⟩))))
theorem t_made {n : Nat} {a : PV} {ks : List PV} (ha : Tree P1 n a) (h : ∀ x ∈ ks, Tree P1 n x) : Tree P1 (n + 1) (.tup [.str (PF.S "made"), a, .tup ks]) := .inr (.inr (.inr (.inr (.inr (.inr (.inr ⟨a, ks, ha, h, rfl⟩))))))
theorem nd1 {x : Str} : noDv [.str x] := True.intro
theorem nd2 {x : Str} {a : PV} : noDv [.str x, a] := True.intro
theorem nd_fn {a b : PV} : noDv [.str (PF.S "fn"), a, b] := by
  cases b <;> first | exact True.intro | (show PF.S "fn" ≠ PF.S "made"; decide +kernel)
/-- a kind is a tree -/
theorem kd_tree {m : Int} : ∀ {n : Nat} {v : PV}, Kd m n v → Tree P1 (2 * n) v
  | 0, _, h => h.elim
  | n + 1, v, h => by
    rw [show 2 * (n + 1) = (2 * n + 1) + 1 by omega]
    rcases h with rfl | ⟨i, h1, h2, rfl⟩ | ⟨a, b, h1, h2, rfl⟩ | ⟨a, h1, rfl⟩ | ⟨x, ks, h1, h2, h3, rfl⟩
    · exact t_tup (fun y hy => by rw [List.mem_singleton.mp hy]; exact t_str p1_num) nd1
    · refine t_tup (fun y hy => ?_) nd2
      rcases List.mem_cons.mp hy with e | e
      · rw [e]; exact t_str p1_open
      · rw [List.mem_singleton.mp e]; exact .inr (.inr (.inl ⟨i, rfl⟩))
    · refine t_tup (fun y hy => ?_) nd_fn
      simp only [List.mem_cons, List.not_mem_nil, or_false] at hy
      rcases hy with e | e | e
      · rw [e]; exact t_str p1_fn
      · rw [e]; exact (kd_tree h1).up (by omega)
      · rw [e]; exact (kd_tree h2).up (by omega)
    · refine t_tup (fun y hy => ?_) nd2
      simp only [List.mem_cons, List.not_mem_nil, or_false] at hy
      rcases hy with e | e
      · rw [e]; exact t_str p1_ref
      · rw [e]; exact (kd_tree h1).up (by omega)
    · exact t_made (t_str (p1_nm h1)) (fun k hk => (kd_tree (h3 k hk)).up (by omega))
end L2.PF.KB

set_option Elab.async false
set_option linter.all false
set_option maxRecDepth 100000
set_option maxHeartbeats 4000000
namespace L2.PF.KB
open PySem PySem.Spec PyProof.Rows
theorem c_eqb {S : Store} {a b : Bool} : cmpV .Eq S (.bl a) (.bl b) = some (a == b) := by cases a <;> cases b <;> rfl
section
local macro_rules | `(tactic| trivial) => `(tactic| simp only [startE, exs, ex, ev, evs, okS_then, okS_toS, okR_bind, okS_nx, okS_rt, okR_ok, okS_ite, okR_ite, List.length_cons, List.length_nil, List.map_cons, List.map_nil, List.replicate, List.cons_append, List.nil_append, List.getElem?_cons_zero, List.getElem?_cons_succ, put_n, put2, put3, List.set_cons_zero, List.set_cons_succ, okR_some, t_bl, map_some', R.bind_ok, R.ofO_some])
/-- _law_told -/
theorem told_ok {n : Nat} {v : PV} {b : Bool} (h : KB n v b) (d : Nat) (S : Store) : okR (call fs (d + n + 4) 24 [v] S) fun u S' => S' = S ∧ u = .bl true := by
  refine okR_call (F := f24) rfl rfl ?_
  simp only [f24]
  trivial
  rw [okR_det (h.1 d S)]
  try trivial
  rw [show tyName S (.bl b) = some "bool" from rfl]
  try trivial
  rw [if_pos (by decide), okR_det (h.2 d S)]
  try trivial
  rw [c_eqb]
  try trivial
  exact done_len rfl ⟨rfl, by simp⟩
end
end L2.PF.KB

set_option Elab.async false
set_option linter.all false
set_option maxRecDepth 100000
set_option maxHeartbeats 4000000
namespace L2.PF.KB
open PySem PySem.Spec PyProof.Rows
theorem p1_a : P1 (PF.S "a") := p1_word (strok _ (by decide +kernel)) (by decide +kernel) (by decide +kernel)
theorem p1_x : P1 (PF.S "x") := p1_word (strok _ (by decide +kernel)) (by decide +kernel) (by decide +kernel)
theorem p1_ag : P1 (PF.S "abcdefg") := p1_word (strok _ (by decide +kernel)) (by decide +kernel) (by decide +kernel)
theorem p1_A : P1 (PF.S "A") := p1_word (strok _ (by decide +kernel)) (by decide +kernel) (by decide +kernel)
theorem p1_e : P1 (PF.S "") := p1_word (strok _ (by decide +kernel)) (by decide +kernel) (by decide +kernel)
theorem p1_ab : P1 (PF.S "a b") := p1_word (strok _ (by decide +kernel)) (by decide +kernel) (by decide +kernel)
theorem p1_dot (x a b : String) (h : PF.S x = PF.S a ++ dot ++ PF.S b) (hx : okB (PF.S x) = true) (ha : okB (PF.S a) = true) (hb : okB (PF.S b) = true) (la : (PF.S a).length ≤ 100) (lb : (PF.S b).length ≤ 100) (na : 46 ∉ TL.tl (PF.S a)) (nb : 46 ∉ TL.tl (PF.S b)) : P1 (PF.S x) :=
  ⟨strok _ hx, _, by rw [h]; exact name2 (strok _ ha) (strok _ hb) la lb na nb⟩
theorem p1_a_ : P1 (PF.S "a.") := p1_dot "a." "a" "" (by decide +kernel) (by decide +kernel) (by decide +kernel) (by decide +kernel) (by decide +kernel) (by decide +kernel) (by decide +kernel) (by decide +kernel)
theorem p1__a : P1 (PF.S ".a") := p1_dot ".a" "" "a" (by decide +kernel) (by decide +kernel) (by decide +kernel) (by decide +kernel) (by decide +kernel) (by decide +kernel) (by decide +kernel) (by decide +kernel)
theorem p1_aag : P1 (PF.S "a.abcdefg") := p1_dot "a.abcdefg" "a" "abcdefg" (by decide +kernel) (by decide +kernel) (by decide +kernel) (by decide +kernel) (by decide +kernel) (by decide +kernel) (by decide +kernel) (by decide +kernel)
theorem p1_aB : P1 (PF.S "a.B") := p1_dot "a.B" "a" "B" (by decide +kernel) (by decide +kernel) (by decide +kernel) (by decide +kernel) (by decide +kernel) (by decide +kernel) (by decide +kernel) (by decide +kernel)
theorem p1_abc : P1 (PF.S "a.b.c") := by
  refine ⟨strok _ (by decide +kernel), false, fun d S => ?_, fun d S => ?_⟩
  · have hp : Txt.partition (PF.S "a.b.c") dot = (PF.S "a", dot, PF.S "b.c") := by decide +kernel
    have h1 := word_b (PF.S "a") (strok _ (by decide +kernel)).2
    have h2 := word_b (PF.S "b.c") (strok _ (by decide +kernel)).2
    have := mname hp (strok _ (by decide +kernel)) (strok _ (by decide +kernel)) (strok _ (by decide +kernel)) h1 h2 d S
    refine okR_mono this fun u S' ⟨e1, e2⟩ => ⟨e1, ?_⟩
    rw [e2]
    have : (decide (1 ≤ (PF.S "b.c").length ∧ (PF.S "b.c").length ≤ 6) && (PF.S "b.c").cps.toList.all inL) = false := by decide +kernel
    rw [this]
    have : decide (dot = PF.S "") = false := by decide +kernel
    rw [this]
    simp
  · exact lname_no (by decide +kernel) d S
theorem catl {S : Store} {xs ys : List PV} (h : xs.length + ys.length ≤ 10000) : binV .Add S (.lv xs) (.lv ys) = some (.lv (xs ++ ys)) := by
  show (if xs.length + ys.length ≤ sizeLine then some (PV.lv (xs ++ ys)) else none) = _
  rw [if_pos (by rw [sizeLine_eq]; omega)]
theorem catt {S : Store} {xs ys : List PV} (h : xs.length + ys.length ≤ 10000) : binV .Add S (.tup xs) (.tup ys) = some (.tup (xs ++ ys)) := by
  show (if xs.length + ys.length ≤ sizeLine then some (PV.tup (xs ++ ys)) else none) = _
  rw [if_pos (by rw [sizeLine_eq]; omega)]
theorem slm {S : Store} {xs : List PV} : ∃ m, slV S (.tup xs) none (some (-1)) = some (.tup (xs.take m)) := by
  refine ⟨HT.sIx xs.length xs.length (some (-1)), ?_⟩
  show some (PV.tup (cutP xs none (some (-1)))) = _
  unfold cutP
  rw [HT.sIx_none]
  rfl
section
variable {k : Nat}
theorem t_int {i : Int} : Tree P1 (k + 1) (.int i) := .inr (.inr (.inl ⟨i, rfl⟩))
theorem t_bl {b : Bool} : Tree P1 (k + 1) (.bl b) := .inr (.inl ⟨b, rfl⟩)
theorem t_non : Tree P1 (k + 1) .non := .inl rfl
theorem t_dv {ks : List Key} {xs : List PV} : Tree P1 (k + 1) (.dv ks xs) := .inr (.inr (.inr (.inr (.inr (.inr (.inl ⟨ks, xs, rfl⟩))))))
theorem t_lv {xs : List PV} (h : ∀ x ∈ xs, Tree P1 k x) : Tree P1 (k + 1) (.lv xs) := .inr (.inr (.inr (.inr (.inr (.inl ⟨xs, h, rfl⟩)))))
/-- trees, one by one -/
inductive Ts (k : Nat) : List PV → Prop
  | nil : Ts k []
  | cons {y : PV} {ys : List PV} (h : Tree P1 k y) (t : Ts k ys) : Ts k (y :: ys)
theorem Ts.all {ys : List PV} (h : Ts k ys) : ∀ x ∈ ys, Tree P1 k x := by
  induction h with
  | nil => intro x hx; cases hx
  | cons h t ih =>
    intro x hx
    rcases List.mem_cons.mp hx with e | e
    · rw [e]; exact h
    · exact ih x e
theorem u_tup {y : PV} {ys : List PV} (h : Ts k (y :: ys)) (hd : noDv (y :: ys)) : Tree P1 (k + 1) (.tup (y :: ys)) := t_tup h.all hd
theorem u_made {a : PV} {ks : List PV} (ha : Tree P1 k a) (h : Ts k ks) : Tree P1 (k + 1) (.tup [.str (PF.S "made"), a, .tup ks]) := t_made ha h.all
theorem u_tup0 : Tree P1 (k + 1) (.tup []) := t_tup (fun x h => by cases h) True.intro
theorem nd_s3 {x : Str} {a : PV} {y : Str} : noDv [.str x, a, .str y] := True.intro
theorem nd_i3 {x : Str} {a : PV} {y : Int} : noDv [.str x, a, .int y] := True.intro
theorem nd_l3 {x : Str} {a : PV} {y : List PV} : noDv [.str x, a, .lv y] := True.intro
theorem nd_t3 {x y z : List PV} : noDv [.tup x, .tup y, .tup z] := True.intro
theorem nd_l1 {x : List PV} : noDv [.lv x] := True.intro
theorem nd_t1 {x : List PV} : noDv [.tup x] := True.intro
theorem u_lv {ys : List PV} (h : Ts k ys) : Tree P1 (k + 1) (.lv ys) := t_lv h.all
end
theorem pick {P : PV → Prop} {L : List PV} {r : Int} {S : Store} {Q : PV → Store → Prop} (h0 : 0 ≤ r) (h1 : r < L.length) (hall : ∀ x ∈ L, P x) (k : ∀ y, P y → okR (R.ofO (some y) S) Q) : okR (R.ofO (ixV S (.lv L) (.int r)) S) Q := by
  obtain ⟨y, e1, e2⟩ := atI_some h0 h1
  rw [ix_lv, e1]
  exact k y (hall y e2)
section
local macro_rules | `(tactic| trivial) => `(tactic| simp only [startE, exs, ex, ev, evs, okS_then, okS_toS, okR_bind, okS_nx, okS_rt, okR_ok, okS_ite, okR_ite, List.length_cons, List.length_nil, List.map_cons, List.map_nil, List.replicate, List.cons_append, List.nil_append, List.getElem?_cons_zero, List.getElem?_cons_succ, put_n, put2, put3, List.set_cons_zero, List.set_cons_succ, okR_some, o_add, o_sub, o_mul, o_div, o_mod, o_pow, c_lt, c_le, c_gt, c_ge, c_eq, c_ne, PF.t_bl, map_some', decide_eq_true_eq, R.bind_ok, R.ofO_some, ifs0, ifs1, compR_f, wipeE, mk_f, mk_t, sz0, sz1, sz2, sz3, sz4, sz5, sz6, sz7, sz8, if_true, dic0, dic0v, dic1, len_str, len_fz, len_lv, len_tup, tup_lv, list_tup, max_i, min_i, okR_only, ix_tup, atI0, atI1, atI2, sl1, bound, list1m_tup, Bool.false_eq_true, if_false, iter_tup, iter_str])
local macro_rules | `(tactic| get_elem_tactic_trivial) => `(tactic| with_reducible repeat' (first | exact p1_a | exact p1_x | exact p1_ag | exact p1_A | exact p1_e | exact p1_ab | exact p1_a_ | exact p1__a | exact p1_aag | exact p1_aB | exact p1_abc | exact p1_num | exact p1_fn | exact p1_ref | exact p1_made | exact p1_open | assumption | exact nd1 | exact nd2 | exact nd_fn | exact nd_s3 | exact nd_i3 | exact nd_l3 | exact nd_t3 | exact nd_l1 | exact nd_t1 | exact Ts.nil | apply Ts.cons | exact u_tup0 | apply u_made | apply u_tup | apply u_lv | apply t_str | apply t_int | apply t_bl | apply t_non | apply t_dv))
theorem bad_ok {k : Nat} {xs : List PV} (h4 : Tree P1 (k + 4) (.lv xs)) (h1 : Tree P1 (k + 4) (.tup (xs ++ [.tup [.str (PF.S "num")]]))) (h3 : ∀ m, Tree P1 (k + 4) (.tup (xs.take m))) (hl : xs.length ≤ 100) (b n d : Nat) (S : Store) (hb : Bx b n S) (hn : n < 2 ^ 48) :
    okR (call fs (d + 3) 17 [.loc b, .tup xs] S) fun u S' => Fr b S S' ∧ Bx b (n + 1) S' ∧ Tree P1 (k + 4) u := by
  refine okR_call (F := f17) rfl rfl ?_
  simp only [f17]
  obtain ⟨m, hm⟩ := slm (S := S) (xs := xs)
  trivial
  rw [catt (by simp; omega)]
  try trivial
  rw [show (-1 : Int) = -(1 : Int) from rfl] at hm
  rw [hm]
  try trivial
  have m3 : ∀ S, binV .Mult S (.tup [.tup [.str (PF.S "num")]]) (.int 3) = some (.tup [.tup [.str (PF.S "num")], .tup [.str (PF.S "num")], .tup [.str (PF.S "num")]]) := fun _ => rfl
  iterate 2 (rw [catl (by simp)]; try trivial)
  rw [m3]
  try trivial
  iterate 3 (rw [catl (by simp)]; try trivial)
  refine okR_mono (take_ok (T := fs) (im := 8) (it := 10) rfl rfl d S b n _ hb (by omega) (by decide) (by decide)) fun v S1 ⟨hf, hb1, r, hv, h0, hr1⟩ => ?_
  subst hv
  refine pick (P := Tree P1 (k + 4)) h0 (by simp only [List.length_cons, List.length_nil]; exact hr1) ?_ fun y hy => ?_
  rotate_left
  · try trivial
    exact done_len hf.1 ⟨hf, hb1, hy⟩
  have h3 := h3 m
  refine Ts.all (k := k + 4) ?_
  get_elem_tactic_trivial
end
end L2.PF.KB

set_option Elab.async false
set_option linter.all false
set_option maxRecDepth 100000
set_option maxHeartbeats 4000000
namespace L2.PF.KB
open PySem PySem.Spec PyProof.Rows
theorem sl01 {S : Store} {x : PV} {xs : List PV} : slV S (.tup (x :: xs)) none (some 1) = some (.tup [x]) := by
  show some (PV.tup (cutP (x :: xs) none (some 1))) = _
  unfold cutP
  rw [HT.sIx_none, show HT.sIx (x :: xs).length (x :: xs).length (some 1) = 1 by
    rw [show (some (1 : Int)) = some ((1 : Nat) : Int) from rfl, HT.sIx_nat]
    simp only [List.length_cons]
    omega]
  simp
theorem tup_loc {S : Store} {n : Nat} {xs : List PV} (h : S[n]? = some (.lst xs)) : bltR .tuple1 S [.loc n] = .ok (.tup xs) S := by
  show R.ofO ((items S (.loc n)).map PV.tup) S = _
  simp only [items, h]
  rfl
theorem len_loc {S : Store} {n : Nat} {xs : List PV} (h : S[n]? = some (.lst xs)) : bltR .len S [.loc n] = .ok (.int xs.length) S := by
  show R.ofO ((lenV S (.loc n)).map fun (n : Nat) => PV.int n) S = _
  simp only [lenV, h]
  rfl
section
local macro_rules | `(tactic| trivial) => `(tactic| simp only [startE, exs, ex, ev, evs, okS_then, okS_toS, okR_bind, okS_nx, okS_rt, okR_ok, okS_ite, okR_ite, List.length_cons, List.length_nil, List.map_cons, List.map_nil, List.replicate, List.cons_append, List.nil_append, List.getElem?_cons_zero, List.getElem?_cons_succ, put_n, put2, put3, List.set_cons_zero, List.set_cons_succ, okR_some, o_add, o_sub, o_mul, o_div, o_mod, o_pow, c_lt, c_le, c_gt, c_ge, c_eq, c_ne, PF.t_bl, map_some', decide_eq_true_eq, R.bind_ok, R.ofO_some, ifs0, ifs1, compR_f, wipeE, mk_f, mk_t, sz0, sz1, sz2, sz3, sz4, sz5, sz6, sz7, sz8, if_true, dic0, dic0v, dic1, len_str, len_fz, len_lv, len_tup, tup_lv, list_tup, max_i, min_i, okR_only, ix_tup, atI0, atI1, atI2, sl1, sl01, bound, list1m_tup, Bool.false_eq_true, if_false, iter_tup, iter_str, tmm, tnm, tom, tfm, trm])
/-- _law_with, of kinds in the store; b: a fn or a ref -/
theorem with_fr {t : Str} {r : List PV} (ht : t = PF.S "fn" ∨ t = PF.S "ref") {c : Nat} {ks : List PV} (hl : ks.length ≤ 2) (d : Nat) (S : Store) (hS : S[c]? = some (.lst ks)) :
    okR (call fs (d + 1) 16 [.tup (.str t :: r), .loc c] S) fun u S' => S' = S ∧ u = .tup (.str t :: ks) := by
  refine okR_call (F := f16) rfl rfl ?_
  simp only [f16]
  rcases ht with rfl | rfl
  all_goals
    trivial
    rw [tup_loc hS]
    try trivial
    rw [catt (by simp only [List.length_cons, List.length_nil]; omega)]
    exact done_len rfl ⟨rfl, rfl⟩
theorem with_made {x : PV} {y : PV} {c : Nat} {ks : List PV} (d : Nat) (S : Store) (hS : S[c]? = some (.lst ks)) :
    okR (call fs (d + 1) 16 [.tup [.str (PF.S "made"), x, y], .loc c] S) fun u S' => S' = S ∧ u = .tup [.str (PF.S "made"), x, .tup ks] := by
  refine okR_call (F := f16) rfl rfl ?_
  simp only [f16]
  trivial
  rw [tup_loc hS]
  try trivial
  exact done_len rfl ⟨rfl, rfl⟩
/-- _law_bad, of a kind -/
theorem kbad_ok {m : Int} {n : Nat} {v : PV} (hv : Kd m n v) (b j d : Nat) (S : Store) (hb : Bx b j S) (hj : j < 2 ^ 48) :
    okR (call fs (d + 3) 17 [.loc b, v] S) fun u S' => Fr b S S' ∧ Bx b (j + 1) S' ∧ Tree P1 (2 * n + 4) u := by
  have ht := kd_tree hv
  have hnum : ∀ k, Tree P1 (k + 3) (.tup [.str (PF.S "num")]) := fun k => u_tup (.cons (t_str p1_num) .nil) nd1
  have tk : ∀ {k : Nat} {ys : List PV} (m : Nat), Ts k ys → Ts k (ys.take m) := by
    intro k ys m h
    induction h generalizing m with
    | nil => rw [List.take_nil]; exact .nil
    | cons h t ih =>
      cases m with
      | zero => exact .nil
      | succ m => rw [List.take_succ_cons]; exact .cons h (ih m)
  cases n with
  | zero => exact hv.elim
  | succ n =>
  rw [show 2 * (n + 1) + 4 = (2 * n + 2) + 4 by omega]
  rcases hv with rfl | ⟨i, h1, h2, rfl⟩ | ⟨a, b', h1, h2, rfl⟩ | ⟨a, h1, rfl⟩ | ⟨x, ks', h1, h2, h3, rfl⟩
  · have T0 : Ts (2 * n + 2 + 3) [.str (PF.S "num")] := .cons (t_str p1_num) .nil
    refine bad_ok (u_lv T0) (u_tup (.cons (t_str p1_num) (.cons (hnum _) .nil)) nd2) (fun m => t_tup (tk m T0).all ?_) (by simp) b j d S hb hj
    rcases m with _ | m
    · exact True.intro
    · rw [List.take_of_length_le (by simp)]; exact nd1
  · have T0 : Ts (2 * n + 2 + 3) [.str (PF.S "open"), .int i] := .cons (t_str p1_open) (.cons t_int .nil)
    refine bad_ok (u_lv T0) (u_tup (.cons (t_str p1_open) (.cons t_int (.cons (hnum _) .nil))) ?_) (fun m => t_tup (tk m T0).all ?_) (by simp) b j d S hb hj
    · show PF.S "open" ≠ PF.S "made"; decide +kernel
    · rcases m with _ | _ | m
      · exact True.intro
      · exact True.intro
      · rw [List.take_of_length_le (by simp)]; exact nd2
  · have ha := (kd_tree h1).up (show 2 * n ≤ 2 * n + 2 + 3 by omega)
    have hb' := (kd_tree h2).up (show 2 * n ≤ 2 * n + 2 + 3 by omega)
    have T0 : Ts (2 * n + 2 + 3) [.str (PF.S "fn"), a, b'] := .cons (t_str p1_fn) (.cons ha (.cons hb' .nil))
    refine bad_ok (u_lv T0) (u_tup (.cons (t_str p1_fn) (.cons ha (.cons hb' (.cons (hnum _) .nil)))) (by cases b' <;> exact True.intro)) (fun m => t_tup (tk m T0).all ?_) (by simp) b j d S hb hj
    rcases m with _ | _ | _ | m
    · exact True.intro
    · exact True.intro
    · exact True.intro
    · rw [show m + 1 + 1 + 1 = m + 3 by omega, List.take_of_length_le (by simp)]; exact nd_fn
  · have ha := (kd_tree h1).up (show 2 * n ≤ 2 * n + 2 + 3 by omega)
    have T0 : Ts (2 * n + 2 + 3) [.str (PF.S "ref"), a] := .cons (t_str p1_ref) (.cons ha .nil)
    refine bad_ok (u_lv T0) (u_tup (.cons (t_str p1_ref) (.cons ha (.cons (hnum _) .nil))) ?_) (fun m => t_tup (tk m T0).all ?_) (by simp) b j d S hb hj
    · show PF.S "ref" ≠ PF.S "made"; decide +kernel
    · rcases m with _ | _ | m
      · exact True.intro
      · exact True.intro
      · rw [List.take_of_length_le (by simp)]; exact nd2
  · have hks : Tree P1 (2 * n + 2 + 3) (.tup ks') := t_tup (fun k hk => (kd_tree (h3 k hk)).up (by omega)) (by
      cases ks' with
      | nil => exact True.intro
      | cons k0 kr =>
        obtain ⟨ys, hy⟩ := (h3 k0 List.mem_cons_self).tup
        rw [hy]
        rcases kr with _ | ⟨k1, _ | ⟨k2, kr⟩⟩ <;> exact True.intro)
    have T0 : Ts (2 * n + 2 + 3) [.str (PF.S "made"), .str x, .tup ks'] := .cons (t_str p1_made) (.cons (t_str (p1_nm h1)) (.cons hks .nil))
    refine bad_ok (u_lv T0) (u_tup (.cons (t_str p1_made) (.cons (t_str (p1_nm h1)) (.cons hks (.cons (hnum _) .nil)))) True.intro) (fun m => ?_) (by simp) b j d S hb hj
    by_cases hm : 3 ≤ m
    · rw [List.take_of_length_le (by simpa using hm)]
      exact (ht.up (by omega))
    · refine t_tup (tk m T0).all ?_
      rcases m with _ | _ | _ | m
      · exact True.intro
      · exact True.intro
      · exact True.intro
      · omega
end
end L2.PF.KB

set_option Elab.async false
set_option linter.all false
set_option maxRecDepth 100000
set_option maxHeartbeats 4000000
namespace L2.PF.KB
open PySem PySem.Spec PyProof.Rows
/-- the old objects but for the box stay -/
def Fx (b : Nat) (S S' : Store) : Prop := S.length ≤ S'.length ∧ ∀ j, j < S.length → j ≠ b → S'[j]? = S[j]?
theorem Fx.of {b : Nat} {S S' : Store} (h : Fr b S S') : Fx b S S' := ⟨Nat.le_of_eq h.1.symm, fun j _ hj => h.2 j hj⟩
theorem Fx.trans {b : Nat} {S S1 S2 : Store} (h : Fx b S S1) (k : Fx b S1 S2) : Fx b S S2 := ⟨Nat.le_trans h.1 k.1, fun j h1 h2 => (k.2 j (Nat.lt_of_lt_of_le h1 h.1) h2).trans (h.2 j h1 h2)⟩
theorem Fx.app {b : Nat} {S l : Store} : Fx b S (S ++ l) := ⟨by simp, fun j h _ => List.getElem?_append_left h⟩
theorem Fx.take {b : Nat} {S S' : Store} (h : Fx b S S') : Fx b S (S'.take S.length) := ⟨by rw [List.length_take]; have := h.1; omega, fun j h1 h2 => by rw [List.getElem?_take, if_pos h1]; exact h.2 j h1 h2⟩
theorem nd_ne {t : Str} {r : List PV} (h : t ≠ PF.S "made") : noDv (.str t :: r) := by
  rcases r with _ | ⟨a, _ | ⟨b, _ | ⟨c, r⟩⟩⟩
  · exact True.intro
  · exact True.intro
  · cases b <;> first | exact True.intro | exact h
  · cases b <;> exact True.intro
theorem mem_set' {xs : List PV} {i : Nat} {u x : PV} (h : x ∈ xs.set i u) : x ∈ xs ∨ x = u := by
  rcases List.mem_or_eq_of_mem_set h with h | h
  · exact .inl h
  · exact .inr h
section
local macro_rules | `(tactic| trivial) => `(tactic| simp only [startE, exs, ex, ev, evs, okS_then, okS_toS, okR_bind, okS_nx, okS_rt, okR_ok, okS_ite, okR_ite, List.length_cons, List.length_nil, List.map_cons, List.map_nil, List.replicate, List.cons_append, List.nil_append, List.getElem?_cons_zero, List.getElem?_cons_succ, put_n, put2, put3, List.set_cons_zero, List.set_cons_succ, okR_some, o_add, o_sub, o_mul, o_div, o_mod, o_pow, c_lt, c_le, c_gt, c_ge, c_eq, c_ne, PF.t_bl, map_some', decide_eq_true_eq, R.bind_ok, R.ofO_some, ifs0, ifs1, compR_f, wipeE, mk_f, mk_t, sz0, sz1, sz2, sz3, sz4, sz5, sz6, sz7, sz8, if_true, dic0, dic0v, dic1, len_str, len_fz, len_lv, len_tup, tup_lv, list_tup, max_i, min_i, okR_only, ix_tup, atI0, atI1, atI2, sl1, sl01, bound, list1m_tup, Bool.false_eq_true, if_false, iter_tup, iter_str, tmm, tnm, tom, tfm, trm])
theorem spoilt_ok {m : Int} (b : Nat) : ∀ (n : Nat) (v : PV), Kd m n v → ∀ (j d : Nat) (S : Store), Bx b j S → j + 2 * n + 2 < 2 ^ 48 →
    okR (call fs (d + n + 3) 18 [.loc b, v] S) fun u S' => Fx b S S' ∧ Bx b (j + 2 * n + 2) S' ∧ Tree P1 (2 * n + 4) u
  | 0, v, hv, _, _, _, _, _ => hv.elim
  | n + 1, v, hv, j, d, S, hb, hj => by
    refine okR_call (F := f18) rfl rfl ?_
    simp only [f18]
    trivial
    refine okR_mono (lwithin_ok (T := fs) (il := 15) rfl (d + n + 2) S hv) fun u S1 ⟨e1, e2⟩ => ?_
    subst e1 e2
    have hbl : b < S.length := hb.lt
    have hb1 : Bx b j (S ++ [.lst (kids v)]) := hb.ext
    have g0 : (S ++ [PO.lst (kids v)])[S.length]? = some (.lst (kids v)) := by simp
    try trivial
    rw [c_eq_o0 g0]
    try trivial
    have fin1 : ∀ (S' : Store) (u : PV) (i : Nat), Fx b (S ++ [PO.lst (kids v)]) S' → Bx b i S' → i ≤ j + 2 * (n + 1) + 2 → Tree P1 (2 * (n + 1) + 4) u → okR (done false S u S') fun u S' => Fx b S S' ∧ Bx b (j + 2 * (n + 1) + 2) S' ∧ Tree P1 (2 * (n + 1) + 4) u := by
      intro S' u i hx hB hi ht
      have hx2 : Fx b S S' := Fx.app.trans hx
      exact done_ok ⟨hx2, hB.up hi, ht⟩ fun _ => ⟨hx2.take, (hB.up hi).take hbl, ht⟩
    have badcase : ∀ (S2 : Store) (i : Nat), Fx b (S ++ [PO.lst (kids v)]) S2 → Bx b i S2 → i ≤ j + 1 → okR (call fs (d + (n + 1) + 2) 17 [.loc b, v] S2) fun a S' => okR (done false S a S') fun u S' => Fx b S S' ∧ Bx b (j + 2 * (n + 1) + 2) S' ∧ Tree P1 (2 * (n + 1) + 4) u := by
      intro S2 i hx hB hi
      rw [show d + (n + 1) + 2 = d + n + 3 by omega]
      refine okR_mono (kbad_ok hv b i (d + n) S2 hB (by omega)) fun u S3 ⟨h1, h2, h3⟩ => ?_
      exact fin1 S3 u (i + 1) (hx.trans (Fx.of h1)) h2 (by omega) h3
    cases hk : kids v with
    | nil =>
      rw [hk] at badcase
      simp only [List.isEmpty_nil, okR_ok, okR_some, PF.t_bl, if_true]
      have := badcase _ j ⟨Nat.le_refl _, fun _ _ _ => rfl⟩ (by rw [hk] at hb1; exact hb1) (by omega)
      exact this
    | cons k0 kr =>
      rw [← hk]
      have hk0 : (kids v).isEmpty = false := by rw [hk]; rfl
      rw [hk0]
      simp only [Bool.false_eq_true, if_false]
      rw [show d + (n + 1) + 2 = (d + n + 1) + 2 by omega]
      refine okR_mono (take_ok (T := fs) (im := 8) (it := 10) rfl rfl (d + n + 1) _ b j 3 hb1 (by omega) (by decide) (by decide)) fun w S2 ⟨hf, hb2, r, hw, h0, h1⟩ => ?_
      subst hw
      try trivial
      by_cases hr : r = 0
      · rw [if_pos hr]
        have := badcase S2 (j + 1) (Fx.of hf) hb2 (by omega)
        exact this
      · rw [if_neg hr]
        have g2 : S2[S.length]? = some (.lst (kids v)) := by rw [hf.2 S.length (by omega)]; exact g0
        rw [len_loc g2]
        try trivial
        have hkl := hv.kids_len
        have hkp : 0 < (kids v).length := by rw [hk]; simp
        refine okR_mono (take_ok (T := fs) (im := 8) (it := 10) rfl rfl (d + n + 1) _ b (j + 1) (kids v).length hb2 (by omega) (by omega) (by omega)) fun w S3 ⟨hf3, hb3, r3, hw, h30, h31⟩ => ?_
        subst hw
        try trivial
        have g3 : S3[S.length]? = some (.lst (kids v)) := by rw [hf3.2 S.length (by omega)]; exact g2
        rw [ix_l g3]
        obtain ⟨kid, e1, e2⟩ := atI_some h30 h31
        rw [e1]
        try trivial
        rw [show d + n + 1 + 2 = d + n + 3 by omega]
        refine okR_mono (spoilt_ok b n kid (hv.kids kid e2) (j + 2) d S3 hb3 (by omega)) fun u S4 ⟨hx4, hb4, ht4⟩ => ?_
        try trivial
        have hlen3 : S.length < S3.length := (List.getElem?_eq_some_iff.mp g3).1
        have g4 : S4[S.length]? = some (.lst (kids v)) := by rw [hx4.2 S.length hlen3 (by omega)]; exact g3
        have hix : ixN (kids v).length r3 = some r3.toNat := by unfold ixN; rw [if_pos h30, if_pos h31]
        rw [set_l g4 hix]
        try trivial
        have g5 : (S4.set S.length (.lst ((kids v).set r3.toNat u)))[S.length]? = some (.lst ((kids v).set r3.toNat u)) := by
          rw [List.getElem?_set_self]
          exact (List.getElem?_eq_some_iff.mp g4).1
        have hx5 : Fx b S (S4.set S.length (.lst ((kids v).set r3.toNat u))) := by
          have hx3 : Fx b S S3 := Fx.app.trans ((Fx.of hf).trans (Fx.of hf3))
          have hx34 := hx3.trans hx4
          refine ⟨by rw [List.length_set]; exact hx34.1, fun i h1 h2 => ?_⟩
          rw [List.getElem?_set_ne (by omega)]
          exact hx34.2 i h1 h2
        have hb5 : Bx b (j + 2 + 2 * n + 2) (S4.set S.length (.lst ((kids v).set r3.toNat u))) := by
          obtain ⟨x0, x1, x2, r, q1, q2⟩ := hb4
          exact ⟨x0, x1, x2, r, by rw [List.getElem?_set_ne (by omega)]; exact q1, q2⟩
        have fin2 : ∀ w : PV, Tree P1 (2 * (n + 1) + 4) w → okR (done false S w (S4.set S.length (.lst ((kids v).set r3.toNat u)))) fun u S' => Fx b S S' ∧ Bx b (j + 2 * (n + 1) + 2) S' ∧ Tree P1 (2 * (n + 1) + 4) u := by
          intro w ht
          exact done_ok ⟨hx5, hb5.up (by omega), ht⟩ fun _ => ⟨hx5.take, (hb5.up (by omega)).take hbl, ht⟩
        have hset : ∀ x ∈ (kids v).set r3.toNat u, Tree P1 (2 * n + 4) x := fun x hx => by
          rcases mem_set' hx with h | h
          · exact (kd_tree (hv.kids x h)).up (by omega)
          · rw [h]; exact ht4
        have hfr : ∀ t, (t = PF.S "fn" ∨ t = PF.S "ref") → Tree P1 (2 * (n + 1) + 4) (.tup (.str t :: (kids v).set r3.toNat u)) := fun t ht => t_tup (fun x hx => by
          rcases List.mem_cons.mp hx with e | e
          · rw [e]; exact t_str (by rcases ht with h | h <;> rw [h]; exact p1_fn; exact p1_ref)
          · exact (hset x e).up (by omega)) (nd_ne (by rcases ht with h | h <;> (rw [h]; decide +kernel)))
        have hv' := hv
        rcases hv with rfl | ⟨i, q1, q2, rfl⟩ | ⟨a, b', q1, q2, rfl⟩ | ⟨a, q1, rfl⟩ | ⟨x, ks', q1, q2, q3, rfl⟩
        · cases hk
        · cases hk
        · refine okR_mono (with_fr (.inl rfl) (by rw [List.length_set]; omega) _ _ g5) fun w S6 ⟨e1, e2⟩ => ?_
          subst e1 e2
          exact fin2 _ (hfr _ (.inl rfl))
        · refine okR_mono (with_fr (.inr rfl) (by rw [List.length_set]; omega) _ _ g5) fun w S6 ⟨e1, e2⟩ => ?_
          subst e1 e2
          exact fin2 _ (hfr _ (.inr rfl))
        · refine okR_mono (with_made _ _ g5) fun w S6 ⟨e1, e2⟩ => ?_
          subst e1 e2
          exact fin2 _ ((t_made (t_str (p1_nm q1)) hset).up (by omega))
end
end L2.PF.KB

set_option Elab.async false
set_option linter.all false
set_option maxRecDepth 100000
set_option maxHeartbeats 4000000
namespace L2.PF.KB
open PySem PySem.Spec PyProof.Rows
theorem inD_ints {S : Store} {x : Int} {xs : List Int} : inD S (.int x) (xs.map PV.int) = some (decide (x ∈ xs)) := by
  rw [inD_flat rfl (by rw [List.all_map, List.all_eq_true]; exact fun _ _ => rfl)]
  congr 1
  induction xs with
  | nil => rfl
  | cons y ys ih =>
    rw [List.map_cons, List.any_cons, ih]
    show ((y == x) || decide (x ∈ ys)) = _
    by_cases e : y = x
    · subst e; simp
    · have e' : x ≠ y := fun z => e z.symm
      simp [e, e']
theorem eqL_ints {S : Store} {k : Nat} : ∀ xs : List Int, eqL (eqG S (k + 1)) (xs.map PV.int) (xs.map PV.int) = some true
  | [] => rfl
  | x :: xs => by
    rw [List.map_cons, eqL, eqL_ints xs, eqG, if_pos (by rfl), if_pos (by rfl), show eqP (.int x) (.int x) = true from beq_self_eq_true x]
    rfl
theorem ne_ints {S : Store} {xs : List Int} : cmpV .NotEq S (.lv (xs.map PV.int)) (.lv (xs.map PV.int)) = some false := by
  show (eqG S (169 + 1) (.lv (xs.map PV.int)) (.lv (xs.map PV.int))).map (!·) = _
  rw [eqG, if_neg (by simp [flatP])]
  simp only [seqK, litems, Option.map_some]
  rw [if_neg (by simp [flatP])]
  unfold eqS
  rw [if_pos rfl, if_neg (by simp), eqL_ints xs]
  rfl
theorem sl_loc {S : Store} {n i : Nat} {xs : List PV} (h : S[n]? = some (.lst xs)) (hi : i ≤ xs.length) : slV S (.loc n) none (some (i : Int)) = some (.lv (xs.take i)) := by
  simp only [slV, litems, h]
  unfold cutP
  rw [HT.sIx_none, HT.sIx_nat, Nat.min_eq_left hi]
  simp
theorem once_take (xs : List Int) (i : Nat) (x : Int) (h : xs[i]? = some x) : once (xs.take (i + 1)) = if x ∈ xs.take i then once (xs.take i) else once (xs.take i) ++ [x] := by
  rw [List.take_add_one, h]
  unfold once
  rw [List.foldl_append]
  show addI (List.foldl addI [] (xs.take i)) x = _
  unfold addI
  have := mem_once (xs := xs.take i) (y := x)
  unfold once at this
  by_cases hx : x ∈ xs.take i
  · rw [if_pos hx]; exact if_pos (this.mpr hx)
  · rw [if_neg hx]; exact if_neg (fun z => hx (this.mp z))
theorem enum_loc {S : Store} {n : Nat} {xs : List PV} (h : S[n]? = some (.lst xs)) : iterV .enum S [.loc n] = some (enumP xs, [(n, .lst xs)]) := by
  show (items S (.loc n)).map (fun xs => (enumP xs, grd S (.loc n))) = _
  simp only [items, grd, h]
  rfl
theorem KB.told {n : Nat} {v : PV} (h : Tree P1 n v) (k : Nat) (hk : n + 4 ≤ k) (S : Store) : okR (call fs k 24 [v] S) fun u S' => S' = S ∧ u = .bl true := by
  obtain ⟨b, hb⟩ := kb_all n v h
  obtain ⟨d, rfl⟩ := Nat.le.dest hk
  have := told_ok hb d S
  rw [show n + 4 + d = d + n + 4 by omega]
  exact this
def EnvL (fz : PV) (e : Env) : Prop := ∃ o1 o2 o3 o4 o5 o6 o7 o8 o9 o10 o11, e = [some fz, o1, o2, o3, o4, o5, o6, o7, o8, o9, o10, o11]
def lbody : List Sm := match f25.body with | .forS _ _ _ b :: _ => b | _ => []
section
local macro_rules | `(tactic| trivial) => `(tactic| simp only [startE, exs, ex, ev, evs, okS_then, okS_toS, okR_bind, okS_nx, okS_rt, okR_ok, okS_ite, okR_ite, List.length_cons, List.length_nil, List.map_cons, List.map_nil, List.replicate, List.cons_append, List.nil_append, List.getElem?_cons_zero, List.getElem?_cons_succ, put_n, put2, put3, List.set_cons_zero, List.set_cons_succ, okR_some, o_add, o_sub, o_mul, o_div, o_mod, o_pow, c_lt, c_le, c_gt, c_ge, c_eq, c_ne, PF.t_bl, map_some', decide_eq_true_eq, R.bind_ok, R.ofO_some, ifs0, ifs1, compR_f, wipeE, mk_f, mk_t, sz0, sz1, sz2, sz3, sz4, sz5, sz6, sz7, sz8, if_true, dic0, dic0v, dic1, len_str, len_fz, len_lv, len_tup, tup_lv, list_tup, max_i, min_i, okR_only, ix_tup, atI0, atI1, atI2, sl1, sl01, bound, list1m_tup, Bool.false_eq_true, if_false, iter_tup, iter_str])
/-- the first half: a kind is drawn -/
theorem head_ok (ns : List Int) (k : Int) (hk : 0 ≤ k) (hk2 : k < 1000) (o2 o3 o4 o5 o6 o7 o8 o9 o10 o11 : Option PV) (S : Store) (D : En) :
    okS (exs (call fs 119) (lbody.take 4) [some (.fz (ns.map PV.int)), some (.int k), o2, o3, o4, o5, o6, o7, o8, o9, o10, o11] S)
      { nx := fun e S' => ∃ b j v m o3 o8 o9, e = [some (.fz (ns.map PV.int)), some (.int k), some (.loc b), o3, some v, o5, o6, o7, o8, o9, o10, o11] ∧ Bx b j S' ∧ j < 2 ^ 40 ∧ Kd m 50 v ∧ Ks 1000 v, rt := D.rt } := by
  simp only [f25, lbody, List.take]
  trivial
  refine okR_mono (box3_ok (T := fs) (ic := 7) (ib := 9) rfl rfl 117 S ns k hk (by omega)) fun u S1 ⟨e1, ⟨o, e2⟩, hb1⟩ => ?_
  subst e1
  try trivial
  rw [iter_rng (by decide) (by decide)]
  try trivial
  refine compL_ok (fun (i : Nat) (a : List PV) (S' : Store) => Bx S.length (15 * i) S' ∧ a.length = i ∧ ∀ v ∈ a, ∃ x, v = .str x ∧ Nm x) ⟨hb1, rfl, fun v h => by cases h⟩ (fun _ _ _ _ _ => rfl) ?_ ?_
  · rintro i x a S2 hx ⟨hb2, ha, hall⟩
    obtain ⟨rfl, hi⟩ := intRow_at hx
    have hi : i < 3 := hi
    try trivial
    refine okR_mono (name_ok (T := fs) (im := 8) (it := 10) (iw := 11) (iN := 12) rfl rfl rfl rfl 115 S2 S.length (15 * i) hb2 (by omega)) fun v S3 ⟨hf, hb3, x, hv, hx⟩ => ?_
    refine ⟨by rw [Nat.mul_add]; exact hb3, by simp [ha], fun k hk => ?_⟩
    rcases List.mem_append.mp hk with h | h
    · exact hall k h
    · rw [List.mem_singleton.mp h]; exact ⟨x, hv, hx⟩
  · rintro a S2 ⟨hb2, ha, hall⟩
    rw [intRow_length] at ha hb2
    have ha : a.length = 3 := ha
    have hb2 : Bx S.length 45 S2 := hb2
    try trivial
    refine ⟨pow_ok.2.2.2, ?_⟩
    refine okR_mono (take_ok (T := fs) (im := 8) (it := 10) rfl rfl 117 S2 S.length 45 3 hb2 (by omega) (by decide) (by decide)) fun v S3 ⟨hf3, hb3, r, hv, h0, h1⟩ => ?_
    subst hv
    refine pick (P := fun v => ∃ m : Int, v = .int m ∧ 0 < m ∧ m < 2 ^ 100) h0 (by simp only [List.length_cons, List.length_nil]; exact h1) ?_ fun y hy => ?_
    · intro x hx
      simp only [List.mem_cons, List.not_mem_nil, or_false] at hx
      rcases hx with rfl | rfl | rfl
      · exact ⟨_, rfl, by decide, by decide⟩
      · exact ⟨_, rfl, by decide, by decide⟩
      · exact ⟨_, rfl, by decide, by decide⟩
    · obtain ⟨m, rfl, m0, m1⟩ := hy
      try trivial
      refine okR_mono (knd_ok (T := fs) (im := 8) (it := 10) (ik := 13) rfl rfl rfl S.length a hall (fun z => by rw [z] at ha; cases ha) (by omega) m m0 m1 4 112 46 S3 hb3 (by decide)) fun v S4 ⟨hf4, hb4, hkd⟩ => ?_
      try trivial
      refine okR_mono (take_ok (T := fs) (im := 8) (it := 10) rfl rfl 117 S4 S.length _ 8 hb4 (by decide) (by decide) (by decide)) fun w S5 ⟨hf5, hb5, r5, hw, h50, h51⟩ => ?_
      subst hw
      try trivial
      by_cases h5 : r5 = 0
      · rw [if_pos h5]
        match a, ha, hall with
        | a0 :: ar, ha, hall =>
          obtain ⟨x0, rfl, hx0⟩ := hall a0 List.mem_cons_self
          refine okR_mono (deep_ks (T := fs) (im := 8) (it := 10) (idp := 14) (cnt := 48) rfl rfl rfl (by decide) (by decide) S.length x0 ar hx0 4 (by decide) (by decide) 116 _ S5 hb5 (by decide)) fun v S6 ⟨hf6, hb6, k1, k2⟩ => ?_
          exact ⟨_, _, _, _, _, _, _, rfl, hb6, by decide, k1, k2.up (by decide)⟩
      · rw [if_neg h5]
        refine ⟨_, _, _, _, _, _, _, rfl, hb5, by decide, hkd.up (by omega), fun j => ?_⟩
        have := hkd.size j
        omega
/-- .. it is told, spoilt, bad -/
theorem mid_ok (fz : PV) (k : PV) (b j : Nat) (v : PV) (m : Int) (o3 o5 o6 o7 o8 o9 o10 o11 : Option PV) (S : Store) (hb : Bx b j S) (hj : j < 2 ^ 40) (hv : Kd m 50 v) (D : En) :
    okS (exs (call fs 119) ((lbody.drop 4).take 1) [some fz, some k, some (.loc b), o3, some v, o5, o6, o7, o8, o9, o10, o11] S)
      { nx := fun e S' => e = [some fz, some k, some (.loc b), o3, some v, o5, o6, o7, o8, o9, o10, o11], rt := D.rt } := by
  simp only [f25, lbody, List.take, List.drop]
  trivial
  rw [okR_det (KB.told (kd_tree hv) 119 (by omega) S)]
  try trivial
  simp only [Bool.not_true, Bool.false_eq_true, if_false]
  refine okR_mono (spoilt_ok b 50 v hv j 66 S hb (by omega)) fun u S1 ⟨hx, hb1, ht⟩ => ?_
  try trivial
  rw [okR_det (KB.told ht 119 (by omega) S1)]
  try trivial
  simp only [Bool.not_true, Bool.false_eq_true, if_false]
  refine okR_mono (kbad_ok hv b _ 116 S1 hb1 (by omega)) fun u S2 ⟨hf, hb2, ht2⟩ => ?_
  try trivial
  rw [okR_det (KB.told ht2 119 (by omega) S2)]
  try trivial
  simp only [Bool.not_true, Bool.false_eq_true, if_false]
/-- .. its open names, its size -/
theorem tail_ok (fz : PV) (k b v : PV) (m : Int) (o3 o5 o6 o7 o8 o9 o10 o11 : Option PV) (S : Store) (hv : Kd m 50 v) (hs : Ks 1000 v) (D : En) :
    okS (exs (call fs 119) (lbody.drop 5) [some fz, some k, some b, o3, some v, o5, o6, o7, o8, o9, o10, o11] S)
      { nx := fun e S' => EnvL fz e, rt := D.rt } := by
  simp only [f25, lbody, List.take, List.drop]
  trivial
  have hsz : ksize 50 v ≤ 1000 := hs 50
  rw [okR_det (opens_ok (T := fs) (iw := 3) (io := 6) rfl rfl 49 68 S v hv (by have := hs (49 + 1); omega))]
  try trivial
  refine okR_mono (lopens_ok (T := fs) (il := 15) (io := 22) rfl rfl 49 68 S v hv (by have := hs (49 + 1); omega)) fun u S1 ⟨l, n, e1, e2, hn, hg⟩ => ?_
  subst e2
  generalize hxs : kop 50 v = xs at hg ⊢
  try trivial
  rw [enum_loc hg]
  try trivial
  have hgr : grdOk [(n, PO.lst (xs.map PV.int))] S1 = true := by
    unfold grdOk
    rw [List.all_cons, hg]
    simp
  refine compL_ok (fun (i : Nat) (a : List PV) (S' : Store) => S' = S1 ∧ a = (once (xs.take i)).map PV.int) ⟨rfl, rfl⟩ (fun _ _ _ _ h => by rw [h.1]; exact hgr) ?_ ?_
  · rintro i x a S' hx ⟨rfl, rfl⟩
    rw [enumP_get, List.getElem?_map] at hx
    obtain ⟨y, hy, rfl⟩ := map_some hx
    obtain ⟨z, hz, rfl⟩ := map_some hy
    have hi : i < xs.length := (List.getElem?_eq_some_iff.mp hz).1
    try trivial
    rw [sl_loc hg (by rw [List.length_map]; omega)]
    try trivial
    rw [← List.map_take, show cmpV .NotIn S' (.int z) (.lv ((xs.take i).map PV.int)) = (inD S' (.int z) ((xs.take i).map PV.int)).map (!·) from rfl, inD_ints]
    try trivial
    rw [once_take xs i z hz]
    by_cases hm : z ∈ xs.take i
    · rw [decide_eq_true hm, if_pos hm]
      exact ⟨by first | exact rfl | exact True.intro, by first | exact rfl | exact True.intro⟩
    · rw [decide_eq_false hm, if_neg hm]
      simp only [Bool.not_false, if_true, okR_ok, List.map_append, List.map_cons, List.map_nil]
      exact ⟨by first | exact rfl | exact True.intro, by first | exact rfl | exact True.intro⟩
  · rintro a S' ⟨rfl, rfl⟩
    rw [enumP_length, List.length_map, List.take_length]
    try trivial
    rw [show tyName S' (.tup ((once xs).map PV.int)) = some "tuple" from rfl]
    try trivial
    rw [show (["tuple"].any (isT "tuple")) = true by decide]
    simp only [Bool.not_true, Bool.false_eq_true, if_false]
    rw [ne_ints]
    try trivial
    rw [okR_det (parts_ok (T := fs) (iw := 3) (ip := 5) rfl rfl 49 68 S' v hv)]
    try trivial
    rw [okR_det (lsize_ok (T := fs) (il := 15) (ip := 23) rfl rfl 49 68 S' v hv)]
    try trivial
    simp only [decide_true, Bool.not_true, Bool.false_eq_true, if_false]
    exact ⟨_, _, _, _, _, _, _, _, _, _, _, rfl⟩
theorem exs_app {cf : Nat → List PV → Store → R PV} : ∀ (a b : List Sm) (e : Env) (S : Store), exs cf (a ++ b) e S = (exs cf a e S).then fun e S => exs cf b e S
  | [], b, e, S => rfl
  | s :: a, b, e, S => by
    rw [List.cons_append, exs, exs]
    cases ex cf s e S with
    | nx e1 S1 => rw [SR.then_nx, SR.then_nx]; exact exs_app a b e1 S1
    | _ => rfl
theorem law_true : ∀ ns : List Int, ns.length ≤ 63 → ∃ S, call fs 120 25 [.fz (ns.map PV.int)] [] = .ok (.bl true) S := by
  intro ns hn
  have : okR (call fs (119 + 1) 25 [.fz (ns.map PV.int)] []) fun v _ => v = .bl true := by
    refine okR_call (F := f25) rfl rfl ?_
    rw [show f25.body = [.forS (.n 1) .rng1 [(.blt .max2 [(.c (.int 3)), (.blt .min2 [(.c (.int 30)), (.blt .len [(.v 0)])])])] lbody, (.ret (.cmp .Is (.fn 4 [(.tup [(.c (.str (PF.S "num")))])]) (.c (.bl true))))] from rfl]
    rw [show f25.nN = 12 from rfl, show f25.frz = false from rfl]
    trivial
    rw [List.length_map]
    have hm : ∃ j : Int, (if (if (ns.length : Int) < 30 then (ns.length : Int) else 30) > 3 then (if (ns.length : Int) < 30 then (ns.length : Int) else 30) else 3) = j ∧ 0 ≤ j ∧ j ≤ 40 := ⟨_, rfl, by split <;> split <;> omega, by split <;> split <;> omega⟩
    obtain ⟨j, e, j0, j1⟩ := hm
    rw [e, iter_rng j0 (by omega)]
    try trivial
    refine forL_ok (fun (i : Nat) (e : Env) (_ : Store) => EnvL (.fz (ns.map PV.int)) e) ⟨_, _, _, _, _, _, _, _, _, _, _, rfl⟩ (fun _ _ _ _ _ => rfl) ?_ ?_
    · rintro i x e S hx ⟨o1, o2, o3, o4, o5, o6, o7, o8, o9, o10, o11, rfl⟩
      obtain ⟨rfl, hi⟩ := intRow_at hx
      try trivial
      rw [show lbody = lbody.take 4 ++ ((lbody.drop 4).take 1 ++ lbody.drop 5) from rfl, exs_app, okS_then]
      refine okS_mono (head_ok ns (0 + (i : Int)) (by omega) (by omega) o2 o3 o4 o5 o6 o7 o8 o9 o10 o11 S ⟨fun _ _ => False, fun _ _ => False, fun _ _ => False, fun _ _ => False⟩) ?_ (fun _ _ z => z.elim) (fun _ _ z => z.elim) (fun _ _ z => z.elim)
      rintro e S1 ⟨b, j', v, m, o3, o8, o9, rfl, hb, hj, hkd, hks⟩
      dsimp only
      rw [exs_app, okS_then]
      refine okS_mono (mid_ok _ _ b j' v m o3 o5 o6 o7 o8 o9 o10 o11 S1 hb hj hkd ⟨fun _ _ => False, fun _ _ => False, fun _ _ => False, fun _ _ => False⟩) ?_ (fun _ _ z => z.elim) (fun _ _ z => z.elim) (fun _ _ z => z.elim)
      rintro e S2 rfl
      dsimp only
      refine okS_mono (tail_ok _ _ _ v m o3 o5 o6 o7 o8 o9 o10 o11 S2 hkd hks ⟨fun _ _ => False, fun _ _ => False, fun _ _ => False, fun _ _ => False⟩) ?_ (fun _ _ z => z.elim) (fun _ _ z => z.elim) (fun _ _ z => z.elim)
      intro e S3 h
      exact h
    · rintro e S ⟨o1, o2, o3, o4, o5, o6, o7, o8, o9, o10, o11, rfl⟩
      try trivial
      have := ik_rest (n := 0) (t := PF.S "num") (r := []) p1_num (fun x hx => by cases hx) (fun _ => true) (fun x hx => by cases hx) (by decide +kernel) (by decide +kernel) 115 S
      rw [okR_det this]
      have e1 : (decide (((([] : List PV).length + 1 : Nat) : Int) = manyOf (PF.S "num")) && ([] : List PV).all fun _ => true) = true := by decide +kernel
      rw [e1]
      try trivial
      rw [show cmpV .Is S (.bl true) (.bl true) = some true from rfl]
      try trivial
      exact done_ok rfl fun _ => rfl
  obtain ⟨v, S, h1, h2⟩ := okR_eq this
  exact ⟨S, by rw [h1, h2]⟩
end
end L2.PF.KB

open PySem PySem.W PyProof.Rows
set_option maxHeartbeats 0 in
theorem PySem.Challenge.cw_kindbooks_k11_kinds_of_any_thing_holds : PySem.Challenge.rw_kindbooks_k11_kinds_of_any_thing.Holds :=
  by
  w_on; o_law; k_head; (case hw => w_witness2)
  k_fill
  refine L2.PF.law_end (l := PySem.Challenge.rw_kindbooks_k11_kinds_of_any_thing) (n := 63) (k := 120) (f := 25) (x := L2.PF.S "_law_script") (B := L2.PF.KB.tb) (T := L2.PF.KB.fs) L2.PF.XR0 rfl (by decide) rfl ⟨rfl, by decide, by decide⟩ (fun w h Y => PySem.W.kIn_of Y) ?pfM L2.PF.KB.law_true
  intro w mg h KX G
  refine ⟨⟨?pfF, ?pfV, ?pfU⟩, ?pfL⟩
  case pfF =>
    refine L2.PF.fns_cons (L2.PF.defAt_mk (st := L2.PF.KB.topS 3) KX G (by k_is) (by k_is) (by k_is) (by k_is) L2.PF.KB.s0 L2.PF.KB.t0 rfl rfl (fun _ _ _ _ _ _ us hl => match us, hl with | [_], _ => rfl)) ?_
    refine L2.PF.fns_cons (L2.PF.defAt_mk (st := L2.PF.KB.topS 4) KX G (by k_is) (by k_is) (by k_is) (by k_is) L2.PF.KB.s1 L2.PF.KB.t1 rfl rfl (fun _ _ _ _ _ _ us hl => match us, hl with | [_], _ => rfl)) ?_
    refine L2.PF.fns_cons (L2.PF.defAt_mk (st := L2.PF.KB.topS 5) KX G (by k_is) (by k_is) (by k_is) (by k_is) L2.PF.KB.s2 L2.PF.KB.t2 rfl rfl (fun _ _ _ _ _ _ us hl => match us, hl with | [_], _ => rfl)) ?_
    refine L2.PF.fns_cons (L2.PF.defAt_mk (st := L2.PF.KB.topS 6) KX G (by k_is) (by k_is) (by k_is) (by k_is) L2.PF.KB.s3 L2.PF.KB.t3 rfl rfl (fun _ _ _ _ _ _ us hl => match us, hl with | [_], _ => rfl)) ?_
    refine L2.PF.fns_cons (L2.PF.defAt_mk (st := L2.PF.KB.topS 7) KX G (by k_is) (by k_is) (by k_is) (by k_is) L2.PF.KB.s4 L2.PF.KB.t4 rfl rfl (fun _ _ _ _ _ _ us hl => match us, hl with | [_], _ => rfl)) ?_
    refine L2.PF.fns_cons (L2.PF.defAt_mk (st := L2.PF.KB.topS 8) KX G (by k_is) (by k_is) (by k_is) (by k_is) L2.PF.KB.s5 L2.PF.KB.t5 rfl rfl (fun _ _ _ _ _ _ us hl => match us, hl with | [_], _ => rfl)) ?_
    refine L2.PF.fns_cons (L2.PF.defAt_mk (st := L2.PF.KB.topS 9) KX G (by k_is) (by k_is) (by k_is) (by k_is) L2.PF.KB.s6 L2.PF.KB.t6 rfl rfl (fun _ _ _ _ _ _ us hl => match us, hl with | [_], _ => rfl)) ?_
    refine L2.PF.fns_cons (L2.PF.defAt_mk (st := L2.PF.KB.topS 11) KX G (by k_is) (by k_is) (by k_is) (by k_is) L2.PF.KB.s7 L2.PF.KB.t7 rfl rfl (fun _ _ _ _ _ _ us hl => match us, hl with | [_, _], _ => rfl)) ?_
    refine L2.PF.fns_cons (L2.PF.defAt_mk (st := L2.PF.KB.topS 12) KX G (by k_is) (by k_is) (by k_is) (by k_is) L2.PF.KB.s8 L2.PF.KB.t8 rfl rfl (fun _ _ _ _ _ _ us hl => match us, hl with | [_, _], _ => rfl)) ?_
    refine L2.PF.fns_cons (L2.PF.defAt_mk (st := L2.PF.KB.topS 13) KX G (by k_is) (by k_is) (by k_is) (by k_is) L2.PF.KB.s9 L2.PF.KB.t9 rfl rfl (fun _ _ _ _ _ _ us hl => match us, hl with | [_, _], _ => rfl)) ?_
    refine L2.PF.fns_cons (L2.PF.defAt_mk (st := L2.PF.KB.topS 14) KX G (by k_is) (by k_is) (by k_is) (by k_is) L2.PF.KB.s10 L2.PF.KB.t10 rfl rfl (fun _ _ _ _ _ _ us hl => match us, hl with | [_, _], _ => rfl)) ?_
    refine L2.PF.fns_cons (L2.PF.defAt_mk (st := L2.PF.KB.topS 15) KX G (by k_is) (by k_is) (by k_is) (by k_is) L2.PF.KB.s11 L2.PF.KB.t11 rfl rfl (fun _ _ _ _ _ _ us hl => match us, hl with | [_], _ => rfl)) ?_
    refine L2.PF.fns_cons (L2.PF.defAt_mk (st := L2.PF.KB.topS 16) KX G (by k_is) (by k_is) (by k_is) (by k_is) L2.PF.KB.s12 L2.PF.KB.t12 rfl rfl (fun _ _ _ _ _ _ us hl => match us, hl with | [_], _ => rfl)) ?_
    refine L2.PF.fns_cons (L2.PF.defAt_mk (st := L2.PF.KB.topS 17) KX G (by k_is) (by k_is) (by k_is) (by k_is) L2.PF.KB.s13 L2.PF.KB.t13 rfl rfl (fun _ _ _ _ _ _ us hl => match us, hl with | [_, _, _, _], _ => rfl)) ?_
    refine L2.PF.fns_cons (L2.PF.defAt_mk (st := L2.PF.KB.topS 18) KX G (by k_is) (by k_is) (by k_is) (by k_is) L2.PF.KB.s14 L2.PF.KB.t14 rfl rfl (fun _ _ _ _ _ _ us hl => match us, hl with | [_, _, _], _ => rfl)) ?_
    refine L2.PF.fns_cons (L2.PF.defAt_mk (st := L2.PF.KB.topS 19) KX G (by k_is) (by k_is) (by k_is) (by k_is) L2.PF.KB.s15 L2.PF.KB.t15 rfl rfl (fun _ _ _ _ _ _ us hl => match us, hl with | [_], _ => rfl)) ?_
    refine L2.PF.fns_cons (L2.PF.defAt_mk (st := L2.PF.KB.topS 20) KX G (by k_is) (by k_is) (by k_is) (by k_is) L2.PF.KB.s16 L2.PF.KB.t16 rfl rfl (fun _ _ _ _ _ _ us hl => match us, hl with | [_, _], _ => rfl)) ?_
    refine L2.PF.fns_cons (L2.PF.defAt_mk (st := L2.PF.KB.topS 21) KX G (by k_is) (by k_is) (by k_is) (by k_is) L2.PF.KB.s17 L2.PF.KB.t17 rfl rfl (fun _ _ _ _ _ _ us hl => match us, hl with | [_, _], _ => rfl)) ?_
    refine L2.PF.fns_cons (L2.PF.defAt_mk (st := L2.PF.KB.topS 22) KX G (by k_is) (by k_is) (by k_is) (by k_is) L2.PF.KB.s18 L2.PF.KB.t18 rfl rfl (fun _ _ _ _ _ _ us hl => match us, hl with | [_, _], _ => rfl)) ?_
    refine L2.PF.fns_cons (L2.PF.defAt_mk (st := L2.PF.KB.topS 23) KX G (by k_is) (by k_is) (by k_is) (by k_is) L2.PF.KB.s19 L2.PF.KB.t19 rfl rfl (fun _ _ _ _ _ _ us hl => match us, hl with | [_], _ => rfl)) ?_
    refine L2.PF.fns_cons (L2.PF.defAt_mk (st := L2.PF.KB.topS 24) KX G (by k_is) (by k_is) (by k_is) (by k_is) L2.PF.KB.s20 L2.PF.KB.t20 rfl rfl (fun _ _ _ _ _ _ us hl => match us, hl with | [_], _ => rfl)) ?_
    refine L2.PF.fns_cons (L2.PF.defAt_mk (st := L2.PF.KB.topS 25) KX G (by k_is) (by k_is) (by k_is) (by k_is) L2.PF.KB.s21 L2.PF.KB.t21 rfl rfl (fun _ _ _ _ _ _ us hl => match us, hl with | [_], _ => rfl)) ?_
    refine L2.PF.fns_cons (L2.PF.defAt_mk (st := L2.PF.KB.topS 26) KX G (by k_is) (by k_is) (by k_is) (by k_is) L2.PF.KB.s22 L2.PF.KB.t22 rfl rfl (fun _ _ _ _ _ _ us hl => match us, hl with | [_], _ => rfl)) ?_
    refine L2.PF.fns_cons (L2.PF.defAt_mk (st := L2.PF.KB.topS 27) KX G (by k_is) (by k_is) (by k_is) (by k_is) L2.PF.KB.s23 L2.PF.KB.t23 rfl rfl (fun _ _ _ _ _ _ us hl => match us, hl with | [_], _ => rfl)) ?_
    refine L2.PF.fns_cons (L2.PF.defAt_mk (st := L2.PF.KB.topS 28) KX G (by k_is) (by k_is) (by k_is) (by k_is) L2.PF.KB.s24 L2.PF.KB.t24 rfl rfl (fun _ _ _ _ _ _ us hl => match us, hl with | [_], _ => rfl)) ?_
    refine L2.PF.fns_cons (L2.PF.defAt_mk (st := L2.PF.KB.topS 29) KX G (by k_is) (by k_is) (by k_is) (by k_is) L2.PF.KB.s25 L2.PF.KB.t25 rfl rfl (fun _ _ _ _ _ _ us hl => match us, hl with | [_], _ => rfl)) ?_
    exact L2.PF.fns_nil
  case pfV =>
    refine L2.PF.gls_cons (L2.PF.gl_str KX G (by k_is) (by decide +kernel)) ?_
    refine L2.PF.gls_cons (L2.PF.gl_int KX G (by k_is)) ?_
    exact L2.PF.gls_nil
  case pfU =>
    refine L2.PF.bls_cons (PySem.W.mg_none_of KX G (by k_is)) ?_
    refine L2.PF.bls_cons (PySem.W.mg_none_of KX G (by k_is)) ?_
    refine L2.PF.bls_cons (PySem.W.mg_none_of KX G (by k_is)) ?_
    refine L2.PF.bls_cons (PySem.W.mg_none_of KX G (by k_is)) ?_
    refine L2.PF.bls_cons (PySem.W.mg_none_of KX G (by k_is)) ?_
    refine L2.PF.bls_cons (PySem.W.mg_none_of KX G (by k_is)) ?_
    refine L2.PF.bls_cons (PySem.W.mg_none_of KX G (by k_is)) ?_
    refine L2.PF.bls_cons (PySem.W.mg_none_of KX G (by k_is)) ?_
    refine L2.PF.bls_cons (PySem.W.mg_none_of KX G (by k_is)) ?_
    refine L2.PF.bls_cons (PySem.W.mg_none_of KX G (by k_is)) ?_
    refine L2.PF.bls_cons (PySem.W.mg_none_of KX G (by k_is)) ?_
    refine L2.PF.bls_cons (PySem.W.mg_none_of KX G (by k_is)) ?_
    exact L2.PF.bls_nil
  case pfL =>
    exact L2.PF.lawAt_mk (st := L2.PF.KB.topS 29) KX G (by k_is) (by k_is) (by k_is) (by k_is) L2.PF.KB.s25 L2.PF.KB.t25 rfl (fun _ _ _ _ _ _ _ => rfl)

