import PyProof.Rows.All
import Wide.All
import OpenK.AllK
import Wide.FinOn
import HandS.ForMost
import HandS.Wide
import HandS.Deep
import HandS.TupAny
import HandS.IsInst
import HandS.TupLe
import HandS.TupMul
import HandS.Finally
import HandS.SortInts
import HandS.SetKeys
import HandS.More
import HandS.Flow
import HandS.Exc
import HandS.ExcOwn
import HandS.CallSlots
import HandS.Zip
import KE.GoesMore
import HandS.Small
import HandS.WordsExc
import PySem.Challenge.RW_kindbooks_k13_whole_kinds_matched
set_option Elab.async false
set_option linter.all false
set_option maxRecDepth 100000
set_option maxHeartbeats 4000000
/-! PFA: a small functional language for the defs of a program: values, stores, what a part comes to. -/
namespace L2.PF
open PySem PySem.Spec PyProof.Rows

/-- a value: tuples and lists that nobody changes are values themselves; what is changed lies in the store -/
inductive PV where
  | non
  | bl (b : Bool)
  | int (i : Int)
  | str (x : Str)
  | tup (xs : List PV)
  | lv (xs : List PV)
  | loc (n : Nat)
  /-- the script: a list that stands as it is -/
  | fz (xs : List PV)
  /-- a dict that nobody changes any more: its keys, its values -/
  | dv (ks : List Key) (xs : List PV)
  /-- an instance that nobody changes any more: its class's name, its fields -/
  | iv (c : Str) (ns : List Str) (xs : List PV)
  deriving Inhabited

mutual
def PV.beq : PV → PV → Bool
  | .non, .non => true
  | .bl a, .bl b => decide (a = b)
  | .int a, .int b => decide (a = b)
  | .str a, .str b => decide (a = b)
  | .tup xs, .tup ys => PV.beqs xs ys
  | .lv xs, .lv ys => PV.beqs xs ys
  | .loc a, .loc b => decide (a = b)
  | .fz xs, .fz ys => PV.beqs xs ys
  | .dv ks xs, .dv ls ys => decide (ks = ls) && PV.beqs xs ys
  | .iv c ns xs, .iv d ms ys => decide (c = d) && (decide (ns = ms) && PV.beqs xs ys)
  | _, _ => false
def PV.beqs : List PV → List PV → Bool
  | [], [] => true
  | x :: xs, y :: ys => PV.beq x y && PV.beqs xs ys
  | _, _ => false
end
mutual
theorem PV.eq_of : ∀ (x y : PV), PV.beq x y = true → x = y
  | .non, y, h => by cases y <;> simp [PV.beq] at h <;> rfl
  | .bl a, y, h => by cases y <;> simp [PV.beq] at h; rw [h]
  | .int a, y, h => by cases y <;> simp [PV.beq] at h; rw [h]
  | .str a, y, h => by cases y <;> simp [PV.beq] at h; rw [h]
  | .tup xs, y, h => by
    cases y <;> simp [PV.beq] at h
    rw [PV.eqs_of _ _ h]
  | .lv xs, y, h => by
    cases y <;> simp [PV.beq] at h
    rw [PV.eqs_of _ _ h]
  | .loc a, y, h => by cases y <;> simp [PV.beq] at h; rw [h]
  | .fz xs, y, h => by
    cases y <;> simp [PV.beq] at h
    rw [PV.eqs_of _ _ h]
  | .dv ks xs, y, h => by
    cases y <;> simp [PV.beq] at h
    rw [h.1, PV.eqs_of _ _ h.2]
  | .iv c ns xs, y, h => by
    cases y <;> simp [PV.beq] at h
    rw [h.1, h.2.1, PV.eqs_of _ _ h.2.2]
theorem PV.eqs_of : ∀ (x y : List PV), PV.beqs x y = true → x = y
  | [], y, h => by cases y <;> simp [PV.beqs] at h <;> rfl
  | x :: xs, y, h => by
    cases y with
    | nil => simp [PV.beqs] at h
    | cons y ys =>
      simp only [PV.beqs, Bool.and_eq_true] at h
      rw [PV.eq_of _ _ h.1, PV.eqs_of _ _ h.2]
end
mutual
theorem PV.beq_self : ∀ x : PV, PV.beq x x = true
  | .non => rfl
  | .bl _ => by simp [PV.beq]
  | .int _ => by simp [PV.beq]
  | .str _ => by simp [PV.beq]
  | .tup xs => by rw [PV.beq]; exact PV.beqs_self xs
  | .lv xs => by rw [PV.beq]; exact PV.beqs_self xs
  | .loc _ => by simp [PV.beq]
  | .fz xs => by rw [PV.beq]; exact PV.beqs_self xs
  | .dv ks xs => by rw [PV.beq, PV.beqs_self xs]; simp
  | .iv c ns xs => by rw [PV.beq, PV.beqs_self xs]; simp
theorem PV.beqs_self : ∀ x : List PV, PV.beqs x x = true
  | [] => rfl
  | x :: xs => by rw [PV.beqs, PV.beq_self x, PV.beqs_self xs]; rfl
end
instance : DecidableEq PV := fun x y => if h : PV.beq x y = true then isTrue (PV.eq_of x y h) else isFalse (fun e => h (e ▸ PV.beq_self x))

/-- an object of the store -/
inductive PO where
  | lst (xs : List PV)
  | dic (kvs : List (Key × PV))
  | ins (c : Str) (fs : List (Str × PV))
  deriving DecidableEq, Inhabited
abbrev Store := List PO
abbrev Env := List (Option PV)

/-- what a part comes to -/
inductive R (α : Type) where
  | ok (a : α) (S : Store)
  | exc (c : Str) (fs : List (Str × PV)) (S : Store)
  | bad
  deriving Inhabited
/-- what a statement comes to -/
inductive SR where
  | nx (e : Env) (S : Store)
  | rt (v : PV) (S : Store)
  | bk (e : Env) (S : Store)
  | ct (e : Env) (S : Store)
  | exc (c : Str) (fs : List (Str × PV)) (e : Env) (S : Store)
  | bad
  deriving Inhabited

def R.bind {α β : Type} (r : R α) (f : α → Store → R β) : R β :=
  match r with
  | .ok a S => f a S
  | .exc c fs S => .exc c fs S
  | .bad => .bad
@[simp] theorem R.bind_ok {α β : Type} {a : α} {S : Store} {f : α → Store → R β} : (R.ok a S).bind f = f a S := rfl
@[simp] theorem R.bind_exc {α β : Type} {c fs} {S : Store} {f : α → Store → R β} : (R.exc c fs S : R α).bind f = .exc c fs S := rfl
@[simp] theorem R.bind_bad {α β : Type} {f : α → Store → R β} : (R.bad : R α).bind f = .bad := rfl
def R.toS {α : Type} (r : R α) (e : Env) (f : α → Store → SR) : SR :=
  match r with
  | .ok a S => f a S
  | .exc c fs S => .exc c fs e S
  | .bad => .bad
@[simp] theorem R.toS_ok {α : Type} {a : α} {S : Store} {e : Env} {f : α → Store → SR} : (R.ok a S).toS e f = f a S := rfl
@[simp] theorem R.toS_exc {α : Type} {c fs} {S : Store} {e : Env} {f : α → Store → SR} : (R.exc c fs S : R α).toS e f = .exc c fs e S := rfl
@[simp] theorem R.toS_bad {α : Type} {e : Env} {f : α → Store → SR} : (R.bad : R α).toS e f = .bad := rfl
def SR.then (r : SR) (f : Env → Store → SR) : SR :=
  match r with
  | .nx e S => f e S
  | r => r
@[simp] theorem SR.then_nx {e : Env} {S : Store} {f : Env → Store → SR} : (SR.nx e S).then f = f e S := rfl
@[simp] theorem SR.then_rt {v : PV} {S : Store} {f : Env → Store → SR} : (SR.rt v S).then f = .rt v S := rfl
@[simp] theorem SR.then_bk {e : Env} {S : Store} {f : Env → Store → SR} : (SR.bk e S).then f = .bk e S := rfl
@[simp] theorem SR.then_ct {e : Env} {S : Store} {f : Env → Store → SR} : (SR.ct e S).then f = .ct e S := rfl
@[simp] theorem SR.then_exc {c fs} {e : Env} {S : Store} {f : Env → Store → SR} : (SR.exc c fs e S).then f = .exc c fs e S := rfl
@[simp] theorem SR.then_bad {f : Env → Store → SR} : SR.bad.then f = .bad := rfl
def R.ofO {α : Type} (o : Option α) (S : Store) : R α := match o with | some a => .ok a S | none => .bad
@[simp] theorem R.ofO_some {α : Type} {a : α} {S : Store} : R.ofO (some a) S = .ok a S := rfl
@[simp] theorem R.ofO_none {α : Type} {S : Store} : R.ofO (none : Option α) S = .bad := rfl

/-! ### values -/
/-- the items of a list or tuple -/
def items (S : Store) : PV → Option (List PV)
  | .tup xs => some xs
  | .lv xs => some xs
  | .fz xs => some xs
  | .loc n => match S[n]? with
    | some (.lst xs) => some xs
    | _ => none
  | _ => none
/-- the items of a list -/
def litems (S : Store) : PV → Option (List PV)
  | .lv xs => some xs
  | .fz xs => some xs
  | .loc n => match S[n]? with
    | some (.lst xs) => some xs
    | _ => none
  | _ => none
/-- .. of a list that is not the script -/
def mitems (S : Store) : PV → Option (List PV)
  | .lv xs => some xs
  | .loc n => match S[n]? with
    | some (.lst xs) => some xs
    | _ => none
  | _ => none
def truth (S : Store) : PV → Option Bool
  | .non => some false
  | .bl b => some b
  | .int i => some (i != 0)
  | .str x => some ((x.length : Int) != 0)
  | .tup xs => some (!xs.isEmpty)
  | .lv xs => some (!xs.isEmpty)
  | .fz xs => some (!xs.isEmpty)
  | .dv ks xs => some (!(ks.zip xs).isEmpty)
  | .iv _ _ _ => none
  | .loc n => match S[n]? with
    | some (.lst xs) => some (!xs.isEmpty)
    | some (.dic kvs) => some (!kvs.isEmpty)
    | _ => none
/-- x in a list or tuple of plain values -/
def flatP : PV → Bool
  | .non => true
  | .bl _ => true
  | .int _ => true
  | .str _ => true
  | _ => false
def eqP : PV → PV → Bool
  | .non, .non => true
  | .bl a, .bl b => a == b
  | .bl a, .int b => (if a then 1 else 0) == b
  | .int a, .bl b => a == (if b then 1 else 0)
  | .int a, .int b => a == b
  | .str a, .str b => a == b
  | _, _ => false
def mapO {α β : Type} (f : α → Option β) : List α → Option (List β)
  | [] => some []
  | x :: xs => match f x with
    | none => none
    | some y => match mapO f xs with
      | none => none
      | some ys => some (y :: ys)
/-- a tuple's, a list's items -/
def seqK (S : Store) : PV → Option (Bool × List PV)
  | .tup xs => some (true, xs)
  | v => (litems S v).map fun xs => (false, xs)
/-- item by item -/
def eqL (f : PV → PV → Option Bool) : List PV → List PV → Option Bool
  | [], [] => some true
  | [], _ :: _ => some false
  | _ :: _, [] => some false
  | x :: xs, y :: ys => match f x y with
    | none => none
    | some a => match eqL f xs ys with
      | none => none
      | some b => some (a && b)
def eqS (f : PV → PV → Option Bool) (p q : Bool × List PV) : Option Bool :=
  if p.1 = q.1 then (if p.1 = false && decide (p.2.length ≠ q.2.length) then some false else eqL f p.2 q.2) else some false
/-- ==, k within one another at most -/
def eqG (S : Store) : Nat → PV → PV → Option Bool
  | 0, _, _ => none
  | k + 1, v, u => if flatP v then (if flatP u then some (eqP v u) else match seqK S u with | some _ => some false | none => none)
    else match seqK S v with
      | none => none
      | some p => if flatP u then some false else match seqK S u with
        | none => none
        | some q => eqS (eqG S k) p q
def eqD (S : Store) (v u : PV) : Option Bool := eqG S 170 v u
/-- x among these -/
def inD (S : Store) (x : PV) (xs : List PV) : Option Bool := (mapO (fun z => eqD S z x) xs).map fun bs => bs.any id
def keyOf : PV → Option Key
  | .int i => some (.inl i)
  | .str x => some (.inr x)
  | _ => none
def ofKey : Key → PV
  | .inl i => .int i
  | .inr x => .str x
def getK (kvs : List (Key × PV)) (k : Key) : Option PV := (kvs.find? fun kv => decide (kv.1 = k)).map (·.2)
/-- the pairs of a dict -/
def ditems (S : Store) : PV → Option (List (Key × PV))
  | .dv ks xs => some (ks.zip xs)
  | .loc n => match S[n]? with
    | some (.dic kvs) => some kvs
    | _ => none
  | _ => none
/-- a dict's pairs, looked for in another's -/
def eqH (f : PV → PV → Option Bool) (kb : List (Key × PV)) : List (Key × PV) → Option Bool
  | [] => some true
  | p :: r => match getK kb p.1 with
    | none => some false
    | some y => match f p.2 y with
      | none => none
      | some e => match eqH f kb r with
        | none => none
        | some b => some (e && b)
/-- == of all values; dicts at the top alone -/
def eqX (S : Store) (v u : PV) : Option Bool := match ditems S v with
  | some ka => match ditems S u with
    | some kb => if ka.length = kb.length then eqH (eqD S) kb ka else some false
    | none => eqD S v u
  | none => eqD S v u
/-- x in y -/
def isIn (S : Store) (x y : PV) : Option Bool :=
  match y with
  | .str z => match x with
    | .str s => some (!(Builtin.Str.occurrences z s 0 z.length 1).isEmpty)
    | _ => none
  | .loc n => match S[n]? with
    | some (.dic kvs) => match keyOf x with
      | some k => some (getK kvs k).isSome
      | none => none
    | _ => match items S y with
      | some xs => inD S x xs
      | none => none
  | .lv xs => inD S x xs
  | .tup xs => inD S x xs
  | .dv ks xs => match keyOf x with
    | some k => some (getK (ks.zip xs) k).isSome
    | none => none
  | _ => none
def cmpV (op : CmpOp) (S : Store) (x y : PV) : Option Bool :=
  match op with
  | .Eq => eqX S x y
  | .NotEq => (eqX S x y).map (!·)
  | .In => isIn S x y
  | .NotIn => (isIn S x y).map (!·)
  | .Is => match y with
    | .non => some (decide (x = .non))
    | .bl b => match x with | .bl a => some (decide (a = b)) | _ => none
    | _ => none
  | .IsNot => match y with
    | .non => some (!decide (x = .non))
    | .bl b => match x with | .bl a => some (!decide (a = b)) | _ => none
    | _ => none
  | .Lt => match x, y with
    | .int i, .int j => some (decide (i < j))
    | .str i, .str j => some (decide (i.cps.toList < j.cps.toList))
    | _, _ => none
  | .LtE => match x, y with
    | .int i, .int j => some (decide (i ≤ j))
    | .str i, .str j => some (!decide (j.cps.toList < i.cps.toList))
    | _, _ => none
  | .Gt => match x, y with
    | .int i, .int j => some (decide (j < i))
    | .str i, .str j => some (decide (j.cps.toList < i.cps.toList))
    | _, _ => none
  | .GtE => match x, y with
    | .int i, .int j => some (decide (j ≤ i))
    | .str i, .str j => some (!decide (i.cps.toList < j.cps.toList))
    | _, _ => none
/-- what an int's size may be where two are multiplied -/
def mulOk (i j : Int) : Bool := decide (i.natAbs.log2 + j.natAbs.log2 < 1000000)
def powOk (i j : Int) : Bool := decide (0 ≤ j ∧ j ≤ 1000000 ∧ i.natAbs < 2 ^ 64)
def divOk (j : Int) : Bool := decide (0 < j ∧ j.natAbs.log2 < 9000)
def okB (x : Str) : Bool := decide (x.length ≤ sizeLine) && PyData.strOk x
/-- a binary operator; m: a new list is laid in the store -/
def binV (op : Operator) (S : Store) (x y : PV) : Option PV :=
  match op with
  | .Add => match x, y with
    | .int i, .int j => some (.int (i + j))
    | .str i, .str j => if i.length + j.length ≤ sizeLine then some (.str (i ++ j)) else none
    | .tup xs, .tup ys => if xs.length + ys.length ≤ sizeLine then some (.tup (xs ++ ys)) else none
    | _, _ => match mitems S x, mitems S y with
      | some xs, some ys => if xs.length + ys.length ≤ sizeLine then some (.lv (xs ++ ys)) else none
      | _, _ => none
  | .Sub => match x, y with
    | .int i, .int j => some (.int (i - j))
    | _, _ => none
  | .Mult => match x, y with
    | .int i, .int j => if mulOk i j then some (.int (i * j)) else none
    | .str z, .int j => if decide (0 ≤ j ∧ j ≤ 1000000 ∧ z.length * j.toNat ≤ 1000000) && okB (Txt.mul z j) then some (.str (Txt.mul z j)) else none
    | .tup xs, .int j => if decide (0 ≤ j ∧ j ≤ 1000 ∧ xs.length ≤ 1000) then some (.tup (List.replicate j.toNat xs).flatten) else none
    | _, .int j => match mitems S x with
      | some xs => if decide (-(2 ^ 63) ≤ j ∧ j < 2 ^ 63 ∧ xs.length * j.toNat ≤ sizeLine) then some (.lv (List.replicate j.toNat xs).flatten) else none
      | none => none
    | _, _ => none
  | .FloorDiv => match x, y with
    | .int i, .int j => if divOk j then some (.int (i / j)) else none
    | _, _ => none
  | .Mod => match x, y with
    | .int i, .int j => if 0 < j then some (.int (i % j)) else none
    | _, _ => none
  | .Pow => match x, y with
    | .int i, .int j => if powOk i j then some (.int (i ^ j.toNat)) else none
    | _, _ => none
  | _ => none
def strAt (z : Str) (i : Int) : Option PV := match atI z.cps.toList i with | some c => some (.str ⟨#[c]⟩) | none => none
/-- x[y] -/
def ixV (S : Store) (x y : PV) : Option PV :=
  match x with
  | .str z => match y with | .int i => strAt z i | _ => none
  | .tup xs => match y with | .int i => atI xs i | _ => none
  | .lv xs => match y with | .int i => atI xs i | _ => none
  | .fz xs => match y with | .int i => atI xs i | _ => none
  | .dv ks xs => match keyOf y with | some k => getK (ks.zip xs) k | none => none
  | .loc n => match S[n]? with
    | some (.lst xs) => match y with | .int i => atI xs i | _ => none
    | some (.dic kvs) => match keyOf y with | some k => getK kvs k | none => none
    | _ => none
  | _ => none
def cutP (xs : List PV) (lo hi : Option Int) : List PV := (xs.drop (HT.sIx xs.length 0 lo)).take (HT.sIx xs.length xs.length hi - HT.sIx xs.length 0 lo)
def bound : PV → Option (Option Int)
  | .non => some none
  | .int i => some (some i)
  | _ => none
/-- x[lo:hi] -/
def slV (S : Store) (x : PV) (lo hi : Option Int) : Option PV :=
  match x with
  | .str z => some (.str (cutS z lo hi))
  | .tup xs => some (.tup (cutP xs lo hi))
  | _ => match litems S x with
    | some xs => some (.lv (cutP xs lo hi))
    | none => none
def lenV (S : Store) (x : PV) : Option Nat :=
  match x with
  | .str z => some z.length
  | .tup xs => some xs.length
  | .lv xs => some xs.length
  | .fz xs => some xs.length
  | .dv ks xs => some (ks.zip xs).length
  | .loc n => match S[n]? with
    | some (.lst xs) => some xs.length
    | some (.dic kvs) => some kvs.length
    | _ => none
  | _ => none
def intsOf : List PV → Option (List Int)
  | [] => some []
  | .int i :: r => match intsOf r with | some is => some (i :: is) | none => none
  | _ => none
def boolsOf : List PV → Option (List Bool)
  | [] => some []
  | .bl b :: r => match boolsOf r with | some is => some (b :: is) | none => none
  | _ => none
def strsOf : List PV → Option (List Str)
  | [] => some []
  | .str b :: r => match strsOf r with | some is => some (b :: is) | none => none
  | _ => none
/-- a type's name -/
def tyName (S : Store) : PV → Option String
  | .non => some "NoneType"
  | .bl _ => some "bool"
  | .int _ => some "int"
  | .str _ => some "str"
  | .tup _ => some "tuple"
  | .lv _ => some "list"
  | .fz _ => none
  | .dv _ _ => some "dict"
  | .iv _ _ _ => none
  | .loc n => match S[n]? with
    | some (.lst _) => some "list"
    | some (.dic _) => some "dict"
    | _ => none
def isT (t c : String) : Bool := t == c || (t == "bool" && c == "int")
/-- the built-in functions -/
inductive Blt where
  | len | int1 | tuple1 | list1 | list0 | list1m | list0m | dict1 | dict1m | max2 | min2 | all1 | any1 | sum1 | str1 | maxL | minL | sorted1
  deriving DecidableEq, Inhabited
def insI (i : Int) : List Int → List Int
  | [] => [i]
  | j :: r => if i ≤ j then i :: j :: r else j :: insI i r
def sortI : List Int → List Int
  | [] => []
  | i :: r => insI i (sortI r)
def keyInts : List Key → Option (List Int)
  | [] => some []
  | .inl i :: r => match keyInts r with | some is => some (i :: is) | none => none
  | .inr _ :: _ => none
/-- sorted: ints of a list or tuple, the int keys of a dict -/
def sortV (S : Store) (x : PV) : Option (List Int) := match ditems S x with
  | some kvs => match keyInts (kvs.map (·.1)) with
    | some is => if is.length < 64 then some (sortI is) else none
    | none => none
  | none => match items S x with
    | some xs => (intsOf xs).map sortI
    | none => none
def bltV (b : Blt) (S : Store) (vs : List PV) : Option PV :=
  match b, vs with
  | .sorted1, [x] => (sortV S x).map fun is => .lv (is.map .int)
  | .len, [x] => (lenV S x).map fun (n : Nat) => PV.int n
  | .int1, [.int i] => some (.int i)
  | .int1, [.bl k] => some (.int (if k then 1 else 0))
  | .tuple1, [x] => (items S x).map .tup
  | .list1, [x] => (items S x).map .lv
  | .list0, [] => some (.lv [])
  | .max2, [.int i, .int j] => some (.int (if j > i then j else i))
  | .min2, [.int i, .int j] => some (.int (if j < i then j else i))
  | .all1, [x] => match litems S x with
    | some xs => (boolsOf xs).map fun bs => .bl (bs.all id)
    | none => none
  | .any1, [x] => match litems S x with
    | some xs => (boolsOf xs).map fun bs => .bl (bs.any id)
    | none => none
  | .sum1, [x] => match litems S x with
    | some xs => (intsOf xs).map fun is => .int is.sum
    | none => none
  | .str1, [.int i] => if decide (i.natAbs.log2 < 1920) && okB (Str.ofString (toString i)) then some (.str (Str.ofString (toString i))) else none
  | _, _ => none
/-- the methods -/
inductive Mth where
  | append | extend | pop0 | pop1 | get1 | get2 | join | partition | clearL | clearD | count | split | setdef
  deriving DecidableEq, Inhabited
def mthT : Mth → String
  | .append => "list"
  | .extend => "list"
  | .pop0 => "list"
  | .pop1 => "list"
  | .get1 => "dict"
  | .get2 => "dict"
  | .join => "str"
  | .partition => "str"
  | .clearL => "list"
  | .clearD => "dict"
  | .count => "str"
  | .split => "str"
  | .setdef => "dict"
/-- o is of the method's type -/
def mthIs (b : Mth) (S : Store) (o : PV) : Bool := tyName S o == some (mthT b)
def putP (kvs : List (Key × PV)) (k : Key) (v : PV) : List (Key × PV) :=
  if (kvs.any fun kv => decide (kv.1 = k)) = true then kvs.map (fun kv => if kv.1 = k then (kv.1, v) else kv) else kvs ++ [(k, v)]
def mthV (b : Mth) (S : Store) (o : PV) (vs : List PV) : R PV :=
  match b, o, vs with
  | .append, .loc n, [v] => match S[n]? with
    | some (.lst xs) => if xs.length < sizeLine then .ok .non (S.set n (.lst (xs ++ [v]))) else .bad
    | _ => .bad
  | .extend, .loc n, [v] => match S[n]?, mitems S v with
    | some (.lst xs), some ys => if xs.length + ys.length ≤ sizeLine then .ok .non (S.set n (.lst (xs ++ ys))) else .bad
    | _, _ => .bad
  | .pop0, .loc n, [] => match S[n]? with
    | some (.lst xs) => match xs[xs.length - 1]? with
      | some y => .ok y (S.set n (.lst xs.dropLast))
      | none => .bad
    | _ => .bad
  | .pop1, .loc n, [.int i] => match S[n]? with
    | some (.lst xs) => match ixN xs.length i with
      | some k => match xs[k]? with
        | some y => .ok y (S.set n (.lst (xs.eraseIdx k)))
        | none => .bad
      | none => .bad
    | _ => .bad
  | .get1, o, [k] => match ditems S o, keyOf k with
    | some kvs, some k => .ok ((getK kvs k).getD .non) S
    | _, _ => .bad
  | .get2, o, [k, d] => match ditems S o, keyOf k with
    | some kvs, some k => .ok ((getK kvs k).getD d) S
    | _, _ => .bad
  | .join, .str a, [x] => match litems S x with
    | some xs => match strsOf xs with
      | some ys => if (ys.map (·.length)).sum + ys.length * a.length ≤ 16777216 then .ok (.str (Txt.join a ys)) S else .bad
      | none => .bad
    | none => .bad
  | .partition, .str a, [.str b] => if !(b.length == 0) && okB (Txt.partition a b).1 && okB (Txt.partition a b).2.1 && okB (Txt.partition a b).2.2 then .ok (.tup [.str (Txt.partition a b).1, .str (Txt.partition a b).2.1, .str (Txt.partition a b).2.2]) S else .bad
  | .count, .str a, [.str b] => .ok (.int (Txt.count a b)) S
  | .split, .str a, [.str b] => if !(b.length == 0) && decide (a.length + 2 ≤ sizeLine) && (Txt.split a b).all okB && decide ((Txt.split a b).length ≤ sizeLine) then .ok (.lv ((Txt.split a b).map .str)) S else .bad
  | .setdef, .loc n, [k, d] => match S[n]? with
    | some (.dic kvs) => match keyOf k with
      | some k => if kvs.length < sizeLine then (match getK kvs k with
        | some v => .ok v S
        | none => .ok d (S.set n (.dic (putP kvs k d)))) else .bad
      | none => .bad
    | _ => .bad
  | .clearD, .loc n, [] => match S[n]? with
    | some (.dic _) => .ok .non (S.set n (.dic []))
    | _ => .bad
  | .clearL, .loc n, [] => match S[n]? with
    | some (.lst _) => .ok .non (S.set n (.lst []))
    | _ => .bad
  | _, _, _ => .bad

/-! ### what a for walks -/
inductive IK where
  | seq | rng1 | rng2 | enum | zip
  deriving DecidableEq, Inhabited
def intRow (lo : Int) (n : Nat) : List PV := (List.range n).map fun (i : Nat) => .int (lo + i)
def enumP (xs : List PV) : List PV := xs.mapIdx fun i x => .tup [.int (i : Int), x]
def zipP (xs ys : List PV) : List PV := List.zipWith (fun x y => .tup [x, y]) xs ys
/-- the lists of the store that must stay as they are while they are walked -/
abbrev Grd := List (Nat × PO)
def grd (S : Store) : PV → Grd
  | .loc n => match S[n]? with
    | some (.lst xs) => [(n, .lst xs)]
    | _ => []
  | _ => []
def grdOk (g : Grd) (S : Store) : Bool := g.all fun p => decide (S[p.1]? = some p.2)
def small (i : Int) : Bool := decide (-(2 ^ 62) ≤ i ∧ i < 2 ^ 62)
def iterV (k : IK) (S : Store) (vs : List PV) : Option (List PV × Grd) :=
  match k, vs with
  | .seq, [.str z] => some (z.cps.toList.map fun c => .str ⟨#[c]⟩, [])
  | .seq, [x] => (items S x).map fun xs => (xs, grd S x)
  | .rng1, [.int j] => if small j && decide (j.toNat ≤ sizeLine) then some (intRow 0 j.toNat, []) else none
  | .rng2, [.int i, .int j] => if small i && small j && decide ((j - i).toNat ≤ sizeLine) then some (intRow i (j - i).toNat, []) else none
  | .enum, [x] => (items S x).map fun xs => (enumP xs, grd S x)
  | .zip, [.tup xs, .tup ys] => some (zipP xs ys, [])
  | .zip, [x, y] => match litems S x, litems S y with
    | some xs, some ys => some (zipP xs ys, grd S x ++ grd S y)
    | _, _ => none
  | _, _ => none

/-! ### the language -/
/-- a target: a slot, or slots of a tuple -/
inductive Tg where
  | n (i : Nat)
  | t (is : List Nat)
  deriving DecidableEq, Inhabited
def putT : Tg → PV → Env → Option Env
  | .n i, v, e => some (e.set i (some v))
  | .t is, .tup xs, e => if is.length = xs.length then some ((is.zip xs).foldl (fun e p => e.set p.1 (some p.2)) e) else none
  | _, _, _ => none
inductive X where
  | c (v : PV)
  | v (i : Nat)
  | bin (op : Operator) (a b : X)
  | neg (a : X)
  | cmp (op : CmpOp) (a b : X)
  | chn (o1 o2 : CmpOp) (a b c : X)
  | and (a b : X)
  | or (a b : X)
  | not (a : X)
  | ite (c a b : X)
  | tup (xs : List X)
  /-- m: laid in the store -/
  | lst (m : Bool) (xs : List X)
  | dic (m : Bool) (kvs : List X)
  | ix (a b : X)
  | sl (a lo hi : X)
  /-- an int -/
  | num (a : X)
  | isi (a : X) (ts : List String)
  | fn (f : Nat) (xs : List X)
  | blt (b : Blt) (xs : List X)
  | mth (b : Mth) (o : X) (xs : List X)
  | comp (m : Bool) (elt : X) (own : List Nat) (tg : Tg) (k : IK) (its : List X) (ifs : List X)
  deriving Inhabited
def wipeE (e : Env) : List Nat → Env
  | [] => e
  | v :: vs => (wipeE e vs).set v none
/-- a comprehension's test, at most one -/
def ifsV (S : Store) : List PV → Option Bool
  | [] => some true
  | [v] => truth S v
  | _ => none
/-- the turns of a comprehension -/
def compL (g : Grd) (turn : PV → Store → R (Option PV)) : List PV → List PV → Store → R (List PV)
  | [], acc, S => if grdOk g S then .ok acc S else .bad
  | x :: r, acc, S => if grdOk g S then (match turn x S with
    | .ok (some y) S' => compL g turn r (acc ++ [y]) S'
    | .ok none S' => compL g turn r acc S'
    | _ => .bad) else .bad
/-- .. whose list is an object of the store, at l -/
def compM (g : Grd) (l : Nat) (turn : PV → Store → R (Option PV)) : List PV → Store → R PV
  | [], S => if grdOk g S then .ok (.loc l) S else .bad
  | x :: r, S => if grdOk g S then (match turn x S with
    | .ok (some y) S' => match S'[l]? with
      | some (.lst acc) => if acc.length < sizeLine then compM g l turn r (S'.set l (.lst (acc ++ [y]))) else .bad
      | _ => .bad
    | .ok none S' => compM g l turn r S'
    | _ => .bad) else .bad
/-- a fresh dict of these pairs, keys and values by turns -/
def dicOf : List PV → Option (List (Key × PV))
  | [] => some []
  | k :: v :: r => match keyOf k, dicOf r with
    | some k, some r => some ((k, v) :: r)
    | _, _ => none
  | _ => none
def mkDict (m : Bool) (kvs : List (Key × PV)) (S : Store) : R PV := if m then .ok (.loc S.length) (S ++ [.dic kvs]) else .ok (.dv (kvs.map (·.1)) (kvs.map (·.2))) S
def dicNew (m : Bool) (vs : List PV) (S : Store) : R PV :=
  match dicOf vs with
  | some kvs => if kvs.length ≤ 15 then mkDict m (kvs.foldl (fun d kv => putP d kv.1 kv.2) []) S else .bad
  | none => .bad
/-- no exception -/
def R.only {α : Type} : R α → R α
  | .ok a S => .ok a S
  | _ => .bad
def bltR (b : Blt) (S : Store) (vs : List PV) : R PV :=
  match b, vs with
  | .dict1, [x] => match ditems S x with
    | some kvs => mkDict false kvs S
    | none => .bad
  | .dict1m, [x] => match ditems S x with
    | some kvs => mkDict true kvs S
    | none => .bad
  | .list0m, [] => .ok (.loc S.length) (S ++ [.lst []])
  | .list1m, [x] => match items S x with
    | some xs => .ok (.loc S.length) (S ++ [.lst xs])
    | none => .bad
  | b, vs => R.ofO (bltV b S vs) S
def mkList (m : Bool) (vs : List PV) (S : Store) : R PV := if m then .ok (.loc S.length) (S ++ [.lst vs]) else .ok (.lv vs) S
def compR (m : Bool) (turn : PV → Store → R (Option PV)) (p : List PV × Grd) (S : Store) : R PV :=
  if m then compM p.2 S.length turn p.1 (S ++ [.lst []]) else (compL p.2 turn p.1 [] S).bind fun ys S => .ok (.lv ys) S

section
variable (cf : Nat → List PV → Store → R PV)
mutual
def ev : X → Env → Store → R PV
  | .c v, _, S => .ok v S
  | .v i, e, S => match e[i]? with
    | some (some v) => .ok v S
    | _ => .bad
  | .bin op a b, e, S => (ev a e S).bind fun x S => (ev b e S).bind fun y S => R.ofO (binV op S x y) S
  | .neg a, e, S => (ev a e S).bind fun x S => match x with | .int i => .ok (.int (-i)) S | _ => .bad
  | .cmp op a b, e, S => (ev a e S).bind fun x S => (ev b e S).bind fun y S => R.ofO ((cmpV op S x y).map .bl) S
  | .chn o1 o2 a b c, e, S => (ev a e S).bind fun x S => (ev b e S).bind fun y S => (R.ofO (cmpV o1 S x y) S).bind fun k S =>
    if k = true then (ev c e S).bind fun z S => R.ofO ((cmpV o2 S y z).map .bl) S else .ok (.bl false) S
  | .and a b, e, S => (ev a e S).bind fun x S => (R.ofO (truth S x) S).bind fun k S => if k = true then ev b e S else .ok x S
  | .or a b, e, S => (ev a e S).bind fun x S => (R.ofO (truth S x) S).bind fun k S => if k = true then .ok x S else ev b e S
  | .not a, e, S => (ev a e S).bind fun x S => (R.ofO (truth S x) S).bind fun k S => .ok (.bl (!k)) S
  | .ite c a b, e, S => (ev c e S).bind fun x S => (R.ofO (truth S x) S).bind fun k S => if k = true then ev a e S else ev b e S
  | .tup xs, e, S => (evs xs e S).bind fun vs S => if vs.length ≤ sizeLine then .ok (.tup vs) S else .bad
  | .lst m xs, e, S => (evs xs e S).bind fun vs S => if vs.length ≤ sizeLine then mkList m vs S else .bad
  | .dic m kvs, e, S => (evs kvs e S).only.bind fun vs S => dicNew m vs S
  | .ix a b, e, S => (ev a e S).bind fun x S => (ev b e S).bind fun y S => R.ofO (ixV S x y) S
  | .sl a lo hi, e, S => (ev a e S).bind fun x S => (ev lo e S).bind fun l S => (R.ofO (bound l) S).bind fun l S => (ev hi e S).bind fun h S => (R.ofO (bound h) S).bind fun h S => R.ofO (slV S x l h) S
  | .num a, e, S => (ev a e S).bind fun x S => match x with | .int i => .ok (.int i) S | _ => .bad
  | .isi a ts, e, S => (ev a e S).bind fun x S => (R.ofO (tyName S x) S).bind fun t S => .ok (.bl (ts.any (isT t))) S
  | .fn f xs, e, S => (evs xs e S).bind fun vs S => cf f vs S
  | .blt b xs, e, S => (evs xs e S).bind fun vs S => bltR b S vs
  | .mth b o xs, e, S => (ev o e S).bind fun o S => if mthIs b S o then (evs xs e S).bind fun vs S => mthV b S o vs else .bad
  | .comp m elt own tg k its ifs, e, S => (evs its e S).bind fun vs S => (R.ofO (iterV k S vs) S).bind fun p S =>
    compR m (fun x S => match putT tg x (wipeE e own) with
      | none => .bad
      | some e' => (evs ifs e' S).bind fun cs S => (R.ofO (ifsV S cs) S).bind fun k S => if k = true then (ev elt e' S).bind fun y S => .ok (some y) S else .ok none S) p S
def evs : List X → Env → Store → R (List PV)
  | [], _, S => .ok [] S
  | x :: xs, e, S => (ev x e S).bind fun v S => (evs xs e S).bind fun vs S => .ok (v :: vs) S
end
end

inductive Sm where
  | set (tg : Tg) (e : X)
  | par (i j : Nat) (a b : X)
  | setix (o k e : X)
  | aug (i : Nat) (op : Operator) (e : X)
  | ex (e : X)
  | ret (e : X)
  | ite (c : X) (a b : List Sm)
  | forS (tg : Tg) (k : IK) (its : List X) (b : List Sm)
  | whl (c : X) (b : List Sm)
  | pass
  | brk
  | cnt
  deriving Inhabited
/-- the turns of a for -/
def forL (g : Grd) (body : PV → Env → Store → SR) : List PV → Env → Store → SR
  | [], e, S => if grdOk g S then .nx e S else .bad
  | x :: r, e, S => if grdOk g S then (match body x e S with
    | .nx e' S' => forL g body r e' S'
    | .ct e' S' => forL g body r e' S'
    | .bk e' S' => .nx e' S'
    | r => r) else .bad
/-- the turns of a while, at most n -/
def whlL (test : Env → Store → R Bool) (body : Env → Store → SR) : Nat → Env → Store → SR
  | 0, _, _ => .bad
  | n + 1, e, S => (test e S).toS e fun k S => if k = true then (match body e S with
    | .nx e' S' => whlL test body n e' S'
    | .ct e' S' => whlL test body n e' S'
    | .bk e' S' => .nx e' S'
    | r => r) else .nx e S
def whlMost : Nat := 2 ^ 40
/-- o[k] = v -/
def setixV (S : Store) (o k v : PV) : Option Store :=
  match o with
  | .loc n => match S[n]? with
    | some (.lst xs) => match k with
      | .int i => match ixN xs.length i with
        | some j => some (S.set n (.lst (xs.set j v)))
        | none => none
      | _ => none
    | some (.dic kvs) => match keyOf k with
      | some k => if kvs.length < sizeLine then some (S.set n (.dic (putP kvs k v))) else none
      | none => none
    | _ => none
  | _ => none
/-- x op= y, of a slot: ints, texts, tuples -/
def augV (op : Operator) (S : Store) (x y : PV) : Option PV :=
  match op, x, y with
  | .Add, .int i, .int j => some (.int (i + j))
  | .Sub, .int i, .int j => some (.int (i - j))
  | _, _, _ => none
section
variable (cf : Nat → List PV → Store → R PV)
mutual
def ex : Sm → Env → Store → SR
  | .set tg a, e, S => (ev cf a e S).toS e fun v S => match putT tg v e with | some e' => .nx e' S | none => .bad
  | .par i j a b, e, S => (ev cf a e S).toS e fun v S => (ev cf b e S).toS e fun u S => .nx ((e.set i (some v)).set j (some u)) S
  | .setix o k a, e, S => (ev cf a e S).toS e fun v S => (ev cf o e S).toS e fun o S => (ev cf k e S).toS e fun k S => match setixV S o k v with | some S' => .nx e S' | none => .bad
  | .aug i op a, e, S => match e[i]? with
    | some (some x) => (ev cf a e S).toS e fun y S => match augV op S x y with | some z => .nx (e.set i (some z)) S | none => .bad
    | _ => .bad
  | .ex a, e, S => (ev cf a e S).toS e fun _ S => .nx e S
  | .ret a, e, S => (ev cf a e S).toS e fun v S => .rt v S
  | .ite c a b, e, S => (ev cf c e S).toS e fun v S => (R.ofO (truth S v) S).toS e fun k S => if k = true then exs a e S else exs b e S
  | .forS tg k its b, e, S => (evs cf its e S).toS e fun vs S => (R.ofO (iterV k S vs) S).toS e fun p S =>
    forL p.2 (fun x e S => match putT tg x e with | some e' => exs b e' S | none => .bad) p.1 e S
  | .whl c b, e, S => whlL (fun e S => (ev cf c e S).bind fun v S => R.ofO (truth S v) S) (fun e S => exs b e S) whlMost e S
  | .pass, e, S => .nx e S
  | .brk, e, S => .bk e S
  | .cnt, e, S => .ct e S
def exs : List Sm → Env → Store → SR
  | [], e, S => .nx e S
  | s :: r, e, S => (ex s e S).then fun e S => exs r e S
end
end

mutual
/-- no location from n on -/
def PV.und (n : Nat) : PV → Bool
  | .loc k => decide (k < n)
  | .tup xs => PV.undL n xs
  | .lv xs => PV.undL n xs
  | .fz xs => PV.undL n xs
  | .dv _ xs => PV.undL n xs
  | .iv _ _ xs => PV.undL n xs
  | _ => true
def PV.undL (n : Nat) : List PV → Bool
  | [] => true
  | x :: xs => PV.und n x && PV.undL n xs
end
def PO.und (n : Nat) : PO → Bool
  | .lst xs => PV.undL n xs
  | .dic kvs => PV.undL n (kvs.map (·.2))
  | .ins _ fs => PV.undL n (fs.map (·.2))
/-- behind a call: what it made and does not hand back is forgotten -/
def dropOk (S0 : Store) (v : PV) (S : Store) : Bool :=
  decide (S0.length ≤ S.length) && PV.und S0.length v && ((S.take S0.length).zip S0).all fun p => decide (p.1 = p.2) || PO.und S0.length p.1
def frzB (S : Store) (rec : PV → Option PV) : PV → Option PV
  | .loc n => match S[n]? with
    | some (.lst xs) => (mapO rec xs).map .lv
    | some (.dic kvs) => (mapO rec (kvs.map (·.2))).map (.dv (kvs.map (·.1)))
    | some (.ins c fs) => (mapO rec (fs.map (·.2))).map (.iv c (fs.map (·.1)))
    | none => none
  | .tup xs => (mapO rec xs).map .tup
  | .lv xs => (mapO rec xs).map .lv
  | .dv ks xs => (mapO rec xs).map (.dv ks)
  | .iv c ns xs => (mapO rec xs).map (.iv c ns)
  | _ => none
/-- a value with what was laid from n0 on as it is now, k within one another at most -/
def frz (n0 : Nat) (S : Store) : Nat → PV → Option PV
  | 0, _ => none
  | k + 1, v => if PV.und n0 v then some v else frzB S (frz n0 S k) v
/-- the old objects hold nothing new -/
def keepOk (S0 S : Store) : Bool := decide (S0.length ≤ S.length) && ((S.take S0.length).zip S0).all fun p => decide (p.1 = p.2) || PO.und S0.length p.1
/-- f: what is handed back nobody changes any more -/
def done (f : Bool) (S0 : Store) (v : PV) (S : Store) : R PV :=
  if f then (match frz S0.length S 9 v with
    | some u => if keepOk S0 S then .ok u (S.take S0.length) else .ok v S
    | none => .ok v S)
  else if dropOk S0 v S then .ok v (S.take S0.length) else .ok v S
def fin (f : Bool) (S0 : Store) : SR → R PV
  | .nx _ S => done f S0 .non S
  | .rt v S => done f S0 v S
  | .exc c fs _ S => .exc c fs S
  | _ => .bad
structure Fn where
  nN : Nat
  np : Nat
  body : List Sm
  frz : Bool := false
  deriving Inhabited
def startE (n : Nat) (vs : List PV) : Env := vs.map some ++ List.replicate (n - vs.length) none
/-- a call, at most d calls one in another -/
def call (T : List Fn) : Nat → Nat → List PV → Store → R PV
  | 0, _, _, _ => .bad
  | d + 1, f, vs, S => match T[f]? with
    | none => .bad
    | some F => if vs.length = F.np then fin F.frz S (exs (call T d) F.body (startE F.nN vs) S) else .bad
end L2.PF

set_option Elab.async false
set_option linter.all false
set_option maxRecDepth 100000
set_option maxHeartbeats 4000000
/-! PFB: how a value and a store of PFA lie in the abstract heap; what a part's promise is. -/
namespace L2.PF
open PySem PySem.Spec PyProof.Rows

/-- the addresses of the store's objects, and those that are set aside -/
structure Mp where
  locs : List Addr
  res : List Addr
def Mp.all (m : Mp) : List Addr := m.locs ++ m.res
instance : Membership Addr Mp := ⟨fun m a => a ∈ m.all⟩
theorem Mp.mem {m : Mp} {a : Addr} : a ∈ m ↔ a ∈ m.locs ∨ a ∈ m.res := by
  show a ∈ m.locs ++ m.res ↔ _
  exact List.mem_append
def Mp.add (m : Mp) (p : Addr) : Mp := ⟨m.locs ++ [p], m.res⟩
def Mp.rsv (m : Mp) (p : Addr) : Mp := ⟨m.locs, p :: m.res⟩
def StrOk (x : Str) : Prop := x.length ≤ sizeLine ∧ PyData.strOk x = true
/-- a tuple that the written part holds -/
def KTup (K : PySem.W.Frag) (a : Addr) (xs : List V) : Prop :=
  ∃ (o : Obj) (its : Array Value) (n : Nat), K.lookup a = some o ∧ o.cls = .type "tuple" ∧ o.data = .seq its n ∧ its.size ≤ sizeLine ∧ Vals xs its.toList
def TupAt (K : PySem.W.Frag) (m : Mp) (H : Hp) (a : Addr) (vs : List V) : Prop := (a ∉ m ∧ H a = some (.tup vs)) ∨ KTup K a vs
/-- a list that the written part holds -/
def KLst (K : PySem.W.Frag) (a : Addr) (xs : List V) : Prop :=
  ∃ (o : Obj) (its : Array Value) (n : Nat), K.lookup a = some o ∧ o.cls = .type "list" ∧ o.dict = none ∧ o.data = .seq its n ∧ its.size ≤ sizeLine ∧ Vals xs its.toList
def FzAt (K : PySem.W.Frag) (m : Mp) (H : Hp) (a : Addr) (vs : List V) : Prop := (a ∉ m ∧ ∃ o, H a = some (.frz o (.lst vs))) ∨ KLst K a vs
theorem FzAt.sq {K : PySem.W.Frag} {m : Mp} {H : Hp} {a : Addr} {vs : List V} (h : FzAt K m H a vs) : SqL K H a vs := by
  rcases h with ⟨_, o, h⟩ | h
  · exact .inl (.inr ⟨o, h⟩)
  · exact .inr h
/-- the class of the name c -/
def ClsAt (K : PySem.W.Frag) (c : Str) (C : Addr) : Prop := PySem.W.nsIn K mainGlobals c = some (some (.ref C))
mutual
inductive RV (K : PySem.W.Frag) (m : Mp) (H : Hp) : PV → V → Prop
  | non : RV K m H .non .non
  | bl (b : Bool) : RV K m H (.bl b) (.bl b)
  | int (i : Int) : RV K m H (.int i) (.int i)
  | str (x : Str) (h : StrOk x) : RV K m H (.str x) (.str x)
  | tup {xs : List PV} {vs : List V} {a : Addr} (hl : xs.length ≤ sizeLine) (h : TupAt K m H a vs) (r : RVs K m H xs vs) : RV K m H (.tup xs) (.ref a)
  | lv {xs : List PV} {vs : List V} {a : Addr} (hl : xs.length ≤ sizeLine) (n : a ∉ m) (h : H a = some (.lst vs)) (r : RVs K m H xs vs) : RV K m H (.lv xs) (.ref a)
  | loc {n : Nat} {a : Addr} (h : m.locs[n]? = some a) : RV K m H (.loc n) (.ref a)
  | fz {xs : List PV} {vs : List V} {a : Addr} (hl : xs.length ≤ sizeLine) (h : FzAt K m H a vs) (r : RVs K m H xs vs) : RV K m H (.fz xs) (.ref a)
  | dv {ks : List Key} {xs : List PV} {vs : List V} {a : Addr} (hl : ks.length = xs.length) (n : a ∉ m) (h : H a = some (.dK (ks.zip vs))) (r : RVs K m H xs vs) : RV K m H (.dv ks xs) (.ref a)
  | iv {c : Str} {ns : List Str} {xs : List PV} {vs : List V} {a C dx : Addr} (hl : ns.length = xs.length) (n : a ∉ m) (h : H a = some (.ins C dx (ns.zip vs))) (hC : ClsAt K c C) (r : RVs K m H xs vs) : RV K m H (.iv c ns xs) (.ref a)
inductive RVs (K : PySem.W.Frag) (m : Mp) (H : Hp) : List PV → List V → Prop
  | nil : RVs K m H [] []
  | cons {x : PV} {v : V} {xs : List PV} {vs : List V} (r : RV K m H x v) (t : RVs K m H xs vs) : RVs K m H (x :: xs) (v :: vs)
end
/-- the heap has gone on -/
structure Ext (m : Mp) (H : Hp) (m' : Mp) (H' : Hp) : Prop where
  pre : ∃ more, m'.locs = m.locs ++ more
  res : m'.res = m.res
  keep : ∀ a o, a ∉ m.locs → H a = some o → H' a = some o
  new : ∀ a, a ∈ m'.locs → a ∉ m.locs → H a = none
theorem Ext.refl {m : Mp} {H : Hp} : Ext m H m H := ⟨⟨[], by simp⟩, rfl, fun _ _ _ h => h, fun a h n => absurd h n⟩
theorem Ext.sub {m m' : Mp} {H H' : Hp} (e : Ext m H m' H') {a : Addr} (h : a ∈ m.locs) : a ∈ m'.locs := by
  obtain ⟨more, h2⟩ := e.pre
  rw [h2]
  exact List.mem_append_left _ h
theorem out_locs {m : Mp} {a : Addr} (n : a ∉ m) : a ∉ m.locs := fun z => n (Mp.mem.mpr (.inl z))
theorem out_res {m : Mp} {a : Addr} (n : a ∉ m) : a ∉ m.res := fun z => n (Mp.mem.mpr (.inr z))
theorem Ext.out {m m' : Mp} {H H' : Hp} (e : Ext m H m' H') {a : Addr} {o : HO} (n : a ∉ m) (h : H a = some o) : a ∉ m' := fun z => by
  rcases Mp.mem.mp z with z | z
  · have := e.new a z (out_locs n)
    rw [h] at this
    cases this
  · rw [e.res] at z
    exact out_res n z
theorem Ext.trans {m m1 m2 : Mp} {H H1 H2 : Hp} (e : Ext m H m1 H1) (f : Ext m1 H1 m2 H2) : Ext m H m2 H2 := by
  have outl : ∀ a o, a ∉ m.locs → H a = some o → a ∉ m1.locs := fun a o n h z => by
    have := e.new a z n
    rw [h] at this; cases this
  refine ⟨?_, f.res.trans e.res, fun a o n h => f.keep a o (outl a o n h) (e.keep a o n h), fun a h n => ?_⟩
  · obtain ⟨x, hx⟩ := e.pre
    obtain ⟨y, hy⟩ := f.pre
    exact ⟨x ++ y, by rw [hy, hx]; simp⟩
  · by_cases h1 : a ∈ m1.locs
    · exact e.new a h1 n
    · have q := f.new a h h1
      cases z : H a with
      | none => rfl
      | some o => rw [e.keep a o n z] at q; cases q
theorem Ext.get {m m' : Mp} {H H' : Hp} (e : Ext m H m' H') {n : Nat} {a : Addr} (h : m.locs[n]? = some a) : m'.locs[n]? = some a := by
  obtain ⟨x, hx⟩ := e.pre
  rw [hx, List.getElem?_append_left]
  · exact h
  · exact (List.getElem?_eq_some_iff.mp h).1
/-- something new is laid and is not ours to change -/
theorem Ext.laid {m : Mp} {H : Hp} {p : Addr} {o : HO} (h : H p = none) : Ext m H m (upd H p o) :=
  ⟨⟨[], by simp⟩, rfl, fun a u _ q => by rw [upd_ne (ne_of_none q h)]; exact q, fun a h n => absurd h n⟩
theorem Ext.laidIn {m : Mp} {H : Hp} {p : Addr} {o : HO} (h : H p = none) : Ext m H (m.add p) (upd H p o) :=
  ⟨⟨[p], rfl⟩, rfl, fun a u _ q => by rw [upd_ne (ne_of_none q h)]; exact q, fun a h' n => by
    rcases List.mem_append.mp (show a ∈ m.locs ++ [p] from h') with z | z
    · exact absurd z n
    · have : a = p := by simpa using z
      rw [this]; exact h⟩
theorem Ext.changed {m : Mp} {H : Hp} {p : Addr} {o : HO} (h : p ∈ m.locs) : Ext m H m (upd H p o) :=
  ⟨⟨[], by simp⟩, rfl, fun a u n q => by rw [upd_ne (show a ≠ p from fun e => n (by rw [e]; exact h))]; exact q, fun a h n => absurd h n⟩
/-- the heap has gone on, more may be set aside -/
structure Lat (m : Mp) (H : Hp) (m' : Mp) (H' : Hp) : Prop where
  pre : ∃ more, m'.locs = m.locs ++ more
  res : ∀ a ∈ m'.res, a ∈ m.res ∨ H a = none
  keep : ∀ a o, a ∉ m.locs → H a = some o → H' a = some o
  new : ∀ a, a ∈ m'.locs → a ∉ m.locs → H a = none
theorem Ext.lat {m m' : Mp} {H H' : Hp} (e : Ext m H m' H') : Lat m H m' H' := ⟨e.pre, fun a h => .inl (by rw [← e.res]; exact h), e.keep, e.new⟩
theorem Lat.out {m m' : Mp} {H H' : Hp} (e : Lat m H m' H') {a : Addr} {o : HO} (n : a ∉ m) (h : H a = some o) : a ∉ m' := fun z => by
  rcases Mp.mem.mp z with z | z
  · have := e.new a z (out_locs n)
    rw [h] at this
    cases this
  · rcases e.res a z with z | z
    · exact out_res n z
    · rw [h] at z; cases z
theorem Lat.get {m m' : Mp} {H H' : Hp} (e : Lat m H m' H') {n : Nat} {a : Addr} (h : m.locs[n]? = some a) : m'.locs[n]? = some a := by
  obtain ⟨x, hx⟩ := e.pre
  rw [hx, List.getElem?_append_left]
  · exact h
  · exact (List.getElem?_eq_some_iff.mp h).1
section
variable {K : PySem.W.Frag} {m m' : Mp} {H H' : Hp}
mutual
theorem RV.mono (e : Lat m H m' H') : ∀ (x : PV) (v : V), RV K m H x v → RV K m' H' x v
  | _, _, .non => .non
  | _, _, .bl b => .bl b
  | _, _, .int i => .int i
  | _, _, .str x h => .str x h
  | _, _, .tup hl (.inl ⟨n, h⟩) r => .tup hl (.inl ⟨e.out n h, e.keep _ _ (out_locs n) h⟩) (RVs.mono e _ _ r)
  | _, _, .tup hl (.inr h) r => .tup hl (.inr h) (RVs.mono e _ _ r)
  | _, _, .lv hl n h r => .lv hl (e.out n h) (e.keep _ _ (out_locs n) h) (RVs.mono e _ _ r)
  | _, _, .loc h => .loc (e.get h)
  | _, _, .fz hl (.inl ⟨n, o, h⟩) r => .fz hl (.inl ⟨e.out n h, o, e.keep _ _ (out_locs n) h⟩) (RVs.mono e _ _ r)
  | _, _, .fz hl (.inr h) r => .fz hl (.inr h) (RVs.mono e _ _ r)
  | _, _, .dv hl n h r => .dv hl (e.out n h) (e.keep _ _ (out_locs n) h) (RVs.mono e _ _ r)
  | _, _, .iv hl n h hC r => .iv hl (e.out n h) (e.keep _ _ (out_locs n) h) hC (RVs.mono e _ _ r)
theorem RVs.mono (e : Lat m H m' H') : ∀ (x : List PV) (v : List V), RVs K m H x v → RVs K m' H' x v
  | _, _, .nil => .nil
  | _, _, .cons r t => .cons (RV.mono e _ _ r) (RVs.mono e _ _ t)
end
theorem RV.up (e : Ext m H m' H') {x : PV} {v : V} (r : RV K m H x v) : RV K m' H' x v := RV.mono e.lat _ _ r
theorem RVs.up (e : Ext m H m' H') {x : List PV} {v : List V} (r : RVs K m H x v) : RVs K m' H' x v := RVs.mono e.lat _ _ r
theorem RVs.length : ∀ {xs : List PV} {vs : List V}, RVs K m H xs vs → xs.length = vs.length
  | _, _, .nil => rfl
  | _, _, .cons _ t => by rw [List.length_cons, List.length_cons, RVs.length t]
theorem RVs.get : ∀ {xs : List PV} {vs : List V} {i : Nat} {x : PV}, RVs K m H xs vs → xs[i]? = some x → ∃ v, vs[i]? = some v ∧ RV K m H x v
  | _, _, _, _, .nil, e => by simp at e
  | _, _, 0, _, .cons r _, e => by simp at e; subst e; exact ⟨_, rfl, r⟩
  | _, _, i + 1, x, .cons _ t, e => by
    obtain ⟨u, h1, h2⟩ := RVs.get (i := i) (x := x) t (by simpa using e)
    exact ⟨u, by simpa using h1, h2⟩
theorem RVs.set {x : PV} {u : V} (r : RV K m H x u) : ∀ {xs : List PV} {us : List V} (i : Nat), RVs K m H xs us → RVs K m H (xs.set i x) (us.set i u)
  | _, _, _, .nil => .nil
  | _, _, 0, .cons _ t => .cons r t
  | _, _, i + 1, .cons q t => .cons q (RVs.set r i t)
theorem RVs.append : ∀ {xs ys : List PV} {us ws : List V}, RVs K m H xs us → RVs K m H ys ws → RVs K m H (xs ++ ys) (us ++ ws)
  | _, _, _, _, .nil, s => s
  | _, _, _, _, .cons r t, s => .cons r (RVs.append t s)
theorem RVs.take : ∀ {xs : List PV} {us : List V} (n : Nat), RVs K m H xs us → RVs K m H (xs.take n) (us.take n)
  | _, _, 0, _ => .nil
  | _, _, _ + 1, .nil => .nil
  | _, _, n + 1, .cons r t => .cons r (RVs.take n t)
theorem RVs.drop : ∀ {xs : List PV} {us : List V} (n : Nat), RVs K m H xs us → RVs K m H (xs.drop n) (us.drop n)
  | _, _, 0, r => r
  | _, _, _ + 1, .nil => .nil
  | _, _, n + 1, .cons _ t => RVs.drop n t
theorem RVs.erase : ∀ {xs : List PV} {us : List V} (n : Nat), RVs K m H xs us → RVs K m H (xs.eraseIdx n) (us.eraseIdx n)
  | _, _, _, .nil => .nil
  | _, _, 0, .cons _ t => t
  | _, _, n + 1, .cons r t => .cons r (RVs.erase n t)
theorem RVs.empty {xs : List PV} {us : List V} (r : RVs K m H xs us) : us.isEmpty = xs.isEmpty := by cases r <;> rfl
theorem RVs.dropLast {xs : List PV} {us : List V} (r : RVs K m H xs us) : RVs K m H xs.dropLast us.dropLast := by
  rw [List.dropLast_eq_take, List.dropLast_eq_take, r.length]
  exact r.take _
end

/-- a dict's pairs -/
inductive KVr (K : PySem.W.Frag) (m : Mp) (H : Hp) {κ : Type} : List (κ × PV) → List (κ × V) → Prop
  | nil : KVr K m H [] []
  | cons {k : κ} {x : PV} {v : V} {xs : List (κ × PV)} {vs : List (κ × V)} (r : RV K m H x v) (t : KVr K m H xs vs) : KVr K m H ((k, x) :: xs) ((k, v) :: vs)
/-- an object of the store -/
def RO (K : PySem.W.Frag) (m : Mp) (H : Hp) : PO → Addr → Prop
  | .lst xs, a => xs.length ≤ sizeLine ∧ ∃ vs, H a = some (.lst vs) ∧ RVs K m H xs vs
  | .dic kvs, a => ∃ vs, H a = some (.dK vs) ∧ KVr K m H kvs vs
  | .ins c fs, a => ∃ C dx vs, H a = some (.ins C dx vs) ∧ ClsAt K c C ∧ KVr K m H fs vs
structure Rel (K : PySem.W.Frag) (S : Store) (m : Mp) (H : Hp) : Prop where
  len : S.length = m.locs.length
  nd : m.locs.Nodup
  obj : ∀ (i : Nat) (o : PO) (a : Addr), S[i]? = some o → m.locs[i]? = some a → RO K m H o a
  aside : ∀ a ∈ m.res, ∃ u, H a = some u
section
variable {K : PySem.W.Frag} {m m' : Mp} {H H' : Hp} {S S' : Store}
theorem KVr.mono (e : Ext m H m' H') {κ : Type} : ∀ {x : List (κ × PV)} {v : List (κ × V)}, KVr K m H x v → KVr K m' H' x v
  | _, _, .nil => .nil
  | _, _, .cons r t => .cons (r.up e) (KVr.mono e t)
theorem RVs.zip {κ : Type} : ∀ {ks : List κ} {xs : List PV} {vs : List V}, RVs K m H xs vs → KVr K m H (ks.zip xs) (ks.zip vs)
  | [], _, _, _ => .nil
  | _ :: _, _, _, .nil => .nil
  | _ :: _, _, _, .cons r t => .cons r (RVs.zip t)
theorem KVr.vals {κ : Type} : ∀ {kvs : List (κ × PV)} {vs : List (κ × V)}, KVr K m H kvs vs → RVs K m H (kvs.map (·.2)) (vs.map (·.2)) ∧ vs = (kvs.map (·.1)).zip (vs.map (·.2))
  | _, _, .nil => ⟨.nil, rfl⟩
  | _, _, .cons r t => by
    obtain ⟨h1, h2⟩ := KVr.vals t
    refine ⟨.cons r h1, ?_⟩
    rw [List.map_cons, List.map_cons, List.zip_cons_cons, ← h2]
theorem KVr.length {κ : Type} : ∀ {x : List (κ × PV)} {v : List (κ × V)}, KVr K m H x v → x.length = v.length
  | _, _, .nil => rfl
  | _, _, .cons r t => by rw [List.length_cons, List.length_cons, KVr.length t]
theorem RO.ex {o : PO} {a : Addr} (r : RO K m H o a) : ∃ u, H a = some u := by
  cases o with
  | lst xs => obtain ⟨_, vs, h, _⟩ := r; exact ⟨_, h⟩
  | dic kvs => obtain ⟨vs, h, _⟩ := r; exact ⟨_, h⟩
  | ins c fs => obtain ⟨C, dx, vs, h, _⟩ := r; exact ⟨_, h⟩
/-- the object stays as it is where its address does, and its values do -/
theorem RO.upW {o : PO} {a : Addr} (up : ∀ x v, RV K m H x v → RV K m' H' x v) (h : H' a = H a) (r : RO K m H o a) : RO K m' H' o a := by
  have ups : ∀ {x v}, RVs K m H x v → RVs K m' H' x v := by
    intro x v r
    induction x generalizing v with
    | nil => cases r; exact .nil
    | cons x xs ih => cases r with | cons r t => exact .cons (up _ _ r) (ih t)
  have upk : ∀ {κ : Type} {x : List (κ × PV)} {v}, KVr K m H x v → KVr K m' H' x v := by
    intro κ x v r
    induction r with
    | nil => exact .nil
    | cons r t ih => exact .cons (up _ _ r) ih
  cases o with
  | lst xs => obtain ⟨hl, vs, h1, h2⟩ := r; exact ⟨hl, vs, by rw [h]; exact h1, ups h2⟩
  | dic kvs => obtain ⟨vs, h1, h2⟩ := r; exact ⟨vs, by rw [h]; exact h1, upk h2⟩
  | ins c fs => obtain ⟨C, dx, vs, h1, h2, h3⟩ := r; exact ⟨C, dx, vs, by rw [h]; exact h1, h2, upk h3⟩
theorem RO.up (e : Ext m H m' H') {o : PO} {a : Addr} (h : H' a = H a) (r : RO K m H o a) : RO K m' H' o a := r.upW (fun _ _ r => r.up e) h
theorem Rel.ex (r : Rel K S m H) {a : Addr} (h : a ∈ m) : ∃ u, H a = some u := by
  rcases Mp.mem.mp h with h | h
  · obtain ⟨i, hi, e⟩ := List.mem_iff_getElem.mp h
    have hs : i < S.length := by rw [r.len]; exact hi
    exact (r.obj i S[i] a (List.getElem?_eq_getElem hs) (by rw [List.getElem?_eq_getElem hi, e])).ex
  · exact r.aside a h
theorem Rel.out (r : Rel K S m H) {p : Addr} (h : H p = none) : p ∉ m := fun z => by
  obtain ⟨u, e⟩ := r.ex z
  rw [h] at e; cases e
theorem Rel.addr (r : Rel K S m H) {n : Nat} {o : PO} (h : S[n]? = some o) : ∃ a, m.locs[n]? = some a ∧ RO K m H o a := by
  have hn : n < S.length := (List.getElem?_eq_some_iff.mp h).1
  have hm : n < m.locs.length := by rw [← r.len]; exact hn
  exact ⟨m.locs[n], List.getElem?_eq_getElem hm, r.obj n o _ h (List.getElem?_eq_getElem hm)⟩
theorem Rel.at (r : Rel K S m H) {n : Nat} {o : PO} {a : Addr} (h : S[n]? = some o) (ha : m.locs[n]? = some a) : RO K m H o a := r.obj n o a h ha
theorem mem_of_get {m : Mp} {n : Nat} {a : Addr} (h : m.locs[n]? = some a) : a ∈ m.locs := List.mem_of_getElem? h
/-- something laid beside -/
theorem Rel.laid (r : Rel K S m H) {p : Addr} {o : HO} (h : H p = none) : Rel K S m (upd H p o) :=
  ⟨r.len, r.nd, fun i u a hs ha => (r.obj i u a hs ha).up (Ext.laid h) (by
    obtain ⟨z, e⟩ := (r.obj i u a hs ha).ex
    exact upd_ne (ne_of_none e h)), fun a ha => by
    obtain ⟨u, e⟩ := r.aside a ha
    exact ⟨u, by rw [upd_ne (ne_of_none e h)]; exact e⟩⟩
/-- a new object of the store -/
theorem Rel.push (r : Rel K S m H) {p : Addr} {o : HO} {u : PO} (h : H p = none) (hu : RO K (m.add p) (upd H p o) u p) : Rel K (S ++ [u]) (m.add p) (upd H p o) := by
  have hp := out_locs (r.out h)
  refine ⟨by simp [r.len, Mp.add], ?_, fun i v a hs ha => ?_, fun a ha => ?_⟩
  · show (m.locs ++ [p]).Nodup
    rw [List.nodup_append]
    refine ⟨r.nd, by simp, fun a ha b hb => ?_⟩
    have e : b = p := by simpa using hb
    rw [e]
    intro z
    rw [z] at ha
    exact hp ha
  · have ha : (m.locs ++ [p])[i]? = some a := ha
    by_cases hi : i < S.length
    · rw [List.getElem?_append_left hi] at hs
      rw [List.getElem?_append_left (by rw [← r.len]; exact hi)] at ha
      refine (r.obj i v a hs ha).up (Ext.laidIn h) ?_
      obtain ⟨z, e⟩ := (r.obj i v a hs ha).ex
      exact upd_ne (ne_of_none e h)
    · have e : i = S.length := by
        have := (List.getElem?_eq_some_iff.mp hs).1
        simp at this
        omega
      subst e
      rw [List.getElem?_append_right (Nat.le_refl _)] at hs
      rw [List.getElem?_append_right (by rw [r.len]; exact Nat.le_refl _)] at ha
      simp [r.len] at hs ha
      subst hs ha
      exact hu
  · obtain ⟨u, e⟩ := r.aside a ha
    exact ⟨u, by rw [upd_ne (ne_of_none e h)]; exact e⟩
/-- an object of the store changed -/
theorem Rel.change (r : Rel K S m H) {n : Nat} {p : Addr} {o : HO} {u : PO} (hn : m.locs[n]? = some p) (hu : RO K m (upd H p o) u p) : Rel K (S.set n u) m (upd H p o) := by
  refine ⟨by simp [r.len], r.nd, fun i v a hs ha => ?_, fun a ha => ?_⟩
  · by_cases e : n = i
    · subst e
      have hl : n < S.length := by rw [r.len]; exact (List.getElem?_eq_some_iff.mp hn).1
      rw [List.getElem?_set_self hl] at hs
      rw [hn] at ha
      cases hs; cases ha
      exact hu
    · rw [List.getElem?_set_ne e] at hs
      have hne : a ≠ p := by
        intro z
        subst z
        exact e ((List.getElem?_inj (List.getElem?_eq_some_iff.mp hn).1 r.nd).mp (hn.trans ha.symm))
      exact (r.obj i v a hs ha).up (Ext.changed (mem_of_get hn)) (upd_ne hne)
  · by_cases z : a = p
    · exact ⟨o, by rw [z, upd_same]⟩
    · obtain ⟨u, e⟩ := r.aside a ha
      exact ⟨u, by rw [upd_ne z]; exact e⟩

/-! ### an address set aside: nobody holds it -/
theorem Ext.beside {p : Addr} {o : HO} (e : Ext m H m' H') (h : H p = none) : Ext m H m' (upd H' p o) :=
  ⟨e.pre, e.res, fun a u n q => by rw [upd_ne (ne_of_none q h)]; exact e.keep a u n q, e.new⟩
/-- from a map with p aside to the one without -/
theorem Ext.unrsv {p : Addr} (e : Ext (m.rsv p) H m' H') : Ext m H ⟨m'.locs, m.res⟩ H' := ⟨e.pre, rfl, e.keep, e.new⟩
mutual
theorem RV.rsvM {p : Addr} {o : HO} (h : H p = none) : ∀ (x : PV) (v : V), RV K m H x v → RV K (m.rsv p) (upd H p o) x v
  | _, _, .non => .non
  | _, _, .bl b => .bl b
  | _, _, .int i => .int i
  | _, _, .str x h => .str x h
  | _, _, .tup hl (.inl ⟨n, q⟩) r => .tup hl (.inl ⟨fun z => (by
      rcases Mp.mem.mp z with z | z
      · exact out_locs n z
      · rcases List.mem_cons.mp z with z | z
        · exact ne_of_none q h z
        · exact out_res n z), by rw [upd_ne (ne_of_none q h)]; exact q⟩) (RVs.rsvM h _ _ r)
  | _, _, .tup hl (.inr q) r => .tup hl (.inr q) (RVs.rsvM h _ _ r)
  | _, _, .lv hl n q r => .lv hl (fun z => (by
      rcases Mp.mem.mp z with z | z
      · exact out_locs n z
      · rcases List.mem_cons.mp z with z | z
        · exact ne_of_none q h z
        · exact out_res n z)) (by rw [upd_ne (ne_of_none q h)]; exact q) (RVs.rsvM h _ _ r)
  | _, _, .loc h => .loc h
  | _, _, .fz hl (.inl ⟨n, u, q⟩) r => .fz hl (.inl ⟨fun z => (by
      rcases Mp.mem.mp z with z | z
      · exact out_locs n z
      · rcases List.mem_cons.mp z with z | z
        · exact ne_of_none q h z
        · exact out_res n z), u, by rw [upd_ne (ne_of_none q h)]; exact q⟩) (RVs.rsvM h _ _ r)
  | _, _, .fz hl (.inr q) r => .fz hl (.inr q) (RVs.rsvM h _ _ r)
  | _, _, .dv hl n q r => .dv hl (fun z => (by
      rcases Mp.mem.mp z with z | z
      · exact out_locs n z
      · rcases List.mem_cons.mp z with z | z
        · exact ne_of_none q h z
        · exact out_res n z)) (by rw [upd_ne (ne_of_none q h)]; exact q) (RVs.rsvM h _ _ r)
  | _, _, .iv hl n q hC r => .iv hl (fun z => (by
      rcases Mp.mem.mp z with z | z
      · exact out_locs n z
      · rcases List.mem_cons.mp z with z | z
        · exact ne_of_none q h z
        · exact out_res n z)) (by rw [upd_ne (ne_of_none q h)]; exact q) hC (RVs.rsvM h _ _ r)
theorem RVs.rsvM {p : Addr} {o : HO} (h : H p = none) : ∀ (x : List PV) (v : List V), RVs K m H x v → RVs K (m.rsv p) (upd H p o) x v
  | _, _, .nil => .nil
  | _, _, .cons r t => .cons (RV.rsvM h _ _ r) (RVs.rsvM h _ _ t)
end
mutual
theorem RV.setM {p : Addr} {o : HO} : ∀ (x : PV) (v : V), RV K (m.rsv p) H x v → RV K (m.rsv p) (upd H p o) x v
  | _, _, .non => .non
  | _, _, .bl b => .bl b
  | _, _, .int i => .int i
  | _, _, .str x h => .str x h
  | _, _, .tup hl (.inl ⟨n, q⟩) r => .tup hl (.inl ⟨n, by rw [upd_ne (fun z => out_res n (by rw [z]; exact List.mem_cons_self))]; exact q⟩) (RVs.setM _ _ r)
  | _, _, .tup hl (.inr q) r => .tup hl (.inr q) (RVs.setM _ _ r)
  | _, _, .lv hl n q r => .lv hl n (by rw [upd_ne (fun z => out_res n (by rw [z]; exact List.mem_cons_self))]; exact q) (RVs.setM _ _ r)
  | _, _, .loc h => .loc h
  | _, _, .fz hl (.inl ⟨n, u, q⟩) r => .fz hl (.inl ⟨n, u, by rw [upd_ne (fun z => out_res n (by rw [z]; exact List.mem_cons_self))]; exact q⟩) (RVs.setM _ _ r)
  | _, _, .fz hl (.inr q) r => .fz hl (.inr q) (RVs.setM _ _ r)
  | _, _, .dv hl n q r => .dv hl n (by rw [upd_ne (fun z => out_res n (by rw [z]; exact List.mem_cons_self))]; exact q) (RVs.setM _ _ r)
  | _, _, .iv hl n q hC r => .iv hl n (by rw [upd_ne (fun z => out_res n (by rw [z]; exact List.mem_cons_self))]; exact q) hC (RVs.setM _ _ r)
theorem RVs.setM {p : Addr} {o : HO} : ∀ (x : List PV) (v : List V), RVs K (m.rsv p) H x v → RVs K (m.rsv p) (upd H p o) x v
  | _, _, .nil => .nil
  | _, _, .cons r t => .cons (RV.setM _ _ r) (RVs.setM _ _ t)
end
mutual
theorem RV.unM {p : Addr} : ∀ (x : PV) (v : V), RV K (m.rsv p) H x v → RV K m H x v
  | _, _, .non => .non
  | _, _, .bl b => .bl b
  | _, _, .int i => .int i
  | _, _, .str x h => .str x h
  | _, _, .tup hl (.inl ⟨n, q⟩) r => .tup hl (.inl ⟨fun z => n (Mp.mem.mpr ((Mp.mem.mp z).imp id (List.mem_cons_of_mem _))), q⟩) (RVs.unM _ _ r)
  | _, _, .tup hl (.inr q) r => .tup hl (.inr q) (RVs.unM _ _ r)
  | _, _, .lv hl n q r => .lv hl (fun z => n (Mp.mem.mpr ((Mp.mem.mp z).imp id (List.mem_cons_of_mem _)))) q (RVs.unM _ _ r)
  | _, _, .loc h => .loc h
  | _, _, .fz hl (.inl ⟨n, u, q⟩) r => .fz hl (.inl ⟨fun z => n (Mp.mem.mpr ((Mp.mem.mp z).imp id (List.mem_cons_of_mem _))), u, q⟩) (RVs.unM _ _ r)
  | _, _, .fz hl (.inr q) r => .fz hl (.inr q) (RVs.unM _ _ r)
  | _, _, .dv hl n q r => .dv hl (fun z => n (Mp.mem.mpr ((Mp.mem.mp z).imp id (List.mem_cons_of_mem _)))) q (RVs.unM _ _ r)
  | _, _, .iv hl n q hC r => .iv hl (fun z => n (Mp.mem.mpr ((Mp.mem.mp z).imp id (List.mem_cons_of_mem _)))) q hC (RVs.unM _ _ r)
theorem RVs.unM {p : Addr} : ∀ (x : List PV) (v : List V), RVs K (m.rsv p) H x v → RVs K m H x v
  | _, _, .nil => .nil
  | _, _, .cons r t => .cons (RV.unM _ _ r) (RVs.unM _ _ t)
end
theorem Rel.rsv (r : Rel K S m H) {p : Addr} {o : HO} (h : H p = none) : Rel K S (m.rsv p) (upd H p o) :=
  ⟨r.len, r.nd, fun i u a hs ha => (r.obj i u a hs ha).upW (fun _ _ z => RV.rsvM h _ _ z) (by
    obtain ⟨z, e⟩ := (r.obj i u a hs ha).ex
    exact upd_ne (ne_of_none e h)), fun a ha => by
    rcases List.mem_cons.mp ha with z | z
    · exact ⟨o, by rw [z, upd_same]⟩
    · obtain ⟨u, e⟩ := r.aside a z
      exact ⟨u, by rw [upd_ne (ne_of_none e h)]; exact e⟩⟩
theorem Rel.setAside (r : Rel K S (m.rsv p) H) {o : HO} (hp : p ∉ m.locs) : Rel K S (m.rsv p) (upd H p o) :=
  ⟨r.len, r.nd, fun i u a hs ha => (r.obj i u a hs ha).upW (fun _ _ z => RV.setM _ _ z) (upd_ne fun z => hp (by rw [← z]; exact mem_of_get (m := m) ha)), fun a ha => by
    by_cases z : a = p
    · exact ⟨o, by rw [z, upd_same]⟩
    · obtain ⟨u, e⟩ := r.aside a ha
      exact ⟨u, by rw [upd_ne z]; exact e⟩⟩
theorem Rel.unrsv {p : Addr} (r : Rel K S (m.rsv p) H) : Rel K S m H :=
  ⟨r.len, r.nd, fun i u a hs ha => (r.obj i u a hs ha).upW (fun _ _ z => RV.unM _ _ z) rfl, fun a ha => r.aside a (List.mem_cons_of_mem _ ha)⟩
/-! ### a part's promise -/
/-- what is wanted of an exception: its class by number, its fields -/
abbrev WP := Str → List (Str × PV) → Mp → Hp → Prop
/-- r's end is wanted -/
def Post {α β : Type} (K : PySem.W.Frag) (rel : Mp → Hp → α → β → Prop) (m : Mp) (H : Hp) (r : R α) (Q : β → Hp → Prop) (W : WP) : Prop :=
  match r with
  | .ok a S => ∀ x m' H', Ext m H m' H' → Rel K S m' H' → rel m' H' a x → Q x H'
  | .exc c fs S => ∀ m' H', Ext m H m' H' → Rel K S m' H' → W c fs m' H'
  | .bad => False
theorem Post.up {α β : Type} {rel : Mp → Hp → α → β → Prop} {r : R α} {Q : β → Hp → Prop} {W : WP} (e : Ext m H m' H') (h : Post K rel m H r Q W) : Post K rel m' H' r Q W := by
  cases r with
  | ok a S => exact fun x m2 H2 f q v => h x m2 H2 (e.trans f) q v
  | exc c fs S => exact fun m2 H2 f q => h m2 H2 (e.trans f) q
  | bad => exact h
theorem Post.bind {α β γ δ : Type} {rel : Mp → Hp → α → β → Prop} {rel' : Mp → Hp → γ → δ → Prop} {r : R α} {f : α → Store → R γ} {Q : δ → Hp → Prop} {Q1 : β → Hp → Prop} {W : WP} (h : Post K rel' m H (r.bind f) Q W)
    (k : ∀ a S1 x m1 H1, Ext m H m1 H1 → Rel K S1 m1 H1 → rel m1 H1 a x → Post K rel' m1 H1 (f a S1) Q W → Q1 x H1) : Post K rel m H r Q1 W := by
  cases r with
  | ok a S => exact fun x m1 H1 e q v => k a S x m1 H1 e q v (Post.up e h)
  | exc c fs S => exact h
  | bad => exact h
theorem Post.get {α β : Type} {rel : Mp → Hp → α → β → Prop} {a : α} {Q : β → Hp → Prop} {W : WP} (h : Post K rel m H (.ok a S) Q W) (q : Rel K S m H) {x : β} (v : rel m H a x) : Q x H := h x m H Ext.refl q v
theorem Post.ofO {α β : Type} {rel : Mp → Hp → α → β → Prop} {o : Option α} {Q : β → Hp → Prop} {W : WP} (h : Post K rel m H (R.ofO o S) Q W) : ∃ a, o = some a ∧ Post K rel m H (.ok a S) Q W := by
  cases o with
  | none => exact h.elim
  | some a => exact ⟨a, rfl, h⟩
/-- from a def's reading on to a bool -/
def Same2 {α : Type} : Mp → Hp → α → α → Prop := fun _ _ a b => a = b
theorem Post.pass {α : Type} {γ δ : Type} {rel' : Mp → Hp → γ → δ → Prop} {o : Option α} {f : α → Store → R γ} {Q : δ → Hp → Prop} {W : WP} (h : Post K rel' m H ((R.ofO o S).bind f) Q W) : ∃ a, o = some a ∧ Post K rel' m H (f a S) Q W := by
  cases o with
  | none => exact h.elim
  | some a => exact ⟨a, rfl, h⟩

/-- the slots -/
inductive RE (K : PySem.W.Frag) (m : Mp) (H : Hp) : Env → St → Prop
  | nil : RE K m H [] []
  | some {x : PV} {v : V} {e : Env} {σ : St} (r : RV K m H x v) (t : RE K m H e σ) : RE K m H (some x :: e) (some v :: σ)
  | none {o : Option V} {e : Env} {σ : St} (t : RE K m H e σ) : RE K m H (none :: e) (o :: σ)
theorem RE.up (x : Ext m H m' H') : ∀ {e : Env} {σ : St}, RE K m H e σ → RE K m' H' e σ
  | _, _, .nil => .nil
  | _, _, .some r t => .some (r.up x) (RE.up x t)
  | _, _, .none t => .none (RE.up x t)
theorem RE.get : ∀ {e : Env} {σ : St} {i : Nat} {x : PV}, RE K m H e σ → e[i]? = .some (.some x) → ∃ v, σ[i]? = .some (.some v) ∧ RV K m H x v
  | _, _, _, _, .nil, h => by simp at h
  | _, _, 0, _, .some r _, h => by simp at h; subst h; exact ⟨_, rfl, r⟩
  | _, _, 0, _, .none _, h => by simp at h
  | _, _, i + 1, x, .some _ t, h => by
    obtain ⟨u, h1, h2⟩ := RE.get (i := i) (x := x) t (by simpa using h)
    exact ⟨u, by simpa using h1, h2⟩
  | _, _, i + 1, x, .none t, h => by
    obtain ⟨u, h1, h2⟩ := RE.get (i := i) (x := x) t (by simpa using h)
    exact ⟨u, by simpa using h1, h2⟩
theorem RE.set {x : PV} {v : V} (r : RV K m H x v) : ∀ {e : Env} {σ : St} (i : Nat), RE K m H e σ → RE K m H (e.set i (.some x)) (σ.set i (.some v))
  | _, _, _, .nil => .nil
  | _, _, 0, .some _ t => .some r t
  | _, _, 0, .none t => .some r t
  | _, _, i + 1, .some q t => .some q (RE.set r i t)
  | _, _, i + 1, .none t => .none (RE.set r i t)
theorem RE.unset {o : Option V} : ∀ {e : Env} {σ : St} (i : Nat), RE K m H e σ → RE K m H (e.set i .none) (σ.set i o)
  | _, _, _, .nil => .nil
  | _, _, 0, .some _ t => .none t
  | _, _, 0, .none t => .none t
  | _, _, i + 1, .some q t => .some q (RE.unset i t)
  | _, _, i + 1, .none t => .none (RE.unset i t)
theorem RE.wipe {e : Env} {σ : St} (r : RE K m H e σ) : ∀ vs : List Nat, RE K m H (wipeE e vs) (L2.wipe σ vs)
  | [] => r
  | v :: vs => (RE.wipe r vs).unset v
theorem RE.length : ∀ {e : Env} {σ : St}, RE K m H e σ → e.length = σ.length
  | _, _, .nil => rfl
  | _, _, .some _ t => by rw [List.length_cons, List.length_cons, RE.length t]
  | _, _, .none t => by rw [List.length_cons, List.length_cons, RE.length t]
theorem RE.via (up : ∀ x v, RV K m H x v → RV K m' H' x v) : ∀ {e : Env} {σ : St}, RE K m H e σ → RE K m' H' e σ
  | _, _, .nil => .nil
  | _, _, .some r t => .some (up _ _ r) (RE.via up t)
  | _, _, .none t => .none (RE.via up t)
theorem RE.start : ∀ {vs : List PV} {us : List V} (n : Nat), RVs K m H vs us → RE K m H (vs.map .some ++ List.replicate n .none) (us.map .some ++ List.replicate n .none)
  | _, _, 0, .nil => .nil
  | _, _, n + 1, .nil => .none (RE.start (vs := []) (us := []) n .nil)
  | _, _, n, .cons r t => .some r (RE.start n t)
end
/-- the reading of a part that f tells -/
def can (K : PySem.W.Frag) (W : St → WP) (f : Env → Store → R PV) : TE := fun σ H Q =>
  ∃ m e S, RE K m H e σ ∧ Rel K S m H ∧ Post K (RV K) m H (f e S) Q (W σ)
/-- .. of a test -/
def canT (K : PySem.W.Frag) (W : St → WP) (f : Env → Store → R Bool) : TT := fun σ H Q =>
  ∃ m e S, RE K m H e σ ∧ Rel K S m H ∧ Post K Same2 m H (f e S) Q (W σ)
def canA (K : PySem.W.Frag) (W : St → WP) (f : Env → Store → R (List PV)) : TA := fun σ H Q =>
  ∃ m e S, RE K m H e σ ∧ Rel K S m H ∧ Post K (RVs K) m H (f e S) Q (W σ)
theorem pe_imp {X : Cx} {e : Expr} {t t' : TE} (h : PE X e t) (k : ∀ σ H Q, t' σ H Q → t σ H Q) : PE X e t' := ⟨fun pins s σ H Q I q => h.run pins s σ H Q I (k σ H Q q)⟩
theorem pt_imp {X : Cx} {e : Expr} {t t' : TT} (h : PT X e t) (k : ∀ σ H Q, t' σ H Q → t σ H Q) : PT X e t' := ⟨fun pins s σ H Q I q => h.run pins s σ H Q I (k σ H Q q)⟩
theorem pw_imp {X : Cx} {e : Expr} {t t' : TT} (h : PW X e t) (k : ∀ σ H Q, t' σ H Q → t σ H Q) : PW X e t' := ⟨fun wh pins s σ H Q I q => h.run wh pins s σ H Q I (k σ H Q q)⟩
theorem pa_imp {X : Cx} {e : List Expr} {t t' : TA} (h : PA X e t) (k : ∀ σ H Q, t' σ H Q → t σ H Q) : PA X e t' := ⟨fun pos pins s σ H Q I q => h.run pos pins s σ H Q I (k σ H Q q)⟩
theorem ps_imp {X : Cx} {e : Stmt} {t t' : TS} (h : PS X e t) (k : ∀ D σ H, t' D σ H → t D σ H) : PS X e t' := ⟨fun pins s σ H D I q => h.run pins s σ H D I (k D σ H q)⟩
theorem pss_imp {X : Cx} {e : List Stmt} {t t' : TS} (h : PSs X e t) (k : ∀ D σ H, t' D σ H → t D σ H) : PSs X e t' := ⟨fun pins s σ H D I q => h.run pins s σ H D I (k D σ H q)⟩
theorem Post.imp {α β : Type} {K : PySem.W.Frag} {rel rel' : Mp → Hp → α → β → Prop} {m : Mp} {H : Hp} {r : R α} {Q Q' : β → Hp → Prop} {W : WP} (h : Post K rel m H r Q W)
    (k : ∀ m' H' a x, rel' m' H' a x → rel m' H' a x) (q : ∀ x H', Q x H' → Q' x H') : Post K rel' m H r Q' W := by
  cases r with
  | ok a S => exact fun x m1 H1 e r v => q _ _ (h x m1 H1 e r (k _ _ _ _ v))
  | exc c fs S => exact h
  | bad => exact h
end L2.PF

set_option Elab.async false
set_option linter.all false
set_option maxRecDepth 100000
set_option maxHeartbeats 4000000
/-! PFC: the operators, by values. -/
namespace L2.PF
open PySem PySem.Spec PyProof.Rows

section
variable {K : PySem.W.Frag} {m : Mp} {H : Hp} {S : Store}
theorem TupAt.sq {a : Addr} {vs : List V} (h : TupAt K m H a vs) : SqT K H a vs := by
  rcases h with ⟨_, h⟩ | h
  · exact .inl (.inl h)
  · exact .inr h
/-- the items of a list, a tuple -/
theorem items_sq (r : Rel K S m H) {v : PV} {x : V} {xs : List PV} (h : RV K m H v x) (e : items S v = some xs) : ∃ a vs, x = .ref a ∧ (SqL K H a vs ∨ SqT K H a vs) ∧ RVs K m H xs vs ∧ xs.length ≤ sizeLine := by
  cases h with
  | tup hl h t => rw [items] at e; cases e; exact ⟨_, _, rfl, .inr h.sq, t, hl⟩
  | lv hl _ h t => rw [items] at e; cases e; exact ⟨_, _, rfl, .inl (.of h), t, hl⟩
  | fz hl h t => rw [items] at e; cases e; exact ⟨_, _, rfl, .inl h.sq, t, hl⟩
  | @loc n a h =>
    rw [items] at e
    cases q : S[n]? with
    | none => rw [q] at e; cases e
    | some o =>
      rw [q] at e
      have ro := r.at q h
      cases o with
      | lst ys => obtain ⟨hl, vs, h1, h2⟩ := ro; cases e; exact ⟨_, _, rfl, .inl (.of h1), h2, hl⟩
      | dic kvs => cases e
      | ins c fs => cases e
  | _ => rw [items] at e <;> first | cases e | (intros; exact fun z => nomatch z)
theorem litems_sq (r : Rel K S m H) {v : PV} {x : V} {xs : List PV} (h : RV K m H v x) (e : litems S v = some xs) : ∃ a vs, x = .ref a ∧ SqL K H a vs ∧ RVs K m H xs vs ∧ xs.length ≤ sizeLine := by
  cases h with
  | lv hl _ h t => rw [litems] at e; cases e; exact ⟨_, _, rfl, .of h, t, hl⟩
  | fz hl h t => rw [litems] at e; cases e; exact ⟨_, _, rfl, h.sq, t, hl⟩
  | @loc n a h =>
    rw [litems] at e
    cases q : S[n]? with
    | none => rw [q] at e; cases e
    | some o =>
      rw [q] at e
      have ro := r.at q h
      cases o with
      | lst ys => obtain ⟨hl, vs, h1, h2⟩ := ro; cases e; exact ⟨_, _, rfl, .of h1, h2, hl⟩
      | dic kvs => cases e
      | ins c fs => cases e
  | _ => rw [litems] at e <;> first | cases e | (intros; exact fun z => nomatch z)
theorem KVr.get {kvs : List (Key × PV)} {vs : List (Key × V)} (k : Key) : KVr K m H kvs vs → (getK kvs k = none ∧ valV vs k = none) ∨ ∃ x v, getK kvs k = some x ∧ valV vs k = some v ∧ RV K m H x v := by
  intro r
  induction r with
  | nil => exact .inl ⟨rfl, rfl⟩
  | @cons k' x v xs vs r t ih =>
    by_cases e : k' = k
    · refine .inr ⟨x, v, ?_, ?_, r⟩
      · simp [getK, e]
      · exact valV_pos e
    · have e1 : getK ((k', x) :: xs) k = getK xs k := by simp [getK, e]
      have e2 : valV ((k', v) :: vs) k = valV vs k := valV_neg e
      rw [e1, e2]
      exact ih
theorem KVr.empty {κ : Type} {kvs : List (κ × PV)} {vs : List (κ × V)} (r : KVr K m H kvs vs) : vs.isEmpty = kvs.isEmpty := by cases r <;> rfl
theorem KVr.any {kvs : List (Key × PV)} {vs : List (Key × V)} (k : Key) : KVr K m H kvs vs → (kvs.any fun kv => decide (kv.1 = k)) = vs.any fun kv => decide (kv.1 = k) := by
  intro r
  induction r with
  | nil => rfl
  | cons r t ih => rw [List.any_cons, List.any_cons, ih]
theorem KVr.app {κ : Type} {xs ys : List (κ × PV)} {us vs : List (κ × V)} : KVr K m H xs us → KVr K m H ys vs → KVr K m H (xs ++ ys) (us ++ vs) := by
  intro r s
  induction r with
  | nil => exact s
  | cons r t ih => exact .cons r ih
theorem KVr.put {kvs : List (Key × PV)} {vs : List (Key × V)} {k : Key} {x : PV} {v : V} (rx : RV K m H x v) (r : KVr K m H kvs vs) : KVr K m H (putP kvs k x) (putK vs k v) := by
  unfold putP putK
  rw [r.any k]
  by_cases e : (vs.any fun kv => decide (kv.1 = k)) = true
  · rw [if_pos e, if_pos e]
    clear e
    induction r with
    | nil => exact .nil
    | @cons k' y w xs vs r t ih =>
      rw [List.map_cons, List.map_cons]
      by_cases e : k' = k
      · simp only [e, if_true]
        exact .cons rx ih
      · simp only [e, if_false]
        exact .cons r ih
  · rw [if_neg e, if_neg e]
    exact r.app (.cons rx .nil)
theorem keyOf_rv {x : PV} {v : V} {k : Key} (r : RV K m H x v) (e : keyOf x = some k) : v = kV k := by
  cases r with
  | int i => cases e; rfl
  | str x h => cases e; rfl
  | _ => cases e
theorem ofKey_rv {k : Key} {v : V} {x : PV} (e : keyOf x = some k) : x = ofKey k := by
  cases x <;> cases e <;> rfl

/-! ### what is asked of an operator -/
/-- the value that f tells -/
def rBin (K : PySem.W.Frag) (f : Store → PV → PV → Option PV) : R2 := fun x y H Q => ∃ m S a b c, Rel K S m H ∧ RV K m H a x ∧ RV K m H b y ∧ f S a b = some c ∧ ∀ z m' H', Ext m H m' H' → Rel K S m' H' → RV K m' H' c z → Q z H'
def rCmp (K : PySem.W.Frag) (f : Store → PV → PV → Option Bool) : R2 := fun x y H Q => ∃ m S a b c, Rel K S m H ∧ RV K m H a x ∧ RV K m H b y ∧ f S a b = some c ∧ Q (.bl c) H
end
section
variable {X : Cx}
theorem OpR.imp {f : Value → Value → Sem Value} {r r' : R2} (h : OpR X f r) (k : ∀ x y H Q, r' x y H Q → r x y H Q) : OpR X f r' := fun pins s σ H x y v u Q I rx ry q => h pins s σ H x y v u Q I rx ry (k _ _ _ _ q)
/-- what is known of ==, !=, and of == within lists -/
def EqI (A : Around) (s : Shared) (a b : Value) (c : Bool) : Prop := SeqAt.EqAt A s a b c ∧ SeqAt.RcAt A s a b c ∧ SeqAt.RcNeAt A s a b (!c)
theorem flat_eq {K : PySem.W.Frag} {m : Mp} {H : Hp} {v u : PV} {x y : V} {a b : Value} (r : RV K m H v x) (t : RV K m H u y) (ra : RelV x a) (rb : RelV y b) (hv : flatP v = true) (hu : flatP u = true) (A : Around) (s : Shared) : EqI A s a b (eqP v u) := by
  cases r with
  | non =>
    obtain rfl : a = .none := ra
    cases t with
    | non => obtain rfl : b = .none := rb; exact ⟨SeqAt.EqAt.same _, SeqAt.RcAt.none_none, SeqAt.RcNeAt.none_none⟩
    | bl w => obtain rfl : b = .bool _ := rb; exact ⟨SeqAt.EqAt.none_bool _, SeqAt.RcAt.none_bool _, SeqAt.RcNeAt.none_bool _⟩
    | int w => obtain ⟨tb, rfl⟩ := rb; exact ⟨SeqAt.EqAt.none_int _ tb, SeqAt.RcAt.none_int _ tb, SeqAt.RcNeAt.none_int _ tb⟩
    | str w hw => obtain ⟨tb, rfl⟩ := rb; exact ⟨SeqAt.EqAt.none_str _ tb, SeqAt.RcAt.none_str _ tb, SeqAt.RcNeAt.none_str _ tb⟩
    | _ => cases hu
  | bl z =>
    obtain rfl : a = .bool _ := ra
    cases t with
    | non => obtain rfl : b = .none := rb; exact ⟨SeqAt.EqAt.bool_none _, SeqAt.RcAt.bool_none _, SeqAt.RcNeAt.bool_none _⟩
    | bl w => obtain rfl : b = .bool _ := rb; exact ⟨SeqAt.EqAt.bool_bool _ _, SeqAt.RcAt.bool_bool _ _, SeqAt.RcNeAt.bool_bool _ _⟩
    | int w => obtain ⟨tb, rfl⟩ := rb; exact ⟨SeqAt.EqAt.bool_int _ _ tb, SeqAt.RcAt.bool_int _ _ tb, SeqAt.RcNeAt.bool_int _ _ tb⟩
    | str w hw => obtain ⟨tb, rfl⟩ := rb; exact ⟨SeqAt.EqAt.bool_str _ _ tb, SeqAt.RcAt.bool_str _ _ tb, SeqAt.RcNeAt.bool_str _ _ tb⟩
    | _ => cases hu
  | int z =>
    obtain ⟨ta, rfl⟩ := ra
    cases t with
    | non => obtain rfl : b = .none := rb; exact ⟨SeqAt.EqAt.int_none _ ta, SeqAt.RcAt.int_none _ ta, SeqAt.RcNeAt.int_none _ ta⟩
    | bl w => obtain rfl : b = .bool _ := rb; exact ⟨SeqAt.EqAt.int_bool _ ta _, SeqAt.RcAt.int_bool _ ta _, SeqAt.RcNeAt.int_bool _ ta _⟩
    | int w => obtain ⟨tb, rfl⟩ := rb; exact ⟨SeqAt.EqAt.int_int _ ta _ tb, SeqAt.RcAt.int_int _ ta _ tb, SeqAt.RcNeAt.int_int _ ta _ tb⟩
    | str w hw => obtain ⟨tb, rfl⟩ := rb; exact ⟨SeqAt.EqAt.int_str _ ta _ tb, SeqAt.RcAt.int_str _ ta _ tb, SeqAt.RcNeAt.int_str _ ta _ tb⟩
    | _ => cases hu
  | str z hz =>
    obtain ⟨ta, rfl⟩ := ra
    cases t with
    | non => obtain rfl : b = .none := rb; exact ⟨SeqAt.EqAt.str_none _ ta, SeqAt.RcAt.str_none _ ta, SeqAt.RcNeAt.str_none _ ta⟩
    | bl w => obtain rfl : b = .bool _ := rb; exact ⟨SeqAt.EqAt.str_bool _ ta _, SeqAt.RcAt.str_bool _ ta _, SeqAt.RcNeAt.str_bool _ ta _⟩
    | int w => obtain ⟨tb, rfl⟩ := rb; exact ⟨SeqAt.EqAt.str_int _ ta _ tb, SeqAt.RcAt.str_int _ ta _ tb, SeqAt.RcNeAt.str_int _ ta _ tb⟩
    | str w hw => obtain ⟨tb, rfl⟩ := rb; exact ⟨SeqAt.EqAt.str_str _ ta _ tb, SeqAt.RcAt.str_str _ ta _ tb, SeqAt.RcNeAt.str_str _ ta _ tb⟩
    | _ => cases hu
  | _ => cases hv
theorem flat_same {K : PySem.W.Frag} {m : Mp} {H : Hp} {v u : PV} {x : V} (r : RV K m H v x) (t : RV K m H u x) (hv : flatP v = true) (hu : flatP u = true) : eqP v u = true := by
  cases r <;> cases t <;> first
    | rfl
    | exact beq_self_eq_true _
    | cases hv
    | cases hu
theorem flat_seq {K : PySem.W.Frag} {m : Mp} {H : Hp} {S : Store} {v u : PV} {x : V} {p : Bool × List PV} (rs : Rel K S m H) (r : RV K m H v x) (t : RV K m H u x) (hv : flatP v = true) (hu : seqK S u = some p) : False := by
  cases r <;> cases t <;> first
    | (cases hv; done)
    | (cases hu; done)
theorem seqK_at {K : PySem.W.Frag} {m : Mp} {H : Hp} {S : Store} {v : PV} {x : V} {p : Bool × List PV} (rs : Rel K S m H) (r : RV K m H v x) (e : seqK S v = some p) : ∃ l vs, x = .ref l ∧ RVs K m H p.2 vs ∧ (p.1 = true ∧ SqT K H l vs ∨ p.1 = false ∧ SqL K H l vs) := by
  have lists : (litems S v).map (fun xs => (false, xs)) = some p → ∃ l vs, x = .ref l ∧ RVs K m H p.2 vs ∧ (p.1 = true ∧ SqT K H l vs ∨ p.1 = false ∧ SqL K H l vs) := fun e => by
    cases h : litems S v with
    | none => rw [h] at e; cases e
    | some xs =>
      rw [h] at e
      cases e
      obtain ⟨a, vs, e1, e2, e3, _⟩ := litems_sq rs r h
      exact ⟨a, vs, e1, e3, .inr ⟨rfl, e2⟩⟩
  cases r with
  | tup hl h r => cases e; exact ⟨_, _, rfl, r, .inl ⟨rfl, h.sq⟩⟩
  | _ => exact lists e
theorem no_both {X : Cx} {pins : List (Addr × Obj)} {σ : St} {H : Hp} {s : Shared} (I : Inv X pins σ H s) {a : Addr} {vs ws : List V} (h : SqT X.K H a vs) (h' : SqL X.K H a ws) : False := by
  obtain ⟨_, _, p, _⟩ := I.tuple h
  obtain ⟨_, _, p', _⟩ := I.list h'
  obtain ⟨o, ho, hc, _⟩ := p
  obtain ⟨o', ho', hc', _⟩ := p'.isList
  rw [ho] at ho'
  cases ho'
  rw [hc] at hc'
  exact absurd hc' (by simp)
theorem eqL_same {K : PySem.W.Frag} {m : Mp} {H : Hp} {f : PV → PV → Option Bool} (hf : ∀ v u x c, RV K m H v x → RV K m H u x → f v u = some c → c = true) : ∀ {xs ys : List PV} {vs : List V} {c : Bool}, RVs K m H xs vs → RVs K m H ys vs → eqL f xs ys = some c → c = true
  | [], [], _, c, _, _, e => by cases e; rfl
  | [], _ :: _, _, _, r, t, _ => by cases r; cases t
  | _ :: _, [], _, _, r, t, _ => by cases t; cases r
  | x :: xs, y :: ys, _, c, r, t, e => by
    cases r with
    | cons r r' =>
      cases t with
      | cons t t' =>
        rw [eqL] at e
        cases h1 : f x y with
        | none => rw [h1] at e; cases e
        | some c1 =>
          rw [h1] at e
          cases h2 : eqL f xs ys with
          | none => rw [h2] at e; cases e
          | some c2 =>
            rw [h2] at e
            cases e
            rw [hf _ _ _ _ r t h1, eqL_same hf r' t' h2]
            rfl
theorem eqL_len {f : PV → PV → Option Bool} : ∀ {xs ys : List PV} {c : Bool}, xs.length ≠ ys.length → eqL f xs ys = some c → c = false
  | [], [], _, h, _ => absurd rfl h
  | [], _ :: _, _, _, e => by cases e; rfl
  | _ :: _, [], _, _, e => by cases e; rfl
  | x :: xs, y :: ys, c, h, e => by
    rw [eqL] at e
    cases h1 : f x y with
    | none => rw [h1] at e; cases e
    | some c1 =>
      rw [h1] at e
      cases h2 : eqL f xs ys with
      | none => rw [h2] at e; cases e
      | some c2 =>
        rw [h2] at e
        cases e
        rw [eqL_len (fun z => h (by rw [List.length_cons, List.length_cons, z])) h2, Bool.and_false]
section
variable {pins : List (Addr × Obj)} {σ : St} {H : Hp} {s : Shared} {S : Store} {m : Mp}
theorem eqG_same (I : Inv X pins σ H s) (rs : Rel X.K S m H) : ∀ (k : Nat) (v u : PV) (x : V) (c : Bool), RV X.K m H v x → RV X.K m H u x → eqG S k v u = some c → c = true
  | 0, _, _, _, _, _, _, e => by cases e
  | k + 1, v, u, x, c, r, t, e => by
    rw [eqG] at e
    by_cases hv : flatP v = true
    · rw [if_pos hv] at e
      by_cases hu : flatP u = true
      · rw [if_pos hu] at e
        cases e
        exact flat_same r t hv hu
      · rw [if_neg hu] at e
        cases h : seqK S u with
        | none => rw [h] at e; cases e
        | some p => exact (flat_seq rs r t hv h).elim
    · rw [if_neg hv] at e
      cases hp : seqK S v with
      | none => rw [hp] at e; cases e
      | some p =>
        rw [hp] at e
        simp only at e
        by_cases hu : flatP u = true
        · exact (flat_seq rs t r hu hp).elim
        · rw [if_neg hu] at e
          cases hq : seqK S u with
          | none => rw [hq] at e; cases e
          | some q =>
            rw [hq] at e
            simp only at e
            obtain ⟨l, vs, e1, r1, z1⟩ := seqK_at rs r hp
            obtain ⟨l', ws, e2, t1, z2⟩ := seqK_at rs t hq
            rw [e1] at e2
            cases e2
            have key : p.1 = q.1 ∧ vs = ws := by
              rcases z1 with ⟨a1, a2⟩ | ⟨a1, a2⟩ <;> rcases z2 with ⟨b1, b2⟩ | ⟨b1, b2⟩
              · exact ⟨by rw [a1, b1], I.tuple_inj a2 b2⟩
              · exact (no_both I a2 b2).elim
              · exact (no_both I b2 a2).elim
              · exact ⟨by rw [a1, b1], I.list_inj a2 b2⟩
            obtain ⟨kk, rfl⟩ := key
            unfold eqS at e
            rw [if_pos kk, if_neg (by simp only [Bool.and_eq_true, decide_eq_true_eq]; intro z; exact z.2 (by rw [r1.length, t1.length]))] at e
            exact eqL_same (fun v u x c r t e => eqG_same I rs k v u x c r t e) r1 t1 e
theorem eqL_ok {f : PV → PV → Option Bool} {A : Around} (hf : ∀ v u x y a b c, RV X.K m H v x → RV X.K m H u y → RelV x a → RelV y b → f v u = some c → SeqAt.EqAt A s a b c) :
    ∀ {xs ys : List PV} {vs ws : List V} {its jts : List Value} {c : Bool}, RVs X.K m H xs vs → RVs X.K m H ys ws → Vals vs its → Vals ws jts → eqL f xs ys = some c →
    ∃ e : Nat → Bool, (∀ j (h1 : j < its.length) (h2 : j < jts.length), SeqAt.EqAt A s its[j] jts[j] (e j)) ∧ ((List.range (min its.length jts.length)).all e && its.length == jts.length) = c
  | [], [], _, _, _, _, c, r, t, ra, rb, e => by
    cases r; cases t; cases ra; cases rb; cases e
    exact ⟨fun _ => true, fun j h1 _ => absurd h1 (Nat.not_lt_zero _), rfl⟩
  | [], _ :: _, _, _, _, _, c, r, t, ra, rb, e => by
    cases r; cases t; cases ra; cases rb; cases e
    exact ⟨fun _ => true, fun j h1 _ => absurd h1 (Nat.not_lt_zero _), by simp⟩
  | _ :: _, [], _, _, _, _, c, r, t, ra, rb, e => by
    cases r; cases t; cases ra; cases rb; cases e
    exact ⟨fun _ => true, fun j _ h1 => absurd h1 (Nat.not_lt_zero _), by simp⟩
  | x :: xs, y :: ys, _, _, _, _, c, r, t, ra, rb, e => by
    cases r with
    | cons r r' =>
      cases t with
      | cons t t' =>
        cases ra with
        | cons ra ra' =>
          cases rb with
          | cons rb rb' =>
            rename_i i its j jts
            rw [eqL] at e
            cases h1 : f x y with
            | none => rw [h1] at e; cases e
            | some c1 =>
              rw [h1] at e
              cases h2 : eqL f xs ys with
              | none => rw [h2] at e; cases e
              | some c2 =>
                rw [h2] at e
                cases e
                obtain ⟨g, g1, g2⟩ := eqL_ok hf r' t' ra' rb' h2
                refine ⟨fun n => match n with | 0 => c1 | n + 1 => g n, fun n k1 k2 => ?_, ?_⟩
                · cases n with
                  | zero => exact hf _ _ _ _ _ _ _ r t ra rb h1
                  | succ n => exact g1 n (Nat.lt_of_succ_lt_succ k1) (Nat.lt_of_succ_lt_succ k2)
                · rw [← g2, List.length_cons, List.length_cons, Nat.succ_min_succ, List.range_succ_eq_map, List.all_cons, List.all_map, ← Bool.and_assoc]
                  congr 1
                  simp
theorem seqK_noflat {v : PV} {p : Bool × List PV} (h : seqK S v = some p) : flatP v = false := by
  cases v <;> first | rfl | cases h
theorem flat_seqI {v u : PV} {x y : V} {a b : Value} {q : Bool × List PV} (I : Inv X pins σ H s) (rs : Rel X.K S m H) (r : RV X.K m H v x) (t : RV X.K m H u y) (ra : RelV x a) (rb : RelV y b) (hv : flatP v = true) (hq : seqK S u = some q) {A : Around} (hu : A.units < cLine) : EqI A s a b false ∧ EqI A s b a false := by
  obtain ⟨l, ws, rfl, t1, z⟩ := seqK_at rs t hq
  obtain rfl : b = .ref l := rb
  rcases z with ⟨_, z⟩ | ⟨_, z⟩
  · obtain ⟨its, rv, p, _⟩ := I.tuple z
    have p : s.heap.IsTuple l its.toArray := p
    cases r with
    | non => obtain rfl : a = .none := ra; exact ⟨⟨.none_tuple p hu, .none_tuple p hu, .none_tuple p hu⟩, .tuple_none p hu, .tuple_none p hu, .tuple_none p hu⟩
    | bl b => obtain rfl : a = .bool _ := ra; exact ⟨⟨.bool_tuple _ p hu, .bool_tuple _ p hu, .bool_tuple _ p hu⟩, .tuple_bool _ p hu, .tuple_bool _ p hu, .tuple_bool _ p hu⟩
    | int i => obtain ⟨t, rfl⟩ := ra; exact ⟨⟨.int_tuple _ _ p hu, .int_tuple _ _ p hu, .int_tuple _ _ p hu⟩, .tuple_int _ _ p hu, .tuple_int _ _ p hu, .tuple_int _ _ p hu⟩
    | str i _ => obtain ⟨t, rfl⟩ := ra; exact ⟨⟨.str_tuple _ _ p hu, .str_tuple _ _ p hu, .str_tuple _ _ p hu⟩, .tuple_str _ _ p hu, .tuple_str _ _ p hu, .tuple_str _ _ p hu⟩
    | _ => cases hv
  · obtain ⟨its, rv, p, _⟩ := I.list z
    have p : s.heap.IsList l its.toArray := p.isList
    cases r with
    | non => obtain rfl : a = .none := ra; exact ⟨⟨.none_list p hu, .none_list p hu, .none_list p hu⟩, .list_none p hu, .list_none p hu, .list_none p hu⟩
    | bl b => obtain rfl : a = .bool _ := ra; exact ⟨⟨.bool_list _ p hu, .bool_list _ p hu, .bool_list _ p hu⟩, .list_bool _ p hu, .list_bool _ p hu, .list_bool _ p hu⟩
    | int i => obtain ⟨t, rfl⟩ := ra; exact ⟨⟨.int_list _ _ p hu, .int_list _ _ p hu, .int_list _ _ p hu⟩, .list_int _ _ p hu, .list_int _ _ p hu, .list_int _ _ p hu⟩
    | str i _ => obtain ⟨t, rfl⟩ := ra; exact ⟨⟨.str_list _ _ p hu, .str_list _ _ p hu, .str_list _ _ p hu⟩, .list_str _ _ p hu, .list_str _ _ p hu, .list_str _ _ p hu⟩
    | _ => cases hv
/-- == by values -/
theorem eqG_ok (I : Inv X pins σ H s) (rs : Rel X.K S m H) : ∀ (k : Nat) (A : Around) (v u : PV) (x y : V) (a b : Value) (c : Bool), RV X.K m H v x → RV X.K m H u y → RelV x a → RelV y b → eqG S k v u = some c → A.units + k < cLine → EqI A s a b c
  | 0, _, _, _, _, _, _, _, _, _, _, _, _, e, _ => by cases e
  | k + 1, A, v, u, x, y, a, b, c, r, t, ra, rb, e, hU => by
    have e0 := e
    have hu0 : A.units < cLine := by omega
    rw [eqG] at e
    by_cases hv : flatP v = true
    · rw [if_pos hv] at e
      by_cases hu : flatP u = true
      · rw [if_pos hu] at e
        cases e
        exact flat_eq r t ra rb hv hu A s
      · rw [if_neg hu] at e
        cases h : seqK S u with
        | none => rw [h] at e; cases e
        | some p => rw [h] at e; cases e; exact (flat_seqI I rs r t ra rb hv h hu0).1
    · rw [if_neg hv] at e
      cases hp : seqK S v with
      | none => rw [hp] at e; cases e
      | some p =>
        rw [hp] at e
        simp only at e
        by_cases hu : flatP u = true
        · rw [if_pos hu] at e
          cases e
          exact (flat_seqI I rs t r rb ra hu hp hu0).2
        · rw [if_neg hu] at e
          cases hq : seqK S u with
          | none => rw [hq] at e; cases e
          | some q =>
            rw [hq] at e
            simp only at e
            obtain ⟨l, vs, rfl, r1, z1⟩ := seqK_at rs r hp
            obtain ⟨l', ws, rfl, t1, z2⟩ := seqK_at rs t hq
            obtain rfl : a = .ref l := ra
            obtain rfl : b = .ref l' := rb
            have eqat : SeqAt.RcAt A s (.ref l) (.ref l') c → SeqAt.EqAt A s (.ref l) (.ref l') c := fun h => by
              by_cases hll : l = l'
              · subst hll
                rw [eqG_same I rs (k + 1) v u (.ref l) c r t e0]
                exact SeqAt.EqAt.same _
              · exact SeqAt.EqAt.of_refs hll h
            have wrap : SeqAt.RcAt A s (.ref l) (.ref l') c → SeqAt.RcNeAt A s (.ref l) (.ref l') (!c) → EqI A s (.ref l) (.ref l') c := fun h1 h2 => ⟨eqat h1, h1, h2⟩
            have hrec : ∀ v u x y a b c, RV X.K m H v x → RV X.K m H u y → RelV x a → RelV y b → eqG S k v u = some c → SeqAt.EqAt A.in1 s a b c := fun v u x y a b c r t ra rb e => (eqG_ok I rs k A.in1 v u x y a b c r t ra rb e (by show A.units + 1 + k < cLine; omega)).1
            unfold eqS at e
            rcases z1 with ⟨a1, a2⟩ | ⟨a1, a2⟩ <;> rcases z2 with ⟨b1, b2⟩ | ⟨b1, b2⟩
            · rw [if_pos (by rw [a1, b1]), if_neg (by rw [a1]; simp)] at e
              obtain ⟨its, rv, p1, _⟩ := I.tuple a2
              obtain ⟨jts, rw', p2, _⟩ := I.tuple b2
              obtain ⟨g, g1, g2⟩ := eqL_ok hrec r1 t1 rv rw' e
              have h1 := SeqAt.RcAt.tuples (A := A) (e := g) (show s.heap.IsTuple l its.toArray from p1) (show s.heap.IsTuple l' jts.toArray from p2) hu0 (fun j j1 j2 => by simpa using g1 j (by simpa using j1) (by simpa using j2))
              have h2 := SeqAt.RcNeAt.tuples (A := A) (e := g) (show s.heap.IsTuple l its.toArray from p1) (show s.heap.IsTuple l' jts.toArray from p2) hu0 (fun j j1 j2 => by simpa using g1 j (by simpa using j1) (by simpa using j2))
              rw [List.size_toArray, List.size_toArray, g2] at h1 h2
              exact wrap h1 h2
            · rw [if_neg (by rw [a1, b1]; simp)] at e
              cases e
              obtain ⟨its, rv, p1, _⟩ := I.tuple a2
              obtain ⟨jts, rw', p2, _⟩ := I.list b2
              exact wrap (SeqAt.RcAt.tuple_list p1 p2.isList hu0) (SeqAt.RcNeAt.tuple_list p1 p2.isList hu0)
            · rw [if_neg (by rw [a1, b1]; simp)] at e
              cases e
              obtain ⟨its, rv, p1, _⟩ := I.list a2
              obtain ⟨jts, rw', p2, _⟩ := I.tuple b2
              exact wrap (SeqAt.RcAt.list_tuple p1.isList p2 hu0) (SeqAt.RcNeAt.list_tuple p1.isList p2 hu0)
            · rw [if_pos (by rw [a1, b1])] at e
              obtain ⟨its, rv, p1, _⟩ := I.list a2
              obtain ⟨jts, rw', p2, _⟩ := I.list b2
              have n1 : its.length = p.2.length := by rw [← rv.length, ← r1.length]
              have n2 : jts.length = q.2.length := by rw [← rw'.length, ← t1.length]
              by_cases hl : p.2.length = q.2.length
              · rw [if_neg (by simp [hl])] at e
                obtain ⟨g, g1, g2⟩ := eqL_ok hrec r1 t1 rv rw' e
                have hl' : its.toArray.size = jts.toArray.size := by simp [n1, n2, hl]
                have h1 := SeqAt.RcAt.lists (A := A) (e := g) p1.isList p2.isList hl' hu0 (fun j j1 j2 => by simpa using g1 j (by simpa using j1) (by simpa using j2))
                have h2 := SeqAt.RcNeAt.lists (A := A) (e := g) p1.isList p2.isList hl' hu0 (fun j j1 j2 => by simpa using g1 j (by simpa using j1) (by simpa using j2))
                have g3 : (List.range its.toArray.size).all g = c := by
                  rw [← g2, n1, n2, hl, Nat.min_self, beq_self_eq_true, Bool.and_true]
                  simp [n1, hl]
                rw [g3] at h1 h2
                exact wrap h1 h2
              · rw [if_pos (by simp [a1, hl])] at e
                cases e
                have hl' : (its.toArray.size != jts.toArray.size) = true := by simp [n1, n2, hl]
                exact wrap (SeqAt.RcAt.lists_lengths p1.isList p2.isList hl' hu0) (SeqAt.RcNeAt.lists_lengths p1.isList p2.isList hl' hu0)
/-- x in .. -/
theorem inD_ok (I : Inv X pins σ H s) (rs : Rel X.K S m H) {A : Around} {v : PV} {x : V} {a : Value} {xs : List PV} {vs : List V} {its : List Value} {c : Bool} (r : RV X.K m H v x) (ra : RelV x a) (rx : RVs X.K m H xs vs) (rv : Vals vs its) (e : inD S v xs = some c) (hU : A.units + 171 < cLine) :
    ∃ g : Value → Bool, (∀ y, y ∈ its → SeqAt.EqAt A.in1 s y a (g y)) ∧ its.any g = c := by
  classical
  unfold inD at e
  obtain ⟨bs, e1, e2⟩ : ∃ bs, mapO (fun z => eqD S z v) xs = some bs ∧ bs.any id = c := by
    cases h : mapO (fun z => eqD S z v) xs with
    | none => rw [h] at e; cases e
    | some bs => rw [h] at e; exact ⟨bs, rfl, Option.some.inj e⟩
  have one : ∀ z w y c, RV X.K m H z w → RelV w y → eqD S z v = some c → SeqAt.EqAt A.in1 s y a c := fun z w y c h1 h2 h3 => (eqG_ok I rs 170 A.in1 z v w x y a c h1 r h2 ra h3 (by show A.units + 1 + 170 < cLine; omega)).1
  refine ⟨fun y => decide (∃ z w, z ∈ xs ∧ RV X.K m H z w ∧ RelV w y ∧ eqD S z v = some true), ?_, ?_⟩
  · have all : ∀ {xs : List PV} {vs : List V} {its : List Value} {bs : List Bool}, RVs X.K m H xs vs → Vals vs its → mapO (fun z => eqD S z v) xs = some bs → ∀ y ∈ its, ∃ z w c, z ∈ xs ∧ RV X.K m H z w ∧ RelV w y ∧ eqD S z v = some c := by
      intro xs
      induction xs with
      | nil => intro vs its bs rx rv _ y hy; cases rx; cases rv; cases hy
      | cons z zs ih =>
        intro vs its bs rx rv e y hy
        cases rx with
        | @cons _ w _ ws rz rr =>
        rw [mapO] at e
        cases h1 : eqD S z v with
        | none => rw [h1] at e; cases e
        | some c1 =>
          rw [h1] at e
          cases h2 : mapO (fun z => eqD S z v) zs with
          | none => rw [h2] at e; cases e
          | some cs =>
            cases rv with
            | cons rv rv' =>
              rcases List.mem_cons.mp hy with e' | e'
              · subst e'
                exact ⟨z, w, c1, List.mem_cons_self, rz, rv, h1⟩
              · obtain ⟨z', w', c', k1, k2⟩ := ih rr rv' h2 y e'
                exact ⟨z', w', c', List.mem_cons_of_mem _ k1, k2⟩
    intro y hy
    by_cases hw : ∃ z w, z ∈ xs ∧ RV X.K m H z w ∧ RelV w y ∧ eqD S z v = some true
    · simp only [decide_eq_true hw]
      obtain ⟨z, w, _, h2, h3, h4⟩ := hw
      exact one z w y true h2 h3 h4
    · simp only [decide_eq_false hw]
      obtain ⟨z, w, c', h1, h2, h3, h4⟩ := all rx rv e1 y hy
      cases c' with
      | true => exact (hw ⟨z, w, h1, h2, h3, h4⟩).elim
      | false => exact one z w y false h2 h3 h4
  · rw [← e2]
    have tr : ∀ {xs : List PV} {bs : List Bool}, mapO (fun z => eqD S z v) xs = some bs → ∀ z ∈ xs, eqD S z v = some true → bs.any id = true := by
      intro xs
      induction xs with
      | nil => intro bs _ z hz; cases hz
      | cons y ys ih =>
        intro bs e z hz h
        rw [mapO] at e
        cases h1 : eqD S y v with
        | none => rw [h1] at e; cases e
        | some c1 =>
          rw [h1] at e
          cases h2 : mapO (fun z => eqD S z v) ys with
          | none => rw [h2] at e; cases e
          | some cs =>
            rw [h2] at e
            cases e
            rcases List.mem_cons.mp hz with e' | e'
            · subst e'
              rw [h] at h1
              cases h1
              rfl
            · rw [List.any_cons, ih h2 z e' h, Bool.or_true]
    have rt : ∀ {xs : List PV} {vs : List V} {its : List Value} {bs : List Bool}, RVs X.K m H xs vs → Vals vs its → mapO (fun z => eqD S z v) xs = some bs → bs.any id = true → ∃ y ∈ its, ∃ z w, z ∈ xs ∧ RV X.K m H z w ∧ RelV w y ∧ eqD S z v = some true := by
      intro xs
      induction xs with
      | nil => intro vs its bs rx rv e h; cases e; cases h
      | cons z zs ih =>
        intro vs its bs rx rv e h
        cases rx with
        | @cons _ w _ ws rz rr =>
        rw [mapO] at e
        cases h1 : eqD S z v with
        | none => rw [h1] at e; cases e
        | some c1 =>
          rw [h1] at e
          cases h2 : mapO (fun z => eqD S z v) zs with
          | none => rw [h2] at e; cases e
          | some cs =>
            rw [h2] at e
            cases e
            cases rv with
            | @cons _ i _ is rv rv' =>
              cases c1 with
              | true => exact ⟨i, List.mem_cons_self, z, w, List.mem_cons_self, rz, rv, h1⟩
              | false =>
                obtain ⟨y, k1, z', w', k2, k3⟩ := ih rr rv' h2 h
                exact ⟨y, List.mem_cons_of_mem _ k1, z', w', List.mem_cons_of_mem _ k2, k3⟩
    cases hb : bs.any id with
    | true =>
      obtain ⟨y, k1, k2⟩ := rt rx rv e1 hb
      exact List.any_eq_true.mpr ⟨y, k1, decide_eq_true k2⟩
    | false =>
      rw [List.any_eq_false]
      intro y hy hw
      obtain ⟨z, w, h1, _, _, h4⟩ := of_decide_eq_true hw
      rw [tr e1 z h1 h4] at hb
      cases hb
end
section
variable {K : PySem.W.Frag} {S : Store} {m : Mp} {H : Hp}
/-- the pairs of a dict -/
theorem ditems_dK (rs : Rel K S m H) {v : PV} {x : V} {kvs : List (Key × PV)} (h : RV K m H v x) (e : ditems S v = some kvs) : ∃ a vs, x = .ref a ∧ H a = some (.dK vs) ∧ KVr K m H kvs vs := by
  cases h with
  | dv hl n h r => cases e; exact ⟨_, _, rfl, h, r.zip⟩
  | @loc n a h =>
    rw [ditems] at e
    cases q : S[n]? with
    | none => rw [q] at e; cases e
    | some o =>
      rw [q] at e
      have ro := rs.at q h
      cases o with
      | dic ys => obtain ⟨vs, h1, h2⟩ := ro; cases e; exact ⟨_, _, rfl, h1, h2⟩
      | lst xs => cases e
      | ins c fs => cases e
  | _ => cases e
theorem kv_at {kvs : List (Key × PV)} {vs : List (Key × V)} {vb : List (Key × Value)} (r : KVr K m H kvs vs) (rb : KV vs vb) (k : Key) : (getK kvs k = none ∧ valueAt vb k = none) ∨ ∃ x v y, getK kvs k = some x ∧ valueAt vb k = some y ∧ RV K m H x v ∧ RelV v y := by
  rcases r.get k with ⟨h1, h2⟩ | ⟨x, v, h1, h2, h3⟩
  · have rr : RelO none (valueAt vb k) := by rw [← h2]; exact rb.val k
    refine .inl ⟨h1, ?_⟩
    cases hv : valueAt vb k with
    | none => rfl
    | some y => rw [hv] at rr; cases rr
  · have rr : RelO (some v) (valueAt vb k) := by rw [← h2]; exact rb.val k
    obtain ⟨y, hy, ry⟩ := rr.some_of
    exact .inr ⟨x, v, y, h1, hy, h3, ry⟩
end
theorem hitsX {X : Cx} {pins : List (Addr × Obj)} {σ : St} {H : Hp} {s : Shared} {m : Mp} {S : Store} (I : Inv X pins σ H s) (rs : Rel X.K S m H) {A : Around} (hA : A.units + 170 < cLine) {kb : List (Key × PV)} {vs : List (Key × V)} {vb : List (Key × Value)} (rb : KVr X.K m H kb vs) (tb : KV vs vb) :
    ∀ {ka : List (Key × PV)} {us : List (Key × V)} {va : List (Key × Value)} {c : Bool}, KVr X.K m H ka us → KV us va → eqH (eqD S) kb ka = some c → PySem.W.KeqHits A s vb va c := by
  intro ka us va c ra
  induction ra generalizing va c with
  | nil =>
    intro ta e
    unfold KV at ta
    cases ta
    cases e
    exact .nil
  | @cons k x v xs ws r t ih =>
    intro ta e
    unfold KV at ta
    cases ta with
    | @cons p q ps qs h ta =>
      obtain ⟨k', y⟩ := q
      obtain ⟨h1, h2⟩ := h
      have h1 : k = k' := h1
      subst h1
      have h2 : RelV v y := h2
      rw [eqH] at e
      rcases kv_at (rb) tb k with ⟨g1, g2⟩ | ⟨x', v', y', g1, g2, g3, g4⟩
      · rw [g1] at e
        cases e
        exact .miss g2
      · rw [g1] at e
        simp only at e
        cases he : eqD S x x' with
        | none => rw [he] at e; cases e
        | some ee =>
          rw [he] at e
          simp only at e
          cases hr : eqH (eqD S) kb xs with
          | none => rw [hr] at e; cases e
          | some bb =>
            rw [hr] at e
            cases e
            exact .hit g2 (eqG_ok I rs 170 A x x' v v' y y' ee r g3 h2 g4 he hA).1 (ih ta hr)
/-- two dicts -/
theorem dict_eq {X : Cx} (hu : X.A.units + 190 < cLine) {pins : List (Addr × Obj)} {σ : St} {H : Hp} {s : Shared} {m : Mp} {S : Store} {a b : PV} {x y : V} {v u : Value} {c : Bool} {ka kb : List (Key × PV)} (I : Inv X pins σ H s) (rs : Rel X.K S m H) (ra : RV X.K m H a x) (rb : RV X.K m H b y) (rx : RelV x v) (ry : RelV y u)
    (g1 : ditems S a = some ka) (g2 : ditems S b = some kb) (e : (if ka.length = kb.length then eqH (eqD S) kb ka else some false) = some c) {E : Value → Shared → Prop} :
    (∀ {Q : Value → Shared → Prop}, Q (.bool c) s → wpAny (model X.prog X.w) X.A (compareOp .Eq v u) Q E s) ∧ ∀ {Q : Value → Shared → Prop}, Q (.bool (!c)) s → wpAny (model X.prog X.w) X.A (compareOp .NotEq v u) Q E s := by
  obtain ⟨pa, ws, rfl, ha, ka'⟩ := ditems_dK rs ra g1
  obtain ⟨pb, zs, rfl, hb, kb'⟩ := ditems_dK rs rb g2
  obtain rfl : v = Value.ref pa := rx
  obtain rfl : u = Value.ref pb := ry
  obtain ⟨_, ya, va, ta, da⟩ := (show ObjOk X.prog X.w H s.heap pa (.dK ws) from I.hok pa _ ha)
  obtain ⟨_, yb, vb, tb, db⟩ := (show ObjOk X.prog X.w H s.heap pb (.dK zs) from I.hok pb _ hb)
  have la : ∀ {ks : List (Key × PV)} {us : List (Key × V)}, KVr X.K m H ks us → ks.length = us.length := fun {ks us} r => by
    induction r with
    | nil => rfl
    | cons _ _ ih => rw [List.length_cons, List.length_cons, ih]
  have l1 : ka.length = va.length := (la ka').trans ta.length
  have l2 : kb.length = vb.length := (la kb').trans tb.length
  have hin : X.A.in1.units + 170 < cLine := by
    have : X.A.in1.units ≤ X.A.units + 1 := Nat.le_refl _
    omega
  by_cases hl : ka.length = kb.length
  · rw [if_pos hl] at e
    have hits := hitsX I rs (A := X.A.in1) hin kb' tb ka' ta e
    have hc : (va.length == vb.length && c) = c := by rw [show (va.length == vb.length) = true from by rw [beq_iff_eq]; omega, Bool.true_and]
    exact ⟨fun {Q} q => PySem.W.keq_eq (knd := mixKind X.prog X.w) (r := c) ya yb da db (by omega) (fun _ => hits) (by rw [hc]; exact q), fun {Q} q => PySem.W.keq_ne (knd := mixKind X.prog X.w) (r := c) ya yb da db (by omega) (fun _ => hits) (by rw [hc]; exact q)⟩
  · rw [if_neg hl] at e
    cases e
    have hc : ∀ r : Bool, (va.length == vb.length && r) = false := fun r => by rw [show (va.length == vb.length) = false from by rw [beq_eq_false_iff_ne]; omega]; rfl
    exact ⟨fun {Q} q => PySem.W.keq_eq (knd := mixKind X.prog X.w) (r := true) ya yb da db (by omega) (fun h => absurd (l1.trans (h.trans l2.symm)) hl) (by rw [hc]; exact q), fun {Q} q => PySem.W.keq_ne (knd := mixKind X.prog X.w) (r := true) ya yb da db (by omega) (fun h => absurd (l1.trans (h.trans l2.symm)) hl) (by rw [hc]; exact q)⟩
theorem eqX_cases {S : Store} {a b : PV} {c : Bool} (e : eqX S a b = some c) : eqD S a b = some c ∨ ∃ ka kb, ditems S a = some ka ∧ ditems S b = some kb ∧ (if ka.length = kb.length then eqH (eqD S) kb ka else some false) = some c := by
  unfold eqX at e
  split at e
  · split at e
    · rename_i h1 _ _ h2; exact .inr ⟨_, _, h1, h2, e⟩
    · exact .inl e
  · exact .inl e
theorem oc_eq (hu : X.A.units + 190 < cLine) : OpR X (compareOp .Eq) (rCmp X.K (cmpV .Eq)) := by
  intro pins s σ H x y v u Q I rx ry ⟨m, S, a, b, c, rs, ra, rb, e, q⟩
  rcases eqX_cases e with e | ⟨ka, kb, g1, g2, e⟩
  · exact (eqG_ok I rs 170 X.A a b x y v u c ra rb rx ry e (by omega)).2.1 _ _ _ _ ⟨.bl _, H, I, rfl, q⟩
  · exact (dict_eq hu I rs ra rb rx ry g1 g2 e).1 ⟨.bl _, H, I, rfl, q⟩
theorem oc_ne (hu : X.A.units + 190 < cLine) : OpR X (compareOp .NotEq) (rCmp X.K (cmpV .NotEq)) := by
  intro pins s σ H x y v u Q I rx ry ⟨m, S, a, b, c, rs, ra, rb, e, q⟩
  have e : (eqX S a b).map (!·) = some c := e
  cases z : eqX S a b with
  | none => rw [z] at e; cases e
  | some c' =>
    rw [z] at e
    have e' : (!c') = c := Option.some.inj e
    rcases eqX_cases z with z | ⟨ka, kb, g1, g2, z⟩
    · exact (eqG_ok I rs 170 X.A a b x y v u c' ra rb rx ry z (by omega)).2.2 _ _ _ _ ⟨.bl _, H, I, rfl, by rw [e']; exact q⟩
    · exact (dict_eq hu I rs ra rb rx ry g1 g2 z).2 ⟨.bl _, H, I, rfl, by rw [e']; exact q⟩
/-- .. in a list or a tuple, a text, a dict -/
theorem isIn_cases {K : PySem.W.Frag} {m : Mp} {H : Hp} {S : Store} {a b : PV} {x y : V} {c : Bool} (rs : Rel K S m H) (ra : RV K m H a x) (rb : RV K m H b y) (e : isIn S a b = some c) :
    (∃ i j, x = .str i ∧ y = .str j ∧ c = !(Builtin.Str.occurrences j i 0 j.length 1).isEmpty) ∨
    (∃ p xs vs, y = .ref p ∧ (SqL K H p vs ∨ SqT K H p vs) ∧ RVs K m H xs vs ∧ inD S a xs = some c) ∨
    ∃ p o, y = .ref p ∧ DGet H p x o ∧ c = o.isSome := by
  cases rb with
  | str z hz =>
    cases ra with
    | str w hw =>
      left
      have e : some (!(Builtin.Str.occurrences z w 0 z.length 1).isEmpty) = some c := e
      exact ⟨w, z, rfl, rfl, (Option.some.inj e).symm⟩
    | _ => cases e
  | @tup xs vs p hl h r => exact .inr (.inl ⟨p, xs, vs, rfl, .inr h.sq, r, e⟩)
  | @lv xs vs p hl n h r => exact .inr (.inl ⟨p, xs, vs, rfl, .inl (.of h), r, e⟩)
  | @dv ks xs vs p hl n h r =>
    rw [isIn] at e
    cases hk : keyOf a with
    | none => rw [hk] at e; cases e
    | some k =>
      rw [hk] at e
      have e : some (getK (ks.zip xs) k).isSome = some c := e
      have ek := keyOf_rv ra hk
      refine .inr (.inr ⟨p, valV (ks.zip vs) k, rfl, ?_, ?_⟩)
      · rw [ek]; exact .k h
      · rcases r.zip.get k with ⟨g1, g2⟩ | ⟨z, v, g1, g2, _⟩
        · rw [g1] at e; rw [g2]; exact (Option.some.inj e).symm
        · rw [g1] at e; rw [g2]; exact (Option.some.inj e).symm
  | @loc n p h =>
    cases q : S[n]? with
    | none => rw [isIn, q] at e; simp only [items, q] at e; cases e
    | some o =>
      have ro := rs.at q h
      cases o with
      | lst ys =>
        obtain ⟨hl, vs, h1, h2⟩ := ro
        rw [isIn, q] at e
        simp only [items, q] at e
        exact .inr (.inl ⟨p, ys, vs, rfl, .inl (.of h1), h2, e⟩)
      | dic kvs =>
        obtain ⟨vs, h1, h2⟩ := ro
        rw [isIn, q] at e
        simp only at e
        cases hk : keyOf a with
        | none => rw [hk] at e; cases e
        | some k =>
          rw [hk] at e
          have e : some (getK kvs k).isSome = some c := e
          have ek := keyOf_rv ra hk
          refine .inr (.inr ⟨p, valV vs k, rfl, ?_, ?_⟩)
          · rw [ek]; exact .k h1
          · rcases h2.get k with ⟨g1, g2⟩ | ⟨z, v, g1, g2, _⟩
            · rw [g1] at e; rw [g2]; exact (Option.some.inj e).symm
            · rw [g1] at e; rw [g2]; exact (Option.some.inj e).symm
      | ins c fs => rw [isIn, q] at e; simp only [items, q] at e; cases e
  | _ => cases e
theorem any_arr {its : List Value} {g : Value → Bool} {c : Bool} (h : its.any g = c) : its.toArray.any g = c := by rw [← h]; simp
theorem oc_in (hu : X.A.units + 190 < cLine) : OpR X (compareOp .In) (rCmp X.K (cmpV .In)) := by
  intro pins s σ H x y v u Q I rx ry ⟨m, S, a, b, c, rs, ra, rb, e, q⟩
  rcases isIn_cases rs ra rb (show isIn S a b = some c from e) with ⟨i, j, e1, e2, e3⟩ | ⟨p, xs, vs, e1, e2, e3, e4⟩ | ⟨p, o, e1, e2, e3⟩
  · exact op_in_str pins s σ H x y v u Q I rx ry ⟨i, j, e1, e2, by rw [← e3]; exact q⟩
  · subst e1
    obtain rfl : u = Value.ref p := ry
    rcases e2 with e2 | e2
    · obtain ⟨its, rv, p1, _⟩ := I.list e2
      obtain ⟨g, g1, g2⟩ := inD_ok (A := X.A) I rs ra rx e3 rv e4 (by omega)
      exact SeqAt.in_listAt g p1.isList (fun y hy => g1 y (by simpa using hy)) ⟨.bl _, H, I, rfl, by rw [any_arr g2]; exact q⟩
    · obtain ⟨its, rv, p1, _⟩ := I.tuple e2
      obtain ⟨g, g1, g2⟩ := inD_ok (A := X.A) I rs ra rx e3 rv e4 (by omega)
      exact SeqAt.in_tupleAt g (show s.heap.IsTuple p its.toArray from p1) (fun y hy => g1 y (by simpa using hy)) ⟨.bl _, H, I, rfl, by rw [any_arr g2]; exact q⟩
  · subst e1
    obtain rfl : u = Value.ref p := ry
    exact d_in (by omega) I e2 rx fun s' I' => ⟨.bl c, H, I', by rw [e3]; rfl, q⟩
theorem oc_notin (hu : X.A.units + 190 < cLine) : OpR X (compareOp .NotIn) (rCmp X.K (cmpV .NotIn)) := by
  intro pins s σ H x y v u Q I rx ry ⟨m, S, a, b, c, rs, ra, rb, e, q⟩
  have e : (isIn S a b).map (!·) = some c := e
  cases z : isIn S a b with
  | none => rw [z] at e; cases e
  | some c' =>
    rw [z] at e
    have ec : (!c') = c := Option.some.inj e
    rcases isIn_cases rs ra rb z with ⟨i, j, e1, e2, e3⟩ | ⟨p, xs, vs, e1, e2, e3, e4⟩ | ⟨p, o, e1, e2, e3⟩
    · exact op_notIn_str pins s σ H x y v u Q I rx ry ⟨i, j, e1, e2, by rw [← e3, ec]; exact q⟩
    · subst e1
      obtain rfl : u = Value.ref p := ry
      rcases e2 with e2 | e2
      · obtain ⟨its, rv, p1, _⟩ := I.list e2
        obtain ⟨g, g1, g2⟩ := inD_ok (A := X.A) I rs ra rx e3 rv e4 (by omega)
        exact SeqAt.notIn_listAt g p1.isList (fun y hy => g1 y (by simpa using hy)) ⟨.bl _, H, I, rfl, by rw [any_arr g2, ec]; exact q⟩
      · obtain ⟨its, rv, p1, _⟩ := I.tuple e2
        obtain ⟨g, g1, g2⟩ := inD_ok (A := X.A) I rs ra rx e3 rv e4 (by omega)
        exact SeqAt.notIn_tupleAt g (show s.heap.IsTuple p its.toArray from p1) (fun y hy => g1 y (by simpa using hy)) ⟨.bl _, H, I, rfl, by rw [any_arr g2, ec]; exact q⟩
    · subst e1
      obtain rfl : u = Value.ref p := ry
      exact d_notIn (by omega) I e2 rx fun s' I' => ⟨.bl c, H, I', by rw [← e3, ec]; rfl, q⟩
theorem oc_is : OpR X (compareOp .Is) (rCmp X.K (cmpV .Is)) := by
  intro pins s σ H x y v u Q I rx ry ⟨m, S, a, b, c, rs, ra, rb, e, q⟩
  cases rb with
  | non =>
    have e : some (decide (a = .non)) = some c := e
    refine op_isN pins s σ H x .non v u Q I rx ry ⟨rfl, ?_⟩
    have : decide (x = V.non) = decide (a = PV.non) := by cases ra <;> simp
    rw [this, Option.some.inj e]
    exact q
  | bl b' =>
    cases ra with
    | bl a' =>
      have e : some (decide (a' = b')) = some c := e
      exact op_is_bl pins s σ H _ _ v u Q I rx ry ⟨a', b', rfl, rfl, by rw [Option.some.inj e]; exact q⟩
    | _ => cases e
  | _ => cases e
theorem oc_isnot : OpR X (compareOp .IsNot) (rCmp X.K (cmpV .IsNot)) := by
  intro pins s σ H x y v u Q I rx ry ⟨m, S, a, b, c, rs, ra, rb, e, q⟩
  cases rb with
  | non =>
    have e : some (!decide (a = .non)) = some c := e
    refine op_notN pins s σ H x .non v u Q I rx ry ⟨rfl, ?_⟩
    have : decide (x = V.non) = decide (a = PV.non) := by cases ra <;> simp
    rw [this, Option.some.inj e]
    exact q
  | bl b' =>
    cases ra with
    | bl a' =>
      have e : some (!decide (a' = b')) = some c := e
      exact op_isnot_bl pins s σ H _ _ v u Q I rx ry ⟨a', b', rfl, rfl, by rw [Option.some.inj e]; exact q⟩
    | _ => cases e
  | _ => cases e
theorem oc_lt : OpR X (compareOp .Lt) (rCmp X.K (cmpV .Lt)) := by
  intro pins s σ H x y v u Q I rx ry ⟨m, S, a, b, c, rs, ra, rb, e, q⟩
  cases ra <;> cases rb <;> first
    | (cases (show some _ = some c from e); exact op_lt pins s σ H _ _ v u Q I rx ry ⟨_, _, rfl, rfl, q⟩)
    | (cases (show some _ = some c from e); exact op_lt_str pins s σ H _ _ v u Q I rx ry ⟨_, _, rfl, rfl, q⟩)
    | cases e
theorem oc_le : OpR X (compareOp .LtE) (rCmp X.K (cmpV .LtE)) := by
  intro pins s σ H x y v u Q I rx ry ⟨m, S, a, b, c, rs, ra, rb, e, q⟩
  cases ra <;> cases rb <;> first
    | (cases (show some _ = some c from e); exact op_le pins s σ H _ _ v u Q I rx ry ⟨_, _, rfl, rfl, q⟩)
    | (cases (show some _ = some c from e); exact op_le_str pins s σ H _ _ v u Q I rx ry ⟨_, _, rfl, rfl, q⟩)
    | cases e
theorem oc_gt : OpR X (compareOp .Gt) (rCmp X.K (cmpV .Gt)) := by
  intro pins s σ H x y v u Q I rx ry ⟨m, S, a, b, c, rs, ra, rb, e, q⟩
  cases ra <;> cases rb <;> first
    | (cases (show some _ = some c from e); exact op_gt pins s σ H _ _ v u Q I rx ry ⟨_, _, rfl, rfl, q⟩)
    | (cases (show some _ = some c from e); exact op_gt_str pins s σ H _ _ v u Q I rx ry ⟨_, _, rfl, rfl, q⟩)
    | cases e
theorem oc_ge : OpR X (compareOp .GtE) (rCmp X.K (cmpV .GtE)) := by
  intro pins s σ H x y v u Q I rx ry ⟨m, S, a, b, c, rs, ra, rb, e, q⟩
  cases ra <;> cases rb <;> first
    | (cases (show some _ = some c from e); exact op_ge pins s σ H _ _ v u Q I rx ry ⟨_, _, rfl, rfl, q⟩)
    | (cases (show some _ = some c from e); exact op_ge_str pins s σ H _ _ v u Q I rx ry ⟨_, _, rfl, rfl, q⟩)
    | cases e
theorem oc_all (hu : X.A.units + 190 < cLine) : ∀ op : CmpOp, OpR X (compareOp op) (rCmp X.K (cmpV op))
  | .Eq => oc_eq hu
  | .NotEq => oc_ne hu
  | .In => oc_in hu
  | .NotIn => oc_notin hu
  | .Is => oc_is
  | .IsNot => oc_isnot
  | .Lt => oc_lt
  | .LtE => oc_le
  | .Gt => oc_gt
  | .GtE => oc_ge
/-! ### truth -/
theorem truth_ok {K : PySem.W.Frag} {m : Mp} {H : Hp} {S : Store} {a : PV} {x : V} {k : Bool} (rs : Rel K S m H) (ra : RV K m H a x) (e : truth S a = some k) : TruV K x H k := by
  cases ra with
  | non => cases e; exact rfl
  | bl b => cases e; exact rfl
  | int i => cases e; exact rfl
  | str z h => cases e; exact ⟨h.1, rfl⟩
  | tup hl h r => cases e; exact .inr (.inl ⟨_, h.sq, by rw [r.empty]⟩)
  | lv hl n h r => cases e; exact .inl ⟨_, .of h, by rw [r.empty]⟩
  | fz hl h r => cases e; exact .inl ⟨_, h.sq, by rw [r.empty]⟩
  | dv hl n h r => cases e; exact .inr (.inr ⟨_, h, by rw [r.zip.empty]⟩)
  | iv hl n h hC r => cases e
  | @loc n p h =>
    rw [truth] at e
    cases q : S[n]? with
    | none => rw [q] at e; cases e
    | some o =>
      rw [q] at e
      have ro := rs.at q h
      cases o with
      | lst xs => obtain ⟨hl, vs, h1, h2⟩ := ro; cases e; exact .inl ⟨_, .of h1, by rw [h2.empty]⟩
      | dic kvs => obtain ⟨vs, h1, h2⟩ := ro; cases e; exact .inr (.inr ⟨_, h1, by cases h2 <;> rfl⟩)
      | ins c fs => cases e
end
end L2.PF

set_option Elab.async false
set_option linter.all false
set_option maxRecDepth 100000
set_option maxHeartbeats 4000000
/-! PFD: arithmetic, subscripts, slices, built-in functions and methods, by values. -/
namespace L2.PF
open PySem PySem.Spec PyProof.Rows

section
variable {K : PySem.W.Frag} {m : Mp} {H : Hp} {S : Store}
theorem strOk_iff {x : Str} : PyData.strOk x = true ↔ ∀ c ∈ x.cps.toList, c < 0x110000 := by
  unfold PyData.strOk
  rw [← Array.all_toList, List.all_eq_true]
  constructor
  · intro h c hc; exact of_decide_eq_true (h c hc)
  · intro h c hc; exact decide_eq_true (h c hc)
theorem length_cps (x : Str) : x.length = x.cps.toList.length := by
  show x.cps.size = x.cps.toList.length
  simp
theorem cps_append (i j : Str) : (i ++ j).cps.toList = i.cps.toList ++ j.cps.toList := by
  show (i.cps ++ j.cps).toList = _
  simp
theorem StrOk.append {i j : Str} (a : StrOk i) (b : StrOk j) (h : i.length + j.length ≤ sizeLine) : StrOk (i ++ j) := by
  refine ⟨?_, strOk_iff.mpr fun c hc => ?_⟩
  · rw [length_cps, cps_append, List.length_append, ← length_cps, ← length_cps]; exact h
  · rw [cps_append] at hc
    rcases List.mem_append.mp hc with z | z
    · exact strOk_iff.mp a.2 c z
    · exact strOk_iff.mp b.2 c z
/-- a text of some of its signs -/
theorem StrOk.sub {i : Str} {l : List Nat} (a : StrOk i) (hl : l.length ≤ i.length) (h : ∀ c ∈ l, c ∈ i.cps.toList) : StrOk ⟨l.toArray⟩ := by
  refine ⟨?_, strOk_iff.mpr fun c hc => strOk_iff.mp a.2 c (h c (by simpa using hc))⟩
  show l.toArray.size ≤ sizeLine
  rw [List.size_toArray]
  exact Nat.le_trans hl a.1
theorem StrOk.one {c : Nat} (h : c < 0x110000) : StrOk ⟨#[c]⟩ := by
  refine ⟨?_, strOk_iff.mpr fun d hd => ?_⟩
  · show 1 ≤ sizeLine
    rw [sizeLine_eq]; decide
  · have : d = c := by simpa using hd
    rw [this]; exact h
/-- a new tuple, a new list -/
theorem new_tup (rs : Rel K S m H) {xs : List PV} {vs : List V} {p : Addr} {Q : V → Hp → Prop} (hl : xs.length ≤ sizeLine) (r : RVs K m H xs vs) (hp : H p = none)
    (q : ∀ z m' H', Ext m H m' H' → Rel K S m' H' → RV K m' H' (.tup xs) z → Q z H') : Q (.ref p) (upd H p (.tup vs)) :=
  q _ m _ (Ext.laid hp) (rs.laid hp) (.tup hl (.inl ⟨rs.out hp, upd_same⟩) (r.up (Ext.laid hp)))
theorem new_lst (rs : Rel K S m H) {xs : List PV} {vs : List V} {p : Addr} {Q : V → Hp → Prop} (hl : xs.length ≤ sizeLine) (r : RVs K m H xs vs) (hp : H p = none)
    (q : ∀ z m' H', Ext m H m' H' → Rel K S m' H' → RV K m' H' (.lv xs) z → Q z H') : Q (.ref p) (upd H p (.lst vs)) :=
  q _ m _ (Ext.laid hp) (rs.laid hp) (.lv hl (rs.out hp) upd_same (r.up (Ext.laid hp)))
theorem new_obj (rs : Rel K S m H) {xs : List PV} {vs : List V} {p : Addr} {Q : V → Hp → Prop} (hl : xs.length ≤ sizeLine) (r : RVs K m H xs vs) (hp : H p = none)
    (q : ∀ z m' H', Ext m H m' H' → Rel K (S ++ [PO.lst xs]) m' H' → RV K m' H' (.loc S.length) z → Q z H') : Q (.ref p) (upd H p (.lst vs)) :=
  q _ _ _ (Ext.laidIn hp) (rs.push hp ⟨hl, vs, upd_same, r.up (Ext.laidIn hp)⟩) (.loc (by show (m.locs ++ [p])[S.length]? = some p; rw [rs.len]; simp))
theorem new_dic (rs : Rel K S m H) {xs : List (Key × PV)} {vs : List (Key × V)} {p : Addr} {Q : V → Hp → Prop} (r : KVr K m H xs vs) (hp : H p = none)
    (q : ∀ z m' H', Ext m H m' H' → Rel K (S ++ [PO.dic xs]) m' H' → RV K m' H' (.loc S.length) z → Q z H') : Q (.ref p) (upd H p (.dK vs)) :=
  q _ _ _ (Ext.laidIn hp) (rs.push hp ⟨vs, upd_same, r.mono (Ext.laidIn hp)⟩) (.loc (by show (m.locs ++ [p])[S.length]? = some p; rw [rs.len]; simp))
theorem new_dv (rs : Rel K S m H) {xs : List (Key × PV)} {vs : List (Key × V)} {p : Addr} {Q : V → Hp → Prop} (r : KVr K m H xs vs) (hp : H p = none)
    (q : ∀ z m' H', Ext m H m' H' → Rel K S m' H' → RV K m' H' (.dv (xs.map (·.1)) (xs.map (·.2))) z → Q z H') : Q (.ref p) (upd H p (.dK vs)) := by
  obtain ⟨h1, h2⟩ := r.vals
  exact q _ m _ (Ext.laid hp) (rs.laid hp) (.dv (by simp) (rs.out hp) (by rw [← h2]; exact upd_same) (h1.up (Ext.laid hp)))
theorem mitems_lst (rs : Rel K S m H) {v : PV} {x : V} {xs : List PV} (h : RV K m H v x) (e : mitems S v = some xs) : ∃ a vs, x = .ref a ∧ H a = some (.lst vs) ∧ RVs K m H xs vs ∧ xs.length ≤ sizeLine := by
  cases h with
  | lv hl _ h t => rw [mitems] at e; cases e; exact ⟨_, _, rfl, h, t, hl⟩
  | @loc n a h =>
    rw [mitems] at e
    cases q : S[n]? with
    | none => rw [q] at e; cases e
    | some o =>
      rw [q] at e
      have ro := rs.at q h
      cases o with
      | lst ys => obtain ⟨hl, vs, h1, h2⟩ := ro; cases e; exact ⟨_, _, rfl, h1, h2, hl⟩
      | dic kvs => cases e
      | ins c fs => cases e
  | _ => rw [mitems] at e <;> first | cases e | (intros; exact fun z => nomatch z)
theorem RVs.nil_iff {xs : List PV} {vs : List V} (r : RVs K m H xs vs) : vs = [] ↔ xs = [] := by
  cases r with
  | nil => simp
  | cons r t => simp
end
theorem mulOk_c {i j : Int} (h : mulOk i j = true) : CMulW i j := by
  have h : decide (i.natAbs.log2 + j.natAbs.log2 < 1000000) = true := h
  have h2 := of_decide_eq_true h
  exact h2
theorem divOk_c {i j : Int} (h : divOk j = true) : CDivW i j := by
  have h : decide (0 < j ∧ j.natAbs.log2 < 9000) = true := h
  have h2 := of_decide_eq_true h
  exact h2
theorem powOk_c {i j : Int} (h : powOk i j = true) : CPow i j := by
  have h : decide (0 ≤ j ∧ j ≤ 1000000 ∧ i.natAbs < 2 ^ 64) = true := h
  have h2 := of_decide_eq_true h
  exact h2
/-! ### a tuple once, not at all -/
theorem tuple_mul1 (l : Addr) (items : Array Value) (n : Nat) (dd : Option Addr) (sl : Array (Option Value)) (x : Int) (u : Tok) (c0 : (decide (x < -(2 ^ 63)) || decide (x ≥ 2 ^ 63)) = false) (c1 : (items.isEmpty || x == 1) = true) :
    Meets (Builtin.«tuple.__mul__» ⟨[.ref l, .int x u], []⟩) (fun _ R s => s.heap.get? l = some { cls := .type "tuple", dict := dd, data := .seq items n, slots := sl } ∧
      R (.ok (.ret (Value.ref l))) s) :=
  .of_wp fun prog w A R s h => by
    obtain ⟨hp, g, d, tk, os⟩ := s
    obtain ⟨hl, h⟩ := h
    have f1 := AutoSeq1.idx_int
    wp_walk using wpAny_loadPart' hl
    repeat (first
      | (refine wpAny_ite_false (decide_eq_false (by rw [c0]; exact Bool.false_ne_true)) ?_; wp_walk using wpAny_loadPart' hl)
      | (refine wpAny_ite_true c1 ?_; wp_walk using wpAny_loadPart' hl))
    exact ⟨_, rfl, h⟩
theorem tuple_mul0 (l : Addr) (items : Array Value) (n : Nat) (dd : Option Addr) (sl : Array (Option Value)) (u : Tok) (c1 : items.isEmpty = false) :
    Meets (Builtin.«tuple.__mul__» ⟨[.ref l, .int 0 u], []⟩) (fun _ R s => s.heap.get? l = some { cls := .type "tuple", dict := dd, data := .seq items n, slots := sl } ∧
      R (.ok (.ret (Value.ref s.heap.objs.size))) { s with heap := s.heap.push { cls := Value.type "tuple", data := Data.seq #[] }, toks := s.toks }) :=
  .of_wp fun prog w A R s h => by
    obtain ⟨hp, g, d, tk, os⟩ := s
    obtain ⟨hl, h⟩ := h
    have f1 := AutoSeq1.idx_int
    have c2 : (items.isEmpty || (0 : Int) == 1) = false := by rw [c1]; decide
    wp_walk using wpAny_loadPart' hl
    repeat (first
      | (refine wpAny_ite_false (by decide) ?_; wp_walk using wpAny_loadPart' hl)
      | (refine wpAny_ite_false (decide_eq_false (by rw [c2]; exact Bool.false_ne_true)) ?_; wp_walk using wpAny_loadPart' hl))
    exact ⟨_, rfl, h⟩
section
variable {X : Cx}
theorem op_repT1 : OpR X (binaryOp .Mult) (fun x y H Q => ∃ l k xs, x = .ref l ∧ y = .int k ∧ SqT X.K H l xs ∧ (xs = [] ∨ k = 1) ∧ 0 ≤ k ∧ k ≤ 1000 ∧ Q (.ref l) H) := by
  intro pins s σ H x y v u Q I rx ry h
  obtain ⟨l, k, xs, rfl, rfl, hT, hne, h1, h2, q⟩ := h
  cases rx
  obtain ⟨t, rfl⟩ := ry
  obtain ⟨its, r, ⟨⟨cls, dd, data, sl⟩, ho, hc, n, hd⟩, hs⟩ := I.tuple hT
  simp only at hc hd
  subst hc hd
  have c0 : (decide (k < -(2 ^ 63)) || decide (k ≥ 2 ^ 63)) = false := by
    rw [decide_eq_false (by omega), decide_eq_false (by omega)] <;> rfl
  have c1 : (its.toArray.isEmpty || k == 1) = true := by
    rcases hne with h | h
    · subst h
      cases r
      rfl
    · subst h; simp
  exact wpAny_binaryOp_repeat_ref (T := "tuple") (U := "int") (by decide) ⟨_, ho, rfl⟩ (fun s' => typeIs_int s' k t) noFill_tuple_mul F.fills_int_mul F.slot_int_rmul repeat_tuple F.slot_int_index.lookup
    (call_meets F.slot_int_rmul (typeIs_int s k t) F.entry_int_rmul (F.args_int_rmul_2 _ _) (int_rmul_tuple k t l its.toArray n dd sl)
      ⟨ho, rfl, ⟨_, ho, rfl⟩, call_meets F.slot_tuple_mul ⟨_, ho, rfl⟩ F.entry_tuple_mul (F.args_tuple_mul_2 _ _) (tuple_mul1 l its.toArray n dd sl k t c0 c1) ⟨ho, ⟨.ref l, H, I, rfl, q⟩⟩⟩)
theorem op_repT0 : OpR X (binaryOp .Mult) (fun x y H Q => ∃ l xs, x = .ref l ∧ y = .int 0 ∧ SqT X.K H l xs ∧ xs ≠ [] ∧ ∀ p, H p = none → Q (.ref p) (upd H p (.tup []))) := by
  intro pins s σ H x y v u Q I rx ry h
  obtain ⟨l, xs, rfl, rfl, hT, hne, q⟩ := h
  cases rx
  obtain ⟨t, rfl⟩ := ry
  obtain ⟨its, r, ⟨⟨cls, dd, data, sl⟩, ho, hc, n, hd⟩, hs⟩ := I.tuple hT
  simp only at hc hd
  subst hc hd
  have hi : its.toArray.isEmpty = false := by
    cases its with
    | nil => cases r; exact absurd rfl hne
    | cons a b => rfl
  refine wpAny_binaryOp_repeat_ref (T := "tuple") (U := "int") (by decide) ⟨_, ho, rfl⟩ (fun s' => typeIs_int s' 0 t) noFill_tuple_mul F.fills_int_mul F.slot_int_rmul repeat_tuple F.slot_int_index.lookup
    (call_meets F.slot_int_rmul (typeIs_int s 0 t) F.entry_int_rmul (F.args_int_rmul_2 _ _) (int_rmul_tuple 0 t l its.toArray n dd sl)
      ⟨ho, rfl, ⟨_, ho, rfl⟩, call_meets F.slot_tuple_mul ⟨_, ho, rfl⟩ F.entry_tuple_mul (F.args_tuple_mul_2 _ _) (tuple_mul0 l its.toArray n dd sl t hi) ⟨ho, ?_⟩⟩)
  refine ⟨.ref s.heap.objs.size, _, I.laid (t' := s.toks) (o := .tup []) (fun b ob q => Heap.get?_push_of_some _ q) (Nat.le_refl _) ?_, rfl, q _ (I.hok.fresh (Nat.le_refl _))⟩
  exact ⟨by rw [sizeLine_eq]; simp, _, .nil, IsTup.new _ _⟩
end
section
variable {X : Cx}
theorem ob_add : OpR X (binaryOp .Add) (rBin X.K (binV .Add)) := by
  intro pins s σ H x y v u Q I rx ry ⟨m, S, a, b, c, rs, ra, rb, e, q⟩
  have lists : ∀ {xs ys : List PV}, mitems S a = some xs → mitems S b = some ys → (if xs.length + ys.length ≤ sizeLine then some (PV.lv (xs ++ ys)) else none) = some c → wpAny (model X.prog X.w) X.A (binaryOp .Add v u) (EP X pins σ Q) X.xe s := by
    intro xs ys e1 e2 e
    by_cases h : xs.length + ys.length ≤ sizeLine
    · rw [if_pos h] at e
      cases e
      obtain ⟨l, vs, rfl, h1, h2, _⟩ := mitems_lst rs ra e1
      obtain ⟨l2, ws, rfl, h3, h4, _⟩ := mitems_lst rs rb e2
      exact op_cat pins s σ H _ _ v u Q I rx ry ⟨l, l2, vs, ws, rfl, rfl, h1, h3, by rw [← h2.length, ← h4.length]; exact h, fun p hp => new_lst rs (by rw [List.length_append]; exact h) (h2.append h4) hp q⟩
    · rw [if_neg h] at e; cases e
  have listsE : (match mitems S a, mitems S b with
      | some xs, some ys => if xs.length + ys.length ≤ sizeLine then some (PV.lv (xs ++ ys)) else none
      | _, _ => none) = some c → wpAny (model X.prog X.w) X.A (binaryOp .Add v u) (EP X pins σ Q) X.xe s := by
    intro e
    cases e1 : mitems S a with
    | none => rw [e1] at e; cases e
    | some xs =>
      cases e2 : mitems S b with
      | none => rw [e1, e2] at e; cases e
      | some ys => rw [e1, e2] at e; exact lists e1 e2 e
  cases ra with
  | int i =>
    cases rb with
    | int j => cases e; exact op_add pins s σ H _ _ v u Q I rx ry ⟨i, j, rfl, rfl, q _ m H Ext.refl rs (.int _)⟩
    | _ => exact listsE e
  | str i hi =>
    cases rb with
    | str j hj =>
      have e : (if i.length + j.length ≤ sizeLine then some (PV.str (i ++ j)) else none) = some c := e
      by_cases h : i.length + j.length ≤ sizeLine
      · rw [if_pos h] at e
        cases e
        exact op_add_str pins s σ H _ _ v u Q I rx ry ⟨i, j, rfl, rfl, h, q _ m H Ext.refl rs (.str _ (hi.append hj h))⟩
      · rw [if_neg h] at e; cases e
    | _ => exact listsE e
  | @tup xs vs p hl h r =>
    cases rb with
    | @tup ys ws p2 hl2 h2 r2 =>
      have e : (if xs.length + ys.length ≤ sizeLine then some (PV.tup (xs ++ ys)) else none) = some c := e
      by_cases hh : xs.length + ys.length ≤ sizeLine
      · rw [if_pos hh] at e
        cases e
        refine op_catA pins s σ H _ _ v u Q I rx ry ⟨p, p2, vs, ws, rfl, rfl, h.sq, h2.sq, by rw [← r.length, ← r2.length]; exact hh, fun z => ?_, fun _ z => ?_, fun _ _ p3 hp => ?_⟩
        · have z' := r.nil_iff.mp z
          subst z'
          exact q _ m H Ext.refl rs (by rw [List.nil_append]; exact .tup hl2 h2 r2)
        · have z' := r2.nil_iff.mp z
          subst z'
          exact q _ m H Ext.refl rs (by rw [List.append_nil]; exact .tup hl h r)
        · exact new_tup rs (by rw [List.length_append]; exact hh) (r.append r2) hp q
      · rw [if_neg hh] at e; cases e
    | _ => exact listsE e
  | _ => cases rb <;> exact listsE e
theorem ite_some {α : Type} {c : Prop} [Decidable c] {o : Option α} {b : α} (h : (if c then o else none) = some b) : c ∧ o = some b := by
  by_cases hc : c
  · rw [if_pos hc] at h; exact ⟨hc, h⟩
  · rw [if_neg hc] at h; cases h
theorem rep_len {xs : List PV} {n : Nat} : (List.replicate n xs).flatten.length = xs.length * n := by
  rw [PyProof.Rows.lm_len_rep_flat, Nat.mul_comm]
theorem rep_rv {K : PySem.W.Frag} {m : Mp} {H : Hp} {xs : List PV} {vs : List V} (r : RVs K m H xs vs) : ∀ n : Nat, RVs K m H (List.replicate n xs).flatten (List.replicate n vs).flatten
  | 0 => .nil
  | n + 1 => by
    rw [List.replicate_succ, List.replicate_succ, List.flatten_cons, List.flatten_cons]
    exact r.append (rep_rv r n)
theorem mulS_ok {z : Str} {j : Int} (h : 0 ≤ j ∧ j ≤ 1000000 ∧ z.length * j.toNat ≤ 1000000) : MulOk z j := by
  obtain ⟨h1, h2, h3⟩ := h
  refine ⟨?_, fun h4 _ => ?_, fun h4 _ => ?_⟩
  · rw [decide_eq_false (by omega), decide_eq_false (by omega)]; rfl
  · have hj : (0 : Int) < j := by omega
    have e : ((z.length : Nat) : Int) * j ≤ 1000000 := by
      have : ((z.length * j.toNat : Nat) : Int) ≤ 1000000 := by omega
      rw [Int.natCast_mul, Int.toNat_of_nonneg h1] at this
      exact this
    have := Int.le_ediv_of_mul_le hj (show ((z.length : Nat) : Int) * j ≤ 2 ^ 63 - 1 by omega)
    omega
  · unfold Builtin.Str.tooLong
    rw [sizeLine_eq]
    exact decide_eq_false (by omega)
theorem ob_all : ∀ op : Operator, OpR X (binaryOp op) (rBin X.K (binV op)) := by
  intro op
  cases op with
  | Add => exact ob_add
  | Sub =>
    intro pins s σ H x y v u Q I rx ry ⟨m, S, a, b, c, rs, ra, rb, e, q⟩
    cases ra <;> cases rb <;> first
      | (cases (show some _ = some c from e); exact op_sub pins s σ H _ _ v u Q I rx ry ⟨_, _, rfl, rfl, q _ m H Ext.refl rs (.int _)⟩)
      | cases e
  | Mult =>
    intro pins s σ H x y v u Q I rx ry ⟨m, S, a, b, c, rs, ra, rb, e, q⟩
    have listsE : ∀ {j : Int}, b = .int j → (match mitems S a with
        | some xs => if decide (-(2 ^ 63) ≤ j ∧ j < 2 ^ 63 ∧ xs.length * j.toNat ≤ sizeLine) = true then some (PV.lv (List.replicate j.toNat xs).flatten) else none
        | none => none) = some c → wpAny (model X.prog X.w) X.A (binaryOp .Mult v u) (EP X pins σ Q) X.xe s := by
      intro j eb e9
      clear e
      subst eb
      cases rb
      cases e1 : mitems S a with
      | none => rw [e1] at e9; cases e9
      | some xs =>
        rw [e1] at e9
        obtain ⟨hc, e9⟩ := ite_some e9
        cases e9
        obtain ⟨l, vs, rfl, h1, h2, hl⟩ := mitems_lst rs ra e1
        obtain ⟨c1, c2, c3⟩ := of_decide_eq_true hc
        exact op_rep pins s σ H _ _ v u Q I rx ry ⟨l, j, vs, rfl, rfl, h1, c1, c2, by rw [← h2.length]; exact c3, fun p hp => new_lst rs (by rw [rep_len]; exact c3) (rep_rv h2 _) hp q⟩
    cases ra with
    | int i =>
      cases rb with
      | int j =>
        have e : (if mulOk i j = true then some (PV.int (i * j)) else none) = some c := e
        by_cases h : mulOk i j = true
        · rw [if_pos h] at e
          cases e
          exact op_mulW pins s σ H _ _ v u Q I rx ry ⟨i, j, rfl, rfl, mulOk_c h, q _ m H Ext.refl rs (.int _)⟩
        · rw [if_neg h] at e; cases e
      | _ => cases e
    | str z hz =>
      cases rb with
      | int j =>
        have e : (if (decide (0 ≤ j ∧ j ≤ 1000000 ∧ z.length * j.toNat ≤ 1000000) && okB (Txt.mul z j)) = true then some (PV.str (Txt.mul z j)) else none) = some c := e
        by_cases h : (decide (0 ≤ j ∧ j ≤ 1000000 ∧ z.length * j.toNat ≤ 1000000) && okB (Txt.mul z j)) = true
        · rw [if_pos h] at e
          cases e
          rw [Bool.and_eq_true] at h
          obtain ⟨t, rfl⟩ := rx
          obtain ⟨t', rfl⟩ := ry
          have hz2 : StrOk (Txt.mul z j) := by
            have := h.2
            unfold okB at this
            rw [Bool.and_eq_true] at this
            exact ⟨of_decide_eq_true this.1, this.2⟩
          exact SB.mul (mulS_ok (of_decide_eq_true h.1)) fun t2 k => ⟨.str _, H, I.tok _, ⟨_, rfl⟩, q _ m H Ext.refl rs (.str _ hz2)⟩
        · rw [if_neg h] at e; cases e
      | _ => cases e
    | @tup xs vs p hl h r =>
      cases rb with
      | int j =>
        have e : (if decide (0 ≤ j ∧ j ≤ 1000 ∧ xs.length ≤ 1000) = true then some (PV.tup (List.replicate j.toNat xs).flatten) else none) = some c := e
        obtain ⟨hc, e⟩ := ite_some e
        cases e
        obtain ⟨c1, c2, c3⟩ := of_decide_eq_true hc
        by_cases hx : xs = []
        · subst hx
          cases r
          exact op_repT1 pins s σ H _ _ v u Q I rx ry ⟨p, j, [], rfl, rfl, h.sq, .inl rfl, c1, c2, q _ m H Ext.refl rs (by rw [show (List.replicate j.toNat ([] : List PV)).flatten = [] by simp]; exact .tup hl h .nil)⟩
        by_cases hj1 : j = 1
        · subst hj1
          exact op_repT1 pins s σ H _ _ v u Q I rx ry ⟨p, 1, vs, rfl, rfl, h.sq, .inr rfl, c1, c2, q _ m H Ext.refl rs (by rw [show (List.replicate (Int.toNat 1) xs).flatten = xs by simp]; exact .tup hl h r)⟩
        by_cases hj0 : j = 0
        · subst hj0
          exact op_repT0 pins s σ H _ _ v u Q I rx ry ⟨p, vs, rfl, rfl, h.sq, fun z => hx (r.nil_iff.mp z), fun p hp => new_tup rs (by simp) .nil hp q⟩
        have c1 : 2 ≤ j := by omega
        refine op_repT pins s σ H _ _ v u Q I rx ry ⟨p, j, vs, rfl, rfl, h.sq, fun z => ?_, c1, c2, by rw [← r.length]; exact c3, fun p hp => new_tup rs ?_ (rep_rv r _) hp q⟩
        · exact hx (r.nil_iff.mp z)
        · rw [rep_len, sizeLine_eq]
          have h1 : j.toNat ≤ 1000 := by omega
          have : xs.length * j.toNat ≤ 1000 * 1000 := Nat.mul_le_mul c3 h1
          omega
      | _ => cases e
    | lv hl n h r =>
      cases rb with
      | int j => exact listsE rfl e
      | _ => cases e
    | loc h =>
      cases rb with
      | int j => exact listsE rfl e
      | _ => cases e
    | fz hl h r => cases rb <;> cases e
    | _ => cases rb <;> cases e
  | FloorDiv =>
    intro pins s σ H x y v u Q I rx ry ⟨m, S, a, b, c, rs, ra, rb, e, q⟩
    cases ra with
    | int i =>
      cases rb with
      | int j =>
        have e : (if divOk j = true then some (PV.int (i / j)) else none) = some c := e
        by_cases h : divOk j = true
        · rw [if_pos h] at e
          cases e
          exact op_fdivW pins s σ H _ _ v u Q I rx ry ⟨i, j, rfl, rfl, divOk_c h, q _ m H Ext.refl rs (.int _)⟩
        · rw [if_neg h] at e; cases e
      | _ => cases e
    | _ => cases e
  | Mod =>
    intro pins s σ H x y v u Q I rx ry ⟨m, S, a, b, c, rs, ra, rb, e, q⟩
    cases ra with
    | int i =>
      cases rb with
      | int j =>
        have e : (if 0 < j then some (PV.int (i % j)) else none) = some c := e
        by_cases h : 0 < j
        · rw [if_pos h] at e
          cases e
          exact op_mod pins s σ H _ _ v u Q I rx ry ⟨i, j, rfl, rfl, h, q _ m H Ext.refl rs (.int _)⟩
        · rw [if_neg h] at e; cases e
      | _ => cases e
    | _ => cases e
  | Pow =>
    intro pins s σ H x y v u Q I rx ry ⟨m, S, a, b, c, rs, ra, rb, e, q⟩
    cases ra with
    | int i =>
      cases rb with
      | int j =>
        have e : (if powOk i j = true then some (PV.int (i ^ j.toNat)) else none) = some c := e
        by_cases h : powOk i j = true
        · rw [if_pos h] at e
          cases e
          exact op_pow pins s σ H _ _ v u Q I rx ry ⟨i, j, rfl, rfl, powOk_c h, q _ m H Ext.refl rs (.int _)⟩
        · rw [if_neg h] at e; cases e
      | _ => cases e
    | _ => cases e
  | _ => intro pins s σ H x y v u Q I rx ry ⟨m, S, a, b, c, rs, ra, rb, e, q⟩; cases e
/-! ### subscripts -/
theorem atI_rv {K : PySem.W.Frag} {m : Mp} {H : Hp} {xs : List PV} {vs : List V} {i : Int} {c : PV} (r : RVs K m H xs vs) (e : atI xs i = some c) : ∃ z, atI vs i = some z ∧ RV K m H c z := by
  unfold atI at e ⊢
  rw [← r.length]
  cases h : ixN xs.length i with
  | none => rw [h] at e; cases e
  | some j =>
    rw [h] at e
    obtain ⟨z, h1, h2⟩ := r.get (show xs[j]? = some c from e)
    exact ⟨z, h1, h2⟩
theorem atI_mem {α : Type} {xs : List α} {i : Int} {c : α} (e : atI xs i = some c) : c ∈ xs := by
  unfold atI at e
  cases h : ixN xs.length i with
  | none => rw [h] at e; cases e
  | some j => rw [h] at e; exact List.mem_of_getElem? (show xs[j]? = some c from e)
theorem oi_all (hu : X.A.units + 190 < cLine) : IxR X (rBin X.K ixV) := by
  intro value slice pins s σ H x y v u Q I rx ry ⟨m, S, a, b, c, rs, ra, rb, e, q⟩ hs
  cases ra with
  | str z hz =>
    cases rb with
    | int i =>
      have e : (match atI z.cps.toList i with | some c => some (PV.str ⟨#[c]⟩) | none => none) = some c := e
      cases h : atI z.cps.toList i with
      | none => rw [h] at e; cases e
      | some d =>
        rw [h] at e
        cases e
        exact ix_str value slice pins s σ H _ _ v u Q I rx ry ⟨z, i, d, rfl, rfl, hz.1, h, q _ m H Ext.refl rs (.str _ (.one (strOk_iff.mp hz.2 d (atI_mem h))))⟩ hs
    | _ => cases e
  | tup hl h r =>
    cases rb with
    | int i =>
      obtain ⟨z, h1, h2⟩ := atI_rv r (show atI _ i = some c from e)
      exact ix_tup value slice pins s σ H _ _ v u Q I rx ry ⟨_, _, i, z, rfl, rfl, h.sq, h1, q _ m H Ext.refl rs h2⟩ hs
    | _ => cases e
  | lv hl n h r =>
    cases rb with
    | int i =>
      obtain ⟨z, h1, h2⟩ := atI_rv r (show atI _ i = some c from e)
      exact ix_list value slice pins s σ H _ _ v u Q I rx ry ⟨_, _, i, z, rfl, rfl, .of h, h1, q _ m H Ext.refl rs h2⟩ hs
    | _ => cases e
  | fz hl h r =>
    cases rb with
    | int i =>
      obtain ⟨z, h1, h2⟩ := atI_rv r (show atI _ i = some c from e)
      exact ix_list value slice pins s σ H _ _ v u Q I rx ry ⟨_, _, i, z, rfl, rfl, h.sq, h1, q _ m H Ext.refl rs h2⟩ hs
    | _ => cases e
  | @loc n p h =>
    rw [ixV] at e
    cases g : S[n]? with
    | none => rw [g] at e; cases e
    | some o =>
      rw [g] at e
      have ro := rs.at g h
      cases o with
      | lst xs =>
        obtain ⟨hl, vs, g1, g2⟩ := ro
        cases rb with
        | int i =>
          obtain ⟨z, h1, h2⟩ := atI_rv g2 (show atI _ i = some c from e)
          exact ix_list value slice pins s σ H _ _ v u Q I rx ry ⟨_, _, i, z, rfl, rfl, .of g1, h1, q _ m H Ext.refl rs h2⟩ hs
        | _ => cases e
      | dic kvs =>
        obtain ⟨vs, g1, g2⟩ := ro
        simp only at e
        cases hk : keyOf b with
        | none => rw [hk] at e; cases e
        | some k =>
          rw [hk] at e
          have e : getK kvs k = some c := e
          have ek := keyOf_rv rb hk
          rcases g2.get k with ⟨z1, _⟩ | ⟨z, w, z1, z2, z3⟩
          · rw [z1] at e; cases e
          · rw [z1] at e
            cases e
            obtain rfl : v = Value.ref p := rx
            have dg : DGet H p y (some w) := by rw [ek, ← z2]; exact .k g1
            exact tail_any (dict_typeIs I dg) PySem.F.slot_dict_getitem.lookup (d_getItem (by omega) I dg ry fun w' s' I' rw' => ⟨w, H, I', rw', q _ m H Ext.refl rs z3⟩) hs
      | ins c fs => cases e
  | @dv ks xs vs p hl n h r =>
    rw [ixV] at e
    cases hk : keyOf b with
    | none => rw [hk] at e; cases e
    | some k =>
      rw [hk] at e
      have e : getK (ks.zip xs) k = some c := e
      have ek := keyOf_rv rb hk
      rcases r.zip.get k with ⟨z1, _⟩ | ⟨z, w, z1, z2, z3⟩
      · rw [z1] at e; cases e
      · rw [z1] at e
        cases e
        obtain rfl : v = Value.ref p := rx
        have dg : DGet H p y (some w) := by rw [ek, ← z2]; exact .k h
        exact tail_any (dict_typeIs I dg) PySem.F.slot_dict_getitem.lookup (d_getItem (by omega) I dg ry fun w' s' I' rw' => ⟨w, H, I', rw', q _ m H Ext.refl rs z3⟩) hs
  | _ => cases e
/-! ### slices -/
def rSl (K : PySem.W.Frag) : V → Option Int → Option Int → Hp → VK → Prop := fun x lo hi H Q => ∃ m S a c, Rel K S m H ∧ RV K m H a x ∧ slV S a lo hi = some c ∧ ∀ z m' H', Ext m H m' H' → Rel K S m' H' → RV K m' H' c z → Q z H'
theorem cut_rv {K : PySem.W.Frag} {m : Mp} {H : Hp} {xs : List PV} {vs : List V} (r : RVs K m H xs vs) (lo hi : Option Int) : RVs K m H (cutP xs lo hi) (cutV vs lo hi) := by
  unfold cutP cutV
  rw [← r.length]
  exact (r.drop _).take _
theorem cut_le (xs : List PV) (lo hi : Option Int) : (cutP xs lo hi).length ≤ xs.length := by
  unfold cutP
  rw [List.length_take, List.length_drop]
  omega
theorem cut_whole {xs : List PV} {lo hi : Option Int} (h : HT.sIx xs.length 0 lo = 0 ∧ HT.sIx xs.length xs.length hi = xs.length) : cutP xs lo hi = xs := by
  unfold cutP
  rw [h.1, h.2]
  simp
theorem os_all : SlR X (rSl X.K) := by
  intro pins s σ H x v vl vu lo hi sl Q I rx hs pl pu ⟨m, S, a, c, rs, ra, e, q⟩
  have lists : ∀ {xs : List PV}, litems S a = some xs → some (PV.lv (cutP xs lo hi)) = some c → ∃ T id, typeLookup (.type T) "__getitem__" = pure (some (.builtin id)) ∧ s.TypeIs v T ∧ wpAny (model X.prog X.w) X.A (getItem v (.ref sl)) (EP X pins σ Q) X.xe s := by
    intro xs e1 e2
    cases e2
    obtain ⟨p, vs, ep, h1, h2, hl⟩ := litems_sq rs ra e1
    exact sl_list pins s σ H x v vl vu lo hi sl Q I rx hs pl pu ⟨p, vs, ep, h1, fun p' hp => new_lst rs (Nat.le_trans (cut_le _ _ _) hl) (cut_rv h2 lo hi) hp q⟩
  have listsE : (match litems S a with
      | some xs => some (PV.lv (cutP xs lo hi))
      | none => none) = some c → ∃ T id, typeLookup (.type T) "__getitem__" = pure (some (.builtin id)) ∧ s.TypeIs v T ∧ wpAny (model X.prog X.w) X.A (getItem v (.ref sl)) (EP X pins σ Q) X.xe s := by
    intro e
    cases e1 : litems S a with
    | none => rw [e1] at e; cases e
    | some xs => rw [e1] at e; exact lists e1 e
  cases ra with
  | str z hz =>
    cases (show some (PV.str (cutS z lo hi)) = some c from e)
    refine sl_str pins s σ H _ v vl vu lo hi sl Q I rx hs pl pu ⟨z, rfl, hz.1, q _ m H Ext.refl rs (.str _ ?_)⟩
    refine hz.sub ?_ fun d hd => ?_
    · rw [List.length_take, List.length_drop, ← length_cps]; omega
    · exact List.mem_of_mem_drop (List.mem_of_mem_take hd)
  | @tup xs vs p hl h r =>
    cases (show some (PV.tup (cutP xs lo hi)) = some c from e)
    refine sl_tupA pins s σ H _ v vl vu lo hi sl Q I rx hs pl pu ⟨p, vs, rfl, h.sq, fun hw => ?_, fun _ p' hp => new_tup rs (Nat.le_trans (cut_le _ _ _) hl) (cut_rv r lo hi) hp q⟩
    rw [← r.length] at hw
    exact q _ m H Ext.refl rs (by rw [cut_whole hw]; exact .tup hl h r)
  | lv hl n h r => exact listsE e
  | loc h => exact listsE e
  | fz hl h r => exact listsE e
  | _ => exact listsE e
end
end L2.PF

set_option Elab.async false
set_option linter.all false
set_option maxRecDepth 100000
set_option maxHeartbeats 4000000
/-! PFE: built-in functions and methods, by values. -/
namespace L2.PF
open PySem PySem.Spec PyProof.Rows

section
variable {K : PySem.W.Frag} {m : Mp} {H : Hp} {S : Store}
theorem okB_ok {x : Str} (h : okB x = true) : StrOk x := by
  unfold okB at h
  rw [Bool.and_eq_true] at h
  exact ⟨of_decide_eq_true h.1, h.2⟩
theorem ints_rv : ∀ {xs : List PV} {vs : List V} {is : List Int}, RVs K m H xs vs → intsOf xs = some is → vs = is.map V.int
  | _, _, _, .nil, e => by rw [intsOf] at e; cases e; rfl
  | x :: xs, _, _, .cons r t, e => by
    cases r with
    | int i =>
      rw [intsOf] at e
      cases q : intsOf xs with
      | none => rw [q] at e; cases e
      | some js => rw [q] at e; cases e; rw [ints_rv t q]; rfl
    | _ => rw [intsOf] at e <;> first | cases e | (intros; exact fun z => nomatch z)
theorem bools_rv : ∀ {xs : List PV} {vs : List V} {is : List Bool}, RVs K m H xs vs → boolsOf xs = some is → vs = is.map V.bl
  | _, _, _, .nil, e => by rw [boolsOf] at e; cases e; rfl
  | x :: xs, _, _, .cons r t, e => by
    cases r with
    | bl i =>
      rw [boolsOf] at e
      cases q : boolsOf xs with
      | none => rw [q] at e; cases e
      | some js => rw [q] at e; cases e; rw [bools_rv t q]; rfl
    | _ => rw [boolsOf] at e <;> first | cases e | (intros; exact fun z => nomatch z)
theorem strs_rv : ∀ {xs : List PV} {vs : List V} {is : List Str}, RVs K m H xs vs → strsOf xs = some is → vs = is.map V.str ∧ ∀ x ∈ is, StrOk x
  | _, _, _, .nil, e => by rw [strsOf] at e; cases e; exact ⟨rfl, fun x h => absurd h (by simp)⟩
  | x :: xs, _, _, .cons r t, e => by
    cases r with
    | str i hi =>
      rw [strsOf] at e
      cases q : strsOf xs with
      | none => rw [q] at e; cases e
      | some js =>
        rw [q] at e; cases e
        obtain ⟨h1, h2⟩ := strs_rv t q
        refine ⟨by rw [h1]; rfl, fun y hy => ?_⟩
        rcases List.mem_cons.mp hy with z | z
        · rw [z]; exact hi
        · exact h2 y z
    | _ => rw [strsOf] at e <;> first | cases e | (intros; exact fun z => nomatch z)
theorem join_cps (a : Str) : ∀ (ys : List Str) (c : Nat), c ∈ (Str.join a ys).cps.toList → c ∈ a.cps.toList ∨ ∃ y ∈ ys, c ∈ y.cps.toList
  | [], c, h => by
    have h : c ∈ ([] : List Nat) := h
    cases h
  | [x], c, h => .inr ⟨x, by simp, h⟩
  | x :: y :: r, c, h => by
    have h : c ∈ (x ++ a ++ Str.join a (y :: r)).cps.toList := h
    rw [cps_append, cps_append] at h
    rcases List.mem_append.mp h with h | h
    · rcases List.mem_append.mp h with h | h
      · exact .inr ⟨x, by simp, h⟩
      · exact .inl h
    · rcases join_cps a (y :: r) c h with h | ⟨z, h1, h2⟩
      · exact .inl h
      · exact .inr ⟨z, List.mem_cons_of_mem _ h1, h2⟩
theorem join_ok {a : Str} {ys : List Str} (ha : StrOk a) (h : ∀ x ∈ ys, StrOk x) (hl : (ys.map (·.length)).sum + ys.length * a.length ≤ 16777216) : StrOk (Txt.join a ys) := by
  rw [TL.join_eq]
  refine ⟨?_, strOk_iff.mpr fun c hc => ?_⟩
  · have h1 := StrLaws.join_length_le a ys
    rw [sizeLine_eq]
    omega
  · rcases join_cps a ys c hc with z | ⟨y, h1, h2⟩
    · exact strOk_iff.mp ha.2 c z
    · exact strOk_iff.mp (h y h1).2 c h2
end
/-- a call of f with such values -/
def rBlt (K : PySem.W.Frag) (f : Store → List PV → R PV) : List V → Hp → VK → Prop := fun xs H Q => ∃ m S vs, Rel K S m H ∧ RVs K m H vs xs ∧ Post K (RV K) m H (f S vs) Q fun _ _ _ _ => False
def rMth (K : PySem.W.Frag) (f : Store → PV → List PV → R PV) : V → List V → Hp → VK → Prop := fun x xs H Q => ∃ m S o vs, Rel K S m H ∧ RV K m H o x ∧ RVs K m H vs xs ∧ Post K (RV K) m H (f S o vs) Q fun _ _ _ _ => False
section
variable {X : Cx}
/-- a value without a heap's change -/
theorem blt_of {K : PySem.W.Frag} {m : Mp} {H : Hp} {S : Store} {b : Blt} {vs : List PV} {Q : V → Hp → Prop} (h : Post K (RV K) m H (R.ofO (bltV b S vs) S) Q fun _ _ _ _ => False) : ∃ c, bltV b S vs = some c ∧ ∀ z m' H', Ext m H m' H' → Rel K S m' H' → RV K m' H' c z → Q z H' := by
  obtain ⟨c, e, q⟩ := h.ofO
  exact ⟨c, e, q⟩
theorem map_some {α β : Type} {o : Option α} {f : α → β} {c : β} (e : o.map f = some c) : ∃ a, o = some a ∧ f a = c := by
  cases o with
  | none => cases e
  | some a => exact ⟨a, rfl, Option.some.inj e⟩
theorem rvs1 {K : PySem.W.Frag} {m : Mp} {H : Hp} {a : PV} {xs : List V} (r : RVs K m H [a] xs) : ∃ x, xs = [x] ∧ RV K m H a x := by
  cases r with
  | cons r t => cases t; exact ⟨_, rfl, r⟩
theorem rvs2 {K : PySem.W.Frag} {m : Mp} {H : Hp} {a b : PV} {xs : List V} (r : RVs K m H [a, b] xs) : ∃ x y, xs = [x, y] ∧ RV K m H a x ∧ RV K m H b y := by
  cases r with
  | cons r t =>
    cases t with
    | cons r2 t => cases t; exact ⟨_, _, rfl, r, r2⟩
theorem cb_len : CallR X (.builtin "len") (rBlt X.K (bltR .len)) := by
  intro pins s σ H xs us Q I rx ⟨m, S, vs, rs, rv, h⟩
  obtain ⟨c, e, q⟩ := blt_of h
  have q := fun z v => q z m H Ext.refl rs v
  match vs, rv, e with
  | [], _, e => cases e
  | _ :: _ :: _, _, e => cases e
  | [a], rv, e =>
    obtain ⟨x, rfl, ra⟩ := rvs1 rv
    have e : (lenV S a).map (fun (n : Nat) => PV.int n) = some c := e
    obtain ⟨n, e1, rfl⟩ := map_some e
    have q := q _ (.int _)
    cases ra with
    | str z hz => cases (show some z.length = some n from e1); exact call_len_str pins s σ H _ us Q I rx ⟨z, rfl, hz.1, q⟩
    | tup hl ht r => cases (show some _ = some n from e1); exact call_len_seq pins s σ H _ us Q I rx ⟨_, _, rfl, .inr ht.sq, by rw [← r.length]; exact q⟩
    | lv hl _ ht r => cases (show some _ = some n from e1); exact call_len_seq pins s σ H _ us Q I rx ⟨_, _, rfl, .inl (.of ht), by rw [← r.length]; exact q⟩
    | fz hl ht r => cases (show some _ = some n from e1); exact call_len_seq pins s σ H _ us Q I rx ⟨_, _, rfl, .inl ht.sq, by rw [← r.length]; exact q⟩
    | @loc k p hk =>
      rw [lenV] at e1
      cases g : S[k]? with
      | none => rw [g] at e1; cases e1
      | some o =>
        rw [g] at e1
        have ro := rs.at g hk
        cases o with
        | lst ys => obtain ⟨hl, vs, g1, g2⟩ := ro; cases e1; exact call_len_seq pins s σ H _ us Q I rx ⟨_, _, rfl, .inl (.of g1), by rw [← g2.length]; exact q⟩
        | dic kvs => obtain ⟨vs, g1, g2⟩ := ro; cases e1; exact call_lenD pins s σ H _ us Q I rx ⟨_, _, rfl, g1, by rw [← g2.length]; exact q⟩
        | ins c fs => cases e1
    | @dv ks ys ws p hl n ht r =>
      cases (show some (ks.zip ys).length = some _ from e1)
      exact call_lenD pins s σ H _ us Q I rx ⟨_, _, rfl, ht, by rw [← r.zip.length]; exact q⟩
    | _ => cases e1
theorem cb_int1 : CallR X (.type "int") (rBlt X.K (bltR .int1)) := by
  intro pins s σ H xs us Q I rx ⟨m, S, vs, rs, rv, h⟩
  obtain ⟨c, e, q⟩ := blt_of h
  have q := fun z v => q z m H Ext.refl rs v
  match vs, rv, e with
  | [], _, e => cases e
  | _ :: _ :: _, _, e => revert e; rename_i a _ _ _; cases a <;> exact fun e => nomatch e
  | [a], rv, e =>
    obtain ⟨x, rfl, ra⟩ := rvs1 rv
    cases ra with
    | int i => cases e; exact call_int1 pins s σ H _ us Q I rx (.inl ⟨i, rfl, q _ (.int _)⟩)
    | bl k => cases e; exact call_int1 pins s σ H _ us Q I rx (.inr ⟨k, rfl, q _ (.int _)⟩)
    | _ => cases e
theorem cb_tuple1 : CallR X (.type "tuple") (rBlt X.K (bltR .tuple1)) := by
  intro pins s σ H xs us Q I rx ⟨m, S, vs, rs, rv, h⟩
  obtain ⟨c, e, q⟩ := blt_of h
  match vs, rv, e with
  | [], _, e => cases e
  | _ :: _ :: _, _, e => cases e
  | [a], rv, e =>
    obtain ⟨x, rfl, ra⟩ := rvs1 rv
    have e : (items S a).map PV.tup = some c := e
    obtain ⟨ys, e1, rfl⟩ := map_some e
    cases ra with
    | tup hl ht r =>
      cases (show some _ = some ys from e1)
      exact call_tuple_of pins s σ H _ us Q I rx ⟨_, _, rfl, .inr ⟨ht.sq, q _ m H Ext.refl rs (.tup hl ht r)⟩⟩
    | lv hl n ht r =>
      cases (show some _ = some ys from e1)
      exact call_tuple_of pins s σ H _ us Q I rx ⟨_, _, rfl, .inl ⟨.of ht, fun p hp => new_tup rs hl r hp q⟩⟩
    | fz hl ht r =>
      cases (show some _ = some ys from e1)
      exact call_tuple_of pins s σ H _ us Q I rx ⟨_, _, rfl, .inl ⟨ht.sq, fun p hp => new_tup rs hl r hp q⟩⟩
    | @loc k p hk =>
      rw [items] at e1
      cases g : S[k]? with
      | none => rw [g] at e1; cases e1
      | some o =>
        rw [g] at e1
        have ro := rs.at g hk
        cases o with
        | lst zs => obtain ⟨hl, vs, g1, g2⟩ := ro; cases e1; exact call_tuple_of pins s σ H _ us Q I rx ⟨_, _, rfl, .inl ⟨.of g1, fun p hp => new_tup rs hl g2 hp q⟩⟩
        | dic kvs => cases e1
        | ins c fs => cases e1
    | _ => cases e1
theorem cb_list1 : CallR X (.type "list") (rBlt X.K (bltR .list1)) := by
  intro pins s σ H xs us Q I rx ⟨m, S, vs, rs, rv, h⟩
  obtain ⟨c, e, q⟩ := blt_of h
  match vs, rv, e with
  | [], _, e => cases e
  | _ :: _ :: _, _, e => cases e
  | [a], rv, e =>
    obtain ⟨x, rfl, ra⟩ := rvs1 rv
    have e : (items S a).map PV.lv = some c := e
    obtain ⟨ys, e1, rfl⟩ := map_some e
    obtain ⟨p, vs, rfl, sq, r, hl⟩ := items_sq rs ra e1
    exact call_list_of pins s σ H _ us Q I rx ⟨p, vs, rfl, sq, fun p' hp => new_lst rs hl r hp q⟩
theorem cb_list1m : CallR X (.type "list") (rBlt X.K (bltR .list1m)) := by
  intro pins s σ H xs us Q I rx ⟨m, S, vs, rs, rv, h⟩
  match vs, rv, h with
  | [], _, h => exact h.elim
  | _ :: _ :: _, _, h => exact h.elim
  | [a], rv, h =>
    obtain ⟨x, rfl, ra⟩ := rvs1 rv
    have h : Post X.K (RV X.K) m H (match items S a with
      | some xs => .ok (.loc S.length) (S ++ [PO.lst xs])
      | none => .bad) Q fun _ _ _ _ => False := h
    cases e1 : items S a with
    | none => rw [e1] at h; exact h.elim
    | some ys =>
      rw [e1] at h
      obtain ⟨p, vs, rfl, sq, r, hl⟩ := items_sq rs ra e1
      exact call_list_of pins s σ H _ us Q I rx ⟨p, vs, rfl, sq, fun p' hp => new_obj rs hl r hp h⟩
theorem cb_dict1 : CallR X (.type "dict") (rBlt X.K (bltR .dict1)) := by
  intro pins s σ H xs us Q I rx ⟨m, S, vs, rs, rv, h⟩
  match vs, rv, h with
  | [], _, h => exact h.elim
  | _ :: _ :: _, _, h => exact h.elim
  | [a], rv, h =>
    obtain ⟨x, rfl, ra⟩ := rvs1 rv
    have h : Post X.K (RV X.K) m H (match ditems S a with
      | some kvs => mkDict false kvs S
      | none => .bad) Q fun _ _ _ _ => False := h
    cases g : ditems S a with
    | none => rw [g] at h; exact h.elim
    | some kvs =>
      rw [g] at h
      obtain ⟨p, ws, rfl, g1, g2⟩ := ditems_dK rs ra g
      exact call_dictD pins s σ H _ us Q I rx ⟨p, ws, rfl, .inl g1, fun p' hp => new_dv rs g2 hp h⟩
theorem cb_dict1m : CallR X (.type "dict") (rBlt X.K (bltR .dict1m)) := by
  intro pins s σ H xs us Q I rx ⟨m, S, vs, rs, rv, h⟩
  match vs, rv, h with
  | [], _, h => exact h.elim
  | _ :: _ :: _, _, h => exact h.elim
  | [a], rv, h =>
    obtain ⟨x, rfl, ra⟩ := rvs1 rv
    have h : Post X.K (RV X.K) m H (match ditems S a with
      | some kvs => mkDict true kvs S
      | none => .bad) Q fun _ _ _ _ => False := h
    cases g : ditems S a with
    | none => rw [g] at h; exact h.elim
    | some kvs =>
      rw [g] at h
      obtain ⟨p, ws, rfl, g1, g2⟩ := ditems_dK rs ra g
      exact call_dictD pins s σ H _ us Q I rx ⟨p, ws, rfl, .inl g1, fun p' hp => new_dic rs g2 hp h⟩
theorem cb_max2 (hc : X.calm = true) : CallR X (.builtin "max") (rBlt X.K (bltR .max2)) := by
  intro pins s σ H xs us Q I rx ⟨m, S, vs, rs, rv, h⟩
  obtain ⟨c, e, q⟩ := blt_of h
  have q := fun z v => q z m H Ext.refl rs v
  match vs, rv, e with
  | [], _, e => cases e
  | [a], _, e => revert e; cases a <;> exact fun e => nomatch e
  | a :: b :: _ :: _, _, e => revert e; cases a <;> cases b <;> exact fun e => nomatch e
  | [a, b], rv, e =>
    obtain ⟨x, y, rfl, ra, rb⟩ := rvs2 rv
    cases ra <;> cases rb <;> first
      | (cases e; exact call_max2 hc pins s σ H _ us Q I rx ⟨_, _, rfl, q _ (.int _)⟩)
      | cases e
theorem cb_min2 (hc : X.calm = true) : CallR X (.builtin "min") (rBlt X.K (bltR .min2)) := by
  intro pins s σ H xs us Q I rx ⟨m, S, vs, rs, rv, h⟩
  obtain ⟨c, e, q⟩ := blt_of h
  have q := fun z v => q z m H Ext.refl rs v
  match vs, rv, e with
  | [], _, e => cases e
  | [a], _, e => revert e; cases a <;> exact fun e => nomatch e
  | a :: b :: _ :: _, _, e => revert e; cases a <;> cases b <;> exact fun e => nomatch e
  | [a, b], rv, e =>
    obtain ⟨x, y, rfl, ra, rb⟩ := rvs2 rv
    cases ra <;> cases rb <;> first
      | (cases e; exact call_min2 hc pins s σ H _ us Q I rx ⟨_, _, rfl, q _ (.int _)⟩)
      | cases e
theorem cb_all1 (hc : X.calm = true) : CallR X (.builtin "all") (rBlt X.K (bltR .all1)) := by
  intro pins s σ H xs us Q I rx ⟨m, S, vs, rs, rv, h⟩
  obtain ⟨c, e, q⟩ := blt_of h
  match vs, rv, e with
  | [], _, e => cases e
  | _ :: _ :: _, _, e => cases e
  | [a], rv, e =>
    obtain ⟨x, rfl, ra⟩ := rvs1 rv
    have e : (match litems S a with
      | some xs => (boolsOf xs).map fun bs => PV.bl (bs.all id)
      | none => none) = some c := e
    cases e1 : litems S a with
    | none => rw [e1] at e; cases e
    | some ys =>
      rw [e1] at e
      obtain ⟨bs, e2, rfl⟩ := map_some e
      obtain ⟨p, vs, rfl, sq, r, hl⟩ := litems_sq rs ra e1
      rw [bools_rv r e2] at sq
      exact cr_all hc pins s σ H _ us Q I rx ⟨p, bs, rfl, sq, q _ m H Ext.refl rs (.bl _)⟩
theorem cb_any1 (hc : X.calm = true) : CallR X (.builtin "any") (rBlt X.K (bltR .any1)) := by
  intro pins s σ H xs us Q I rx ⟨m, S, vs, rs, rv, h⟩
  obtain ⟨c, e, q⟩ := blt_of h
  match vs, rv, e with
  | [], _, e => cases e
  | _ :: _ :: _, _, e => cases e
  | [a], rv, e =>
    obtain ⟨x, rfl, ra⟩ := rvs1 rv
    have e : (match litems S a with
      | some xs => (boolsOf xs).map fun bs => PV.bl (bs.any id)
      | none => none) = some c := e
    cases e1 : litems S a with
    | none => rw [e1] at e; cases e
    | some ys =>
      rw [e1] at e
      obtain ⟨bs, e2, rfl⟩ := map_some e
      obtain ⟨p, vs, rfl, sq, r, hl⟩ := litems_sq rs ra e1
      rw [bools_rv r e2] at sq
      exact cr_any hc pins s σ H _ us Q I rx ⟨p, bs, rfl, sq, q _ m H Ext.refl rs (.bl _)⟩
theorem cb_sum1 (hc : X.calm = true) : CallR X (.builtin "sum") (rBlt X.K (bltR .sum1)) := by
  intro pins s σ H xs us Q I rx ⟨m, S, vs, rs, rv, h⟩
  obtain ⟨c, e, q⟩ := blt_of h
  match vs, rv, e with
  | [], _, e => cases e
  | _ :: _ :: _, _, e => cases e
  | [a], rv, e =>
    obtain ⟨x, rfl, ra⟩ := rvs1 rv
    have e : (match litems S a with
      | some xs => (intsOf xs).map fun is => PV.int is.sum
      | none => none) = some c := e
    cases e1 : litems S a with
    | none => rw [e1] at e; cases e
    | some ys =>
      rw [e1] at e
      obtain ⟨bs, e2, rfl⟩ := map_some e
      obtain ⟨p, vs, rfl, sq, r, hl⟩ := litems_sq rs ra e1
      rw [ints_rv r e2] at sq
      exact cr_sum hc pins s σ H _ us Q I rx ⟨p, bs, rfl, sq, q _ m H Ext.refl rs (.int _)⟩
theorem KVr.keys {K : PySem.W.Frag} {m : Mp} {H : Hp} {κ : Type} : ∀ {kvs : List (κ × PV)} {vs : List (κ × V)}, KVr K m H kvs vs → kvs.map (·.1) = vs.map (·.1)
  | _, _, .nil => rfl
  | _, _, .cons r t => by rw [List.map_cons, List.map_cons, KVr.keys t]
theorem insI_perm (i : Int) : ∀ l : List Int, (insI i l).Perm (i :: l)
  | [] => .refl _
  | j :: r => by
    rw [insI]
    split
    · exact .refl _
    · exact ((insI_perm i r).cons j).trans (.swap i j r)
theorem sortI_perm : ∀ l : List Int, (sortI l).Perm l
  | [] => .refl _
  | i :: r => (insI_perm i (sortI r)).trans ((sortI_perm r).cons i)
theorem insI_sorted (i : Int) : ∀ l : List Int, l.Pairwise (· ≤ ·) → (insI i l).Pairwise (· ≤ ·)
  | [], _ => by simp [insI]
  | j :: r, h => by
    rw [insI]
    rw [List.pairwise_cons] at h
    split
    · rename_i hij
      refine List.pairwise_cons.mpr ⟨fun k hk => ?_, List.pairwise_cons.mpr h⟩
      rcases List.mem_cons.mp hk with e | e
      · rw [e]; exact hij
      · exact Int.le_trans hij (h.1 k e)
    · rename_i hij
      refine List.pairwise_cons.mpr ⟨fun k hk => ?_, insI_sorted i r h.2⟩
      rcases List.mem_cons.mp ((insI_perm i r).mem_iff.mp hk) with e | e
      · rw [e]; omega
      · exact h.1 k e
theorem sortI_sorted : ∀ l : List Int, (sortI l).Pairwise (· ≤ ·)
  | [] => .nil
  | i :: r => insI_sorted i _ (sortI_sorted r)
theorem sorted_uniq : ∀ {a b : List Int}, a.Perm b → a.Pairwise (· ≤ ·) → b.Pairwise (· ≤ ·) → a = b
  | [], b, p, _, _ => (List.perm_nil.mp p.symm).symm
  | x :: a, [], p, _, _ => by simpa using p.length_eq
  | x :: a, y :: b, p, ha, hb => by
    rw [List.pairwise_cons] at ha hb
    have e : x = y := by
      have h1 : x ∈ y :: b := p.mem_iff.mp List.mem_cons_self
      have h2 : y ∈ x :: a := p.mem_iff.mpr List.mem_cons_self
      rcases List.mem_cons.mp h1 with z | z
      · exact z
      · rcases List.mem_cons.mp h2 with w | w
        · exact w.symm
        · exact Int.le_antisymm (ha.1 y w) (hb.1 x z)
    subst e
    rw [sorted_uniq (p.cons_inv) ha.2 hb.2]
theorem sortI_of {ns ns' : List Int} (p : ns'.Perm ns) (h : ns'.Pairwise (· ≤ ·)) : ns' = sortI ns := sorted_uniq (p.trans (sortI_perm ns).symm) h (sortI_sorted ns)
theorem keyInts_ok : ∀ {ks : List Key} {is : List Int}, keyInts ks = some is → ks = is.map Sum.inl
  | [], is, h => by cases h; rfl
  | .inl i :: r, is, h => by
    rw [keyInts] at h
    cases e : keyInts r with
    | none => rw [e] at h; cases h
    | some js => rw [e] at h; cases h; rw [keyInts_ok e]; rfl
  | .inr _ :: _, is, h => by cases h
theorem ints_vals {K : PySem.W.Frag} {m : Mp} {H : Hp} : ∀ ns : List Int, RVs K m H (ns.map PV.int) (ns.map V.int)
  | [] => .nil
  | n :: r => .cons (.int n) (ints_vals r)
/-- sorted of a tuple of ints -/
theorem cr_sortedTI : CallR X (.builtin "sorted") (fun xs H Q => ∃ (a : Addr) (ns : List Int), xs = [.ref a] ∧ SqT X.K H a (ns.map V.int) ∧
    ∀ (ns' : List Int) (p : Addr), ns'.Perm ns → ns'.Pairwise (· ≤ ·) → H p = none → Q (.ref p) (upd H p (.lst (ns'.map V.int)))) := by
  intro pins s σ H xs us Q I r q
  obtain ⟨a, ns, rfl, hs, q⟩ := q
  obtain ⟨its, rv, ⟨o, ho, hc, n, hd⟩, hz⟩ := I.tuple hs
  rw [Vals.ref1 r]
  have hi := rv.ints
  have hz' : its.length ≤ sizeLine := by rw [← rv.length]; exact hz
  refine Calls.call_function_entry PyProof.Rows.kind_sorted PyProof.Rows.plain_sorted PyProof.Rows.entry_sorted (PyProof.Rows.args_sorted1 _) ?_
  unfold Builtin.«sorted»
  refine wpAny_bind (m := checkCount "sorted" 1 1 _) (wpAny_pure ?_)
  refine wpAny_bind (wpAny_collect_seq a (.inr rfl) ho hc hd (fun h1 k1 => ?_) (by simpa using hz'))
  refine wpAny_bind (wpAny_newList ?_ (by simpa using hz'))
  have I1 : Inv X pins σ H { s with heap := h1 } := I.kept k1
  have e0 : its.toArray.toList = its := by simp
  have hoL : (h1.push (PyProof.Rows.seqObj "list" its.toArray 0)).get? h1.objs.size = some (PyProof.Rows.seqObj "list" its.toArray 0) := Heap.get?_push_size _ rfl
  show wpAny _ _ _ _ _ { s with heap := h1.push (PyProof.Rows.seqObj "list" its.toArray.toList.toArray 0) }
  rw [e0]
  refine wpAny_bind (wpAny_holding (wpAny_call_entry PyProof.Rows.slot_list_sort ⟨_, hoL, rfl⟩ PyProof.Rows.entry_list_sort
    (SrtO.list_sort_ord (s := { s with heap := h1.push (PyProof.Rows.seqObj "list" its.toArray 0) }) SrtO.swo_int hoL hz' (fun h2 => SrtO.ints_sortable hi h2) fun out g1 g2 => ⟨_, rfl, ?_⟩) (PyProof.Rows.args_list_sort _)))
  obtain ⟨k1', k2, k3⟩ := SrtO.ints_out hi g1 g2
  obtain ⟨e', he'⟩ := PyProof.Rows.sortedHeap_at (vs := its) (out := out.toArray) hoL
  have hlen : ((out.map SrtO.iv).map V.int).length ≤ sizeLine := by
    rw [List.length_map, k2.length_eq]
    rw [List.length_map] at hz
    exact hz
  refine wpAny_pure ⟨_, rfl, .ref h1.objs.size, upd H h1.objs.size (.lst ((out.map SrtO.iv).map V.int)), I1.laid (t' := s.toks) (fun b u e => ?_) (Nat.le_refl _)
    (show ObjOk X.prog X.w _ _ _ (.lst ((out.map SrtO.iv).map V.int)) from ⟨hlen, out, e', vals_of_ints k1', he'⟩), rfl, q _ _ k2 k3 (I1.hok.fresh (Nat.le_refl _))⟩
  have hb : b < h1.objs.size := Heap.lt_size e
  rw [PyProof.Rows.sortedHeap_old (Nat.ne_of_lt hb) (by rw [PyProof.Rows.size_push']; exact Nat.lt_succ_of_lt hb)]
  exact Heap.get?_push_of_some _ e
theorem cb_sorted1 (hc : X.calm = true) : CallR X (.builtin "sorted") (rBlt X.K (bltR .sorted1)) := by
  intro pins s σ H xs us Q I rx ⟨m, S, vs, rs, rv, h⟩
  obtain ⟨c, e, q⟩ := blt_of h
  match vs, rv, e with
  | [], _, e => cases e
  | _ :: _ :: _, _, e => cases e
  | [a], rv, e =>
    obtain ⟨x, rfl, ra⟩ := rvs1 rv
    have e : (sortV S a).map (fun is => PV.lv (is.map .int)) = some c := e
    obtain ⟨is, e1, rfl⟩ := map_some e
    have fin : ∀ (ns ns' : List Int) (p : Addr), ns.length ≤ sizeLine → is = sortI ns → ns'.Perm ns → ns'.Pairwise (· ≤ ·) → H p = none → Q (.ref p) (upd H p (.lst (ns'.map V.int))) := fun ns ns' p hl hi h1 h2 hp => by
      rw [sortI_of h1 h2, ← hi]
      exact new_lst rs (by rw [List.length_map, hi, (sortI_perm ns).length_eq]; exact hl) (ints_vals is) hp q
    unfold sortV at e1
    cases g : ditems S a with
    | some kvs =>
      rw [g] at e1
      simp only at e1
      cases g2 : keyInts (kvs.map (·.1)) with
      | none => rw [g2] at e1; cases e1
      | some ks =>
        rw [g2] at e1
        simp only at e1
        obtain ⟨h64, e1⟩ := ite_some e1
        cases e1
        obtain ⟨p, ws, rfl, k1, k2⟩ := ditems_dK rs ra g
        have hk : ws.map (·.1) = ks.map Sum.inl := by rw [← keyInts_ok g2]; exact k2.keys.symm
        exact call_sortedDI hc pins s σ H _ us Q I rx ⟨p, ws, ks, rfl, .inl k1, hk, h64, fun ns' p' h1 h2 hp => fin ks ns' p' (by rw [sizeLine_eq]; omega) rfl h1 h2 hp⟩
    | none =>
      rw [g] at e1
      simp only at e1
      cases g2 : items S a with
      | none => rw [g2] at e1; cases e1
      | some ys =>
        rw [g2] at e1
        obtain ⟨ns, e2, rfl⟩ := map_some e1
        obtain ⟨p, vs, rfl, sq, r, hl⟩ := items_sq rs ra g2
        have ez := ints_rv r e2
        subst ez
        have hl2 : ns.length ≤ sizeLine := by have := r.length; rw [List.length_map] at this; omega
        rcases sq with sq | sq
        · exact cr_sortedI pins s σ H _ us Q I rx ⟨p, ns, rfl, sq, fun ns' p' h1 h2 hp => fin ns ns' p' hl2 rfl h1 h2 hp⟩
        · exact cr_sortedTI pins s σ H _ us Q I rx ⟨p, ns, rfl, sq, fun ns' p' h1 h2 hp => fin ns ns' p' hl2 rfl h1 h2 hp⟩
theorem cb_str1 : CallR X (.type "str") (rBlt X.K (bltR .str1)) := by
  intro pins s σ H xs us Q I rx ⟨m, S, vs, rs, rv, h⟩
  obtain ⟨c, e, q⟩ := blt_of h
  have q := fun z v => q z m H Ext.refl rs v
  match vs, rv, e with
  | [], _, e => cases e
  | a :: _ :: _, _, e => revert e; cases a <;> exact fun e => nomatch e
  | [a], rv, e =>
    obtain ⟨x, rfl, ra⟩ := rvs1 rv
    cases ra with
    | int i =>
      have e : (if (decide (i.natAbs.log2 < 1920) && okB (Str.ofString (toString i))) = true then some (PV.str (Str.ofString (toString i))) else none) = some c := e
      by_cases h : (decide (i.natAbs.log2 < 1920) && okB (Str.ofString (toString i))) = true
      · rw [if_pos h] at e
        cases e
        rw [Bool.and_eq_true] at h
        exact call_str_int pins s σ H _ us Q I rx ⟨i, rfl, of_decide_eq_true h.1, q _ (.str _ (okB_ok h.2))⟩
      · rw [if_neg h] at e; cases e
    | _ => cases e
/-! ### methods -/
theorem mb_append : MtR X "list.append" (rMth X.K (mthV .append)) := by
  intro pins s σ H x xs v us Q I rx rxs ⟨m, S, o, vs, rs, ro, rv, h⟩
  cases ro with
  | @loc n p hn =>
    match vs, rv, h with
    | [], _, h => exact h.elim
    | _ :: _ :: _, _, h => exact h.elim
    | [a], rv, h =>
      obtain ⟨y, rfl, ra⟩ := rvs1 rv
      have h : Post X.K (RV X.K) m H (match S[n]? with
        | some (.lst xs) => if xs.length < sizeLine then .ok .non (S.set n (.lst (xs ++ [a]))) else .bad
        | _ => .bad) Q fun _ _ _ _ => False := h
      cases g : S[n]? with
      | none => rw [g] at h; exact h.elim
      | some u =>
        rw [g] at h
        have ru := rs.at g hn
        cases u with
        | lst ys =>
          obtain ⟨hl, ws, g1, g2⟩ := ru
          simp only at h
          by_cases hh : ys.length < sizeLine
          · rw [if_pos hh] at h
            refine mt_append pins s σ H _ _ v us Q I rx rxs ⟨p, ws, y, rfl, rfl, g1, by rw [← g2.length]; exact hh, ?_⟩
            refine h _ m _ (Ext.changed (mem_of_get hn)) (rs.change hn ⟨by rw [List.length_append, List.length_singleton]; omega, _, upd_same, ?_⟩) .non
            exact (g2.append (.cons ra .nil)).up (Ext.changed (mem_of_get hn))
          · rw [if_neg hh] at h; exact h.elim
        | _ => exact h.elim
  | _ => exact h.elim
theorem mb_extend : MtR X "list.extend" (rMth X.K (mthV .extend)) := by
  intro pins s σ H x xs v us Q I rx rxs ⟨m, S, o, vs, rs, ro, rv, h⟩
  cases ro with
  | @loc n p hn =>
    match vs, rv, h with
    | [], _, h => exact h.elim
    | _ :: _ :: _, _, h => exact h.elim
    | [a], rv, h =>
      obtain ⟨y, rfl, ra⟩ := rvs1 rv
      have h : Post X.K (RV X.K) m H (match S[n]?, mitems S a with
        | some (.lst xs), some ys => if xs.length + ys.length ≤ sizeLine then .ok .non (S.set n (.lst (xs ++ ys))) else .bad
        | _, _ => .bad) Q fun _ _ _ _ => False := h
      cases g : S[n]? with
      | none => rw [g] at h; exact h.elim
      | some u =>
        rw [g] at h
        have ru := rs.at g hn
        cases u with
        | lst ys =>
          obtain ⟨hl, ws, g1, g2⟩ := ru
          cases ea : mitems S a with
          | none => rw [ea] at h; exact h.elim
          | some zs =>
            rw [ea] at h
            obtain ⟨b, us', rfl, g3, g4, hl2⟩ := mitems_lst rs ra ea
            simp only at h
            by_cases hh : ys.length + zs.length ≤ sizeLine
            · rw [if_pos hh] at h
              refine mt_extend pins s σ H _ _ v us Q I rx rxs ⟨p, b, ws, us', rfl, rfl, g1, g3, by rw [← g2.length, ← g4.length]; exact hh, ?_⟩
              refine h _ m _ (Ext.changed (mem_of_get hn)) (rs.change hn ⟨by rw [List.length_append]; exact hh, _, upd_same, ?_⟩) .non
              exact (g2.append g4).up (Ext.changed (mem_of_get hn))
            · rw [if_neg hh] at h; exact h.elim
        | _ => exact h.elim
  | _ => exact h.elim
theorem mb_pop0 : MtR X "list.pop" (rMth X.K (mthV .pop0)) := by
  intro pins s σ H x xs v us Q I rx rxs ⟨m, S, o, vs, rs, ro, rv, h⟩
  cases ro with
  | @loc n p hn =>
    match vs, rv, h with
    | _ :: _, _, h => exact h.elim
    | [], rv, h =>
      cases rv
      have h : Post X.K (RV X.K) m H (match S[n]? with
        | some (.lst xs) => match xs[xs.length - 1]? with
          | some y => .ok y (S.set n (.lst xs.dropLast))
          | none => .bad
        | _ => .bad) Q fun _ _ _ _ => False := h
      cases g : S[n]? with
      | none => rw [g] at h; exact h.elim
      | some u =>
        rw [g] at h
        have ru := rs.at g hn
        cases u with
        | lst ys =>
          obtain ⟨hl, ws, g1, g2⟩ := ru
          simp only at h
          cases hh : ys[ys.length - 1]? with
          | none => rw [hh] at h; exact h.elim
          | some y =>
            rw [hh] at h
            obtain ⟨w, k1, k2⟩ := g2.get hh
            refine mt_pop pins s σ H _ _ v us Q I rx rxs ⟨p, ws, w, rfl, rfl, g1, by rw [← g2.length]; exact k1, ?_⟩
            refine h _ m _ (Ext.changed (mem_of_get hn)) (rs.change hn ⟨by rw [List.length_dropLast]; omega, _, upd_same, ?_⟩) (k2.up (Ext.changed (mem_of_get hn)))
            exact g2.dropLast.up (Ext.changed (mem_of_get hn))
        | _ => exact h.elim
  | _ => exact h.elim
theorem mb_pop1 : MtR X "list.pop" (rMth X.K (mthV .pop1)) := by
  intro pins s σ H x xs v us Q I rx rxs ⟨m, S, o, vs, rs, ro, rv, h⟩
  cases ro with
  | @loc n p hn =>
    match vs, rv, h with
    | [], _, h => exact h.elim
    | a :: _ :: _, _, h => revert h; cases a <;> exact fun h => h.elim
    | [a], rv, h =>
      obtain ⟨y, rfl, ra⟩ := rvs1 rv
      cases ra with
      | int i =>
        have h : Post X.K (RV X.K) m H (match S[n]? with
          | some (.lst xs) => match ixN xs.length i with
            | some k => match xs[k]? with
              | some y => .ok y (S.set n (.lst (xs.eraseIdx k)))
              | none => .bad
            | none => .bad
          | _ => .bad) Q fun _ _ _ _ => False := h
        cases g : S[n]? with
        | none => rw [g] at h; exact h.elim
        | some u =>
          rw [g] at h
          have ru := rs.at g hn
          cases u with
          | lst ys =>
            obtain ⟨hl, ws, g1, g2⟩ := ru
            simp only at h
            cases hk : ixN ys.length i with
            | none => rw [hk] at h; exact h.elim
            | some k =>
              rw [hk] at h
              simp only at h
              cases hh : ys[k]? with
              | none => rw [hh] at h; exact h.elim
              | some y =>
                rw [hh] at h
                obtain ⟨w, k1, k2⟩ := g2.get hh
                obtain ⟨c1, c2, c3, c4⟩ := ixN_seq hk
                have hz : sizeLine = 16777216 := sizeLine_eq
                refine mt_popAt pins s σ H _ _ v us Q I rx rxs ⟨p, ws, i, k, w, rfl, rfl, g1, by omega, by omega, by rw [← g2.length]; exact c1, k1, ?_⟩
                refine h _ m _ (Ext.changed (mem_of_get hn)) (rs.change hn ⟨Nat.le_trans (List.length_eraseIdx_le _ _) hl, _, upd_same, ?_⟩) (k2.up (Ext.changed (mem_of_get hn)))
                exact (g2.erase k).up (Ext.changed (mem_of_get hn))
          | _ => exact h.elim
      | _ => exact h.elim
  | _ => exact h.elim
theorem mb_get1 (hu : X.A.units + 190 < cLine) : MtR X "dict.get" (rMth X.K (mthV .get1)) := by
  intro pins s σ H x xs v us Q I rx rxs ⟨m, S, o, vs, rs, ro, rv, h⟩
  match vs, rv, h with
  | [], _, h => revert h; cases o <;> exact fun h => h.elim
  | _ :: _ :: _, _, h => revert h; cases o <;> exact fun h => h.elim
  | [a], rv, h =>
    obtain ⟨y, rfl, ra⟩ := rvs1 rv
    have h : Post X.K (RV X.K) m H (match ditems S o, keyOf a with
      | some kvs, some k => .ok ((getK kvs k).getD .non) S
      | _, _ => .bad) Q fun _ _ _ _ => False := by revert h; cases o <;> exact fun h => h
    cases g : ditems S o with
    | none => rw [g] at h; exact h.elim
    | some kvs =>
      rw [g] at h
      obtain ⟨p, ws, rfl, g1, g2⟩ := ditems_dK rs ro g
      cases hk : keyOf a with
      | none => rw [hk] at h; exact h.elim
      | some k =>
        rw [hk] at h
        have ek := keyOf_rv ra hk
        obtain ⟨u1, rfl, ru1⟩ := vals1 rxs
        obtain rfl : v = Value.ref p := rx
        have q : Q ((valV ws k).getD .non) H := by
          refine h _ m H Ext.refl rs ?_
          rcases g2.get k with ⟨z1, z2⟩ | ⟨z, w, z1, z2, z3⟩
          · rw [z1, z2]; exact .non
          · rw [z1, z2]; exact z3
        exact d_get1 (by omega) I (show DGet H p y (valV ws k) by rw [ek]; exact .k g1) ru1 fun w' s' I' rw' => ⟨_, H, I', rw', q⟩
theorem mb_get2 (hu : X.A.units + 190 < cLine) : MtR X "dict.get" (rMth X.K (mthV .get2)) := by
  intro pins s σ H x xs v us Q I rx rxs ⟨m, S, o, vs, rs, ro, rv, h⟩
  match vs, rv, h with
  | [], _, h => revert h; cases o <;> exact fun h => h.elim
  | [_], _, h => revert h; cases o <;> exact fun h => h.elim
  | _ :: _ :: _ :: _, _, h => revert h; cases o <;> exact fun h => h.elim
  | [a, b], rv, h =>
    obtain ⟨y, yb, rfl, ra, rb⟩ := rvs2 rv
    have h : Post X.K (RV X.K) m H (match ditems S o, keyOf a with
      | some kvs, some k => .ok ((getK kvs k).getD b) S
      | _, _ => .bad) Q fun _ _ _ _ => False := by revert h; cases o <;> exact fun h => h
    cases g : ditems S o with
    | none => rw [g] at h; exact h.elim
    | some kvs =>
      rw [g] at h
      obtain ⟨p, ws, rfl, g1, g2⟩ := ditems_dK rs ro g
      cases hk : keyOf a with
      | none => rw [hk] at h; exact h.elim
      | some k =>
        rw [hk] at h
        have ek := keyOf_rv ra hk
        obtain ⟨u1, u2, rfl, ru1, ru2⟩ := vals2 rxs
        obtain rfl : v = Value.ref p := rx
        have q : Q ((valV ws k).getD yb) H := by
          refine h _ m H Ext.refl rs ?_
          rcases g2.get k with ⟨z1, z2⟩ | ⟨z, w, z1, z2, z3⟩
          · rw [z1, z2]; exact rb
          · rw [z1, z2]; exact z3
        exact d_get2 (by omega) I (show DGet H p y (valV ws k) by rw [ek]; exact .k g1) ru1 ru2 fun w' s' I' rw' => ⟨_, H, I', rw', q⟩
theorem mb_setdef : MtR X "dict.setdefault" (rMth X.K (mthV .setdef)) := by
  intro pins s σ H x xs v us Q I rx rxs ⟨m, S, o, vs, rs, ro, rv, h⟩
  match vs, rv, h with
  | [], _, h => revert h; cases o <;> exact fun h => h.elim
  | [_], _, h => revert h; cases o <;> exact fun h => h.elim
  | _ :: _ :: _ :: _, _, h => revert h; cases o <;> exact fun h => h.elim
  | [a, b], rv, h =>
    obtain ⟨y, yb, rfl, ra, rb⟩ := rvs2 rv
    cases ro with
    | @loc n p hn =>
      have h : Post X.K (RV X.K) m H (match S[n]? with
        | some (.dic kvs) => match keyOf a with
          | some k => if kvs.length < sizeLine then (match getK kvs k with
            | some v => .ok v S
            | none => .ok b (S.set n (.dic (putP kvs k b)))) else .bad
          | none => .bad
        | _ => .bad) Q fun _ _ _ _ => False := h
      cases g : S[n]? with
      | none => rw [g] at h; exact h.elim
      | some u =>
        rw [g] at h
        cases u with
        | dic kvs =>
          obtain ⟨ws, g1, g2⟩ := rs.at g hn
          cases hk : keyOf a with
          | none => rw [hk] at h; exact h.elim
          | some k =>
            rw [hk] at h
            simp only at h
            by_cases hl : kvs.length < sizeLine
            · rw [if_pos hl] at h
              have ek := keyOf_rv ra hk
              obtain ⟨u1, u2, rfl, ru1, ru2⟩ := vals2 rxs
              obtain rfl : v = Value.ref p := rx
              refine d_setd I g1 (by rw [← ek]; exact ru1) ru2 (by rw [← g2.length]; exact hl) ?_ ?_
              · intro w0 hw w' s' I' rw'
                refine ⟨w0, H, I', rw', ?_⟩
                rcases g2.get k with ⟨z1, z2⟩ | ⟨z, w, z1, z2, z3⟩
                · rw [hw] at z2; cases z2
                · rw [hw] at z2; cases z2
                  rw [z1] at h
                  exact h _ m H Ext.refl rs z3
              · intro hw w' s' I' rw'
                refine ⟨yb, _, I', rw', ?_⟩
                rcases g2.get k with ⟨z1, z2⟩ | ⟨z, w, z1, z2, z3⟩
                · rw [z1] at h
                  have xt : Ext m H m (upd H p (.dK (putK ws k yb))) := Ext.changed (mem_of_get hn)
                  exact h _ m _ xt (rs.change hn ⟨_, upd_same, KVr.mono xt (KVr.put rb g2)⟩) (rb.up xt)
                · rw [hw] at z2; cases z2
            · rw [if_neg hl] at h; exact h.elim
        | _ => exact h.elim
    | _ => exact h.elim
theorem mb_join : MtR X "str.join" (rMth X.K (mthV .join)) := by
  intro pins s σ H x xs v us Q I rx rxs ⟨m, S, o, vs, rs, ro, rv, h⟩
  cases ro with
  | str a ha =>
    match vs, rv, h with
    | [], _, h => exact h.elim
    | _ :: _ :: _, _, h => exact h.elim
    | [b], rv, h =>
      obtain ⟨y, rfl, ra⟩ := rvs1 rv
      have h : Post X.K (RV X.K) m H (match litems S b with
        | some xs => match strsOf xs with
          | some ys => if (ys.map (·.length)).sum + ys.length * a.length ≤ 16777216 then .ok (.str (Txt.join a ys)) S else .bad
          | none => .bad
        | none => .bad) Q fun _ _ _ _ => False := h
      cases e1 : litems S b with
      | none => rw [e1] at h; exact h.elim
      | some zs =>
        rw [e1] at h
        simp only at h
        cases e2 : strsOf zs with
        | none => rw [e2] at h; exact h.elim
        | some ys =>
          rw [e2] at h
          simp only at h
          obtain ⟨p, ws, rfl, sq, r, hl⟩ := litems_sq rs ra e1
          obtain ⟨k1, k2⟩ := strs_rv r e2
          rw [k1] at sq
          by_cases hh : (ys.map (·.length)).sum + ys.length * a.length ≤ 16777216
          · rw [if_pos hh] at h
            exact mt_join pins s σ H _ _ v us Q I rx rxs ⟨a, p, ys, rfl, rfl, .inl sq, hh, h _ m H Ext.refl rs (.str _ (join_ok ha k2 hh))⟩
          · rw [if_neg hh] at h; exact h.elim
  | _ => exact h.elim
theorem mb_partition : MtR X "str.partition" (rMth X.K (mthV .partition)) := by
  intro pins s σ H x xs v us Q I rx rxs ⟨m, S, o, vs, rs, ro, rv, h⟩
  cases ro with
  | str a ha =>
    match vs, rv, h with
    | [], _, h => exact h.elim
    | b :: _ :: _, _, h => revert h; cases b <;> exact fun h => h.elim
    | [b], rv, h =>
      obtain ⟨y, rfl, ra⟩ := rvs1 rv
      cases ra with
      | str b hb =>
        have h : Post X.K (RV X.K) m H (if (!(b.length == 0) && okB (Txt.partition a b).1 && okB (Txt.partition a b).2.1 && okB (Txt.partition a b).2.2) = true then .ok (.tup [.str (Txt.partition a b).1, .str (Txt.partition a b).2.1, .str (Txt.partition a b).2.2]) S else .bad) Q fun _ _ _ _ => False := h
        by_cases hh : (!(b.length == 0) && okB (Txt.partition a b).1 && okB (Txt.partition a b).2.1 && okB (Txt.partition a b).2.2) = true
        · rw [if_pos hh] at h
          simp only [Bool.and_eq_true] at hh
          obtain ⟨⟨⟨h1, h2⟩, h3⟩, h4⟩ := hh
          refine mt_partition pins s σ H _ _ v us Q I rx rxs ⟨a, b, rfl, rfl, by simpa using h1, ha.1, fun p hp => ?_⟩
          exact new_tup (xs := [.str (Txt.partition a b).1, .str (Txt.partition a b).2.1, .str (Txt.partition a b).2.2]) rs (by show 3 ≤ sizeLine; rw [sizeLine_eq]; decide) (.cons (.str _ (okB_ok h2)) (.cons (.str _ (okB_ok h3)) (.cons (.str _ (okB_ok h4)) .nil))) hp h
        · rw [if_neg hh] at h; exact h.elim
      | _ => exact h.elim
  | _ => exact h.elim
theorem mb_count : MtR X "str.count" (rMth X.K (mthV .count)) := by
  intro pins s σ H x xs v us Q I rx rxs ⟨m, S, o, vs, rs, ro, rv, h⟩
  cases ro with
  | str a ha =>
    match vs, rv, h with
    | [], _, h => exact h.elim
    | b :: _ :: _, _, h => revert h; cases b <;> exact fun h => h.elim
    | [b], rv, h =>
      obtain ⟨y, rfl, ra⟩ := rvs1 rv
      cases ra with
      | str b hb =>
        have h : Post X.K (RV X.K) m H (.ok (.int (Txt.count a b)) S) Q fun _ _ _ _ => False := h
        exact mt_count pins s σ H _ _ v us Q I rx rxs ⟨a, b, rfl, rfl, h _ m H Ext.refl rs (.int _)⟩
      | _ => exact h.elim
  | _ => exact h.elim
theorem strs_rvs {K : PySem.W.Frag} {m : Mp} {H : Hp} : ∀ {ys : List Str}, ys.all okB = true → RVs K m H (ys.map PV.str) (ys.map V.str)
  | [], _ => .nil
  | y :: ys, h => by
    rw [List.all_cons, Bool.and_eq_true] at h
    exact .cons (.str y (okB_ok h.1)) (strs_rvs h.2)
theorem mb_split : MtR X "str.split" (rMth X.K (mthV .split)) := by
  intro pins s σ H x xs v us Q I rx rxs ⟨m, S, o, vs, rs, ro, rv, h⟩
  cases ro with
  | str a ha =>
    match vs, rv, h with
    | [], _, h => exact h.elim
    | b :: _ :: _, _, h => revert h; cases b <;> exact fun h => h.elim
    | [b], rv, h =>
      obtain ⟨y, rfl, ra⟩ := rvs1 rv
      cases ra with
      | str b hb =>
        have h : Post X.K (RV X.K) m H (if (!(b.length == 0) && decide (a.length + 2 ≤ sizeLine) && (Txt.split a b).all okB && decide ((Txt.split a b).length ≤ sizeLine)) = true then .ok (.lv ((Txt.split a b).map .str)) S else .bad) Q fun _ _ _ _ => False := h
        by_cases hh : (!(b.length == 0) && decide (a.length + 2 ≤ sizeLine) && (Txt.split a b).all okB && decide ((Txt.split a b).length ≤ sizeLine)) = true
        · rw [if_pos hh] at h
          simp only [Bool.and_eq_true] at hh
          obtain ⟨⟨⟨h1, h2⟩, h3⟩, h4⟩ := hh
          exact mt_split pins s σ H _ _ v us Q I rx rxs ⟨a, b, rfl, rfl, by simpa using h1, of_decide_eq_true h2, fun p hp => new_lst rs (by rw [List.length_map]; exact of_decide_eq_true h4) (strs_rvs h3) hp h⟩
        · rw [if_neg hh] at h; exact h.elim
      | _ => exact h.elim
  | _ => exact h.elim
theorem mb_clearL : MtR X "list.clear" (rMth X.K (mthV .clearL)) := by
  intro pins s σ H x xs v us Q I rx rxs ⟨m, S, o, vs, rs, ro, rv, h⟩
  cases ro with
  | @loc n p hn =>
    match vs, rv, h with
    | _ :: _, _, h => exact h.elim
    | [], rv, h =>
      cases rv
      have h : Post X.K (RV X.K) m H (match S[n]? with
        | some (.lst _) => .ok .non (S.set n (.lst []))
        | _ => .bad) Q fun _ _ _ _ => False := h
      cases g : S[n]? with
      | none => rw [g] at h; exact h.elim
      | some u =>
        rw [g] at h
        have ru := rs.at g hn
        cases u with
        | lst ys =>
          obtain ⟨hl, ws, g1, g2⟩ := ru
          refine mt_clear pins s σ H _ _ v us Q I rx rxs ⟨p, ws, rfl, rfl, g1, ?_⟩
          exact h _ m _ (Ext.changed (mem_of_get hn)) (rs.change hn ⟨Nat.zero_le _, _, upd_same, .nil⟩) .non
        | _ => exact h.elim
  | _ => exact h.elim
theorem mb_clearD : MtR X "dict.clear" (rMth X.K (mthV .clearD)) := by
  intro pins s σ H x xs v us Q I rx rxs ⟨m, S, o, vs, rs, ro, rv, h⟩
  cases ro with
  | @loc n p hn =>
    match vs, rv, h with
    | _ :: _, _, h => exact h.elim
    | [], rv, h =>
      cases rv
      have h : Post X.K (RV X.K) m H (match S[n]? with
        | some (.dic _) => .ok .non (S.set n (.dic []))
        | _ => .bad) Q fun _ _ _ _ => False := h
      cases g : S[n]? with
      | none => rw [g] at h; exact h.elim
      | some u =>
        rw [g] at h
        have ru := rs.at g hn
        cases u with
        | dic ys =>
          obtain ⟨ws, g1, g2⟩ := ru
          refine mtd_clear pins s σ H _ _ v us Q I rx rxs ⟨p, ws, rfl, rfl, g1, ?_⟩
          exact h _ m _ (Ext.changed (mem_of_get hn)) (rs.change hn ⟨_, upd_same, .nil⟩) .non
        | _ => exact h.elim
  | _ => exact h.elim
end
end L2.PF

set_option Elab.async false
set_option linter.all false
set_option maxRecDepth 100000
set_option maxHeartbeats 4000000
/-! PFF: from the program's own text to PFA's language; the parts' promises. -/
namespace L2.PF
open PySem PySem.Spec PyProof.Rows

/-! ### forms of the text -/
def noStar : Expr → Bool
  | .Starred .. => false
  | _ => true
def noSlice : Expr → Bool
  | .Slice .. => false
  | _ => true
/-- whose truth is that of its value -/
def plainTruth : Expr → Bool
  | .UnaryOp .Not _ _ => false
  | .BoolOp .. => false
  | .IfExp .. => false
  | .Compare .. => false
  | _ => true
def noComp : Expr → Bool
  | .ListComp .. => false
  | .SetComp .. => false
  | .DictComp .. => false
  | _ => true
def noSet : Expr → Bool
  | .Set .. => false
  | _ => true
def plainBase : Expr → Bool
  | .Call (.Name ..) [] [] _ => false
  | _ => true
section
variable {env : PySem.Env} {e : Expr} {es : List Expr} {pos : Pos}
theorem star_cons (h : noStar e = true) : starEach (e :: es) env = (false, eval e env) :: starEach es env := by
  cases e <;> first | rfl | cases h
theorem star_any : ∀ {es : List Expr}, es.all noStar = true → (backTo pos (starEach es env)).any (·.1) = false
  | [], _ => rfl
  | e :: es, h => by
    rw [List.all_cons, Bool.and_eq_true] at h
    rw [star_cons h.1]
    show (false || (backTo pos (starEach es env)).any (·.1)) = false
    rw [star_any h.2]
    rfl
theorem star_all : ∀ {es : List Expr}, es.all noStar = true → (backTo pos (starEach es env)).all (fun x => !x.1) = true
  | [], _ => rfl
  | e :: es, h => by
    rw [List.all_cons, Bool.and_eq_true] at h
    rw [star_cons h.1]
    show (true && (backTo pos (starEach es env)).all (fun x => !x.1)) = true
    rw [star_all h.2]
    rfl
theorem slice_plain (h : noSlice e = true) : ∀ o i, subscripted e false o i = operate [o, i] (getItem o i) := by
  cases e <;> first | (intro o i; rfl) | cases h
theorem truth_plain (h : plainTruth e = true) : ∀ whole, isTrue e env whole = (do let v ← whole; standAt e.pos; holding [v] (truthy v)) := by
  cases e with
  | UnaryOp op x p => cases op <;> first | (intro w; rfl) | cases h
  | BoolOp => cases h
  | IfExp => cases h
  | Compare => cases h
  | _ => intro w; rfl
theorem swaps_plain (h : noComp e = true) (t : Option Expr) (l : Nat) : swapsWith e t l env = pure false := by
  cases e <;> first | rfl | cases h
theorem base_plain (h : plainBase e = true) (attr : Str) : attributeBase e attr env (eval e env) = eval e env := by
  cases e with
  | Call f as ks p =>
    cases f <;> first
      | rfl
      | (cases as with
         | nil =>
           cases ks with
           | nil => cases h
           | cons _ _ => rfl
         | cons _ _ => rfl)
  | _ => rfl
theorem folded_plain (h : noSet e = true) : ∀ x, foldedSetIterable e env x = pure x := by
  cases e <;> first | (intro x; rfl) | cases h
theorem behind_plain (h : noSet e = true) (op : CmpOp) : behindInMarks op e = false := by
  cases e <;> first | rfl | cases h
end

/-! ### the translation -/
structure Tab where
  /-- the defs: name, number, how many parameters -/
  fns : List (Str × Nat × Nat)
  /-- the constants -/
  gls : List (Str × PV)
  /-- the built-in names that the top leaves alone -/
  bls : List Str
  /-- where lists are laid in the store -/
  lays : List Pos

def visible (sc : Scope) (x : Str) : Bool := match sc.names.lookup x with
  | some .local => true
  | some .cell => true
  | some .free => true
  | _ => false
def ownName (sc : Scope) (x : Str) : Bool := match sc.names.lookup x with
  | some .local => true
  | some .cell => true
  | _ => false
def isGlobal (sc : Scope) (x : Str) : Bool := match sc.names.lookup x with
  | some .globalImplicit => true
  | _ => false
def oddName (x : Str) : Bool := x == ("__debug__" : Str) || x == ("__classdict__" : Str) || x == ("__name__" : Str)
/-- the slot of a name -/
def slotOf (N : List Str) (x : Str) : Option Nat := N.findIdx? fun y => decide (y = x)
/-- is x the built-in of that name? -/
def isB (B : Tab) (sc : Scope) (x : Str) : Bool := isGlobal sc x && B.bls.contains x && !oddName x
def trL {α β : Type} (f : α → Option β) : List α → Option (List β)
  | [] => some []
  | x :: xs => match f x with
    | none => none
    | some y => match trL f xs with
      | none => none
      | some ys => some (y :: ys)
/-- the type's names, in isinstance -/
def typeOk (s : String) : Bool := s == "int" || s == "bool" || s == "str" || s == "tuple" || s == "list" || s == "dict"
def trType (B : Tab) (sc : Scope) : Expr → Option String
  | .Name x _ => if isB B sc x then (if x = ("int" : Str) then some "int" else if x = ("bool" : Str) then some "bool" else if x = ("str" : Str) then some "str" else if x = ("tuple" : Str) then some "tuple" else
    if x = ("list" : Str) then some "list" else if x = ("dict" : Str) then some "dict" else none) else none
  | _ => none
def trName (B : Tab) (N : List Str) (sc : Scope) (x : Str) : Option X :=
  if oddName x then none else if visible sc x then (slotOf N x).map .v else if isGlobal sc x then (B.gls.lookup x).map .c else none
def trConst : Const → Option X
  | .int i => some (.c (.int i))
  | .bool b => some (.c (.bl b))
  | .none => some (.c .non)
  | .str x => if okB x then some (.c (.str x)) else none
  | _ => none
/-- the built-in functions by name and number of arguments -/
def bltOf (lay : Bool) (x : Str) (n : Nat) : Option Blt :=
  if x = ("len" : Str) then (if n = 1 then some .len else none)
  else if x = ("int" : Str) then (if n = 1 then some .int1 else none)
  else if x = ("tuple" : Str) then (if n = 1 then some .tuple1 else none)
  else if x = ("list" : Str) then (if n = 1 then some (if lay then .list1m else .list1) else none)
  else if x = ("dict" : Str) then (if n = 1 then some (if lay then .dict1m else .dict1) else none)
  else if x = ("max" : Str) then (if n = 2 then some .max2 else none)
  else if x = ("min" : Str) then (if n = 2 then some .min2 else none)
  else if x = ("all" : Str) then (if n = 1 then some .all1 else none)
  else if x = ("any" : Str) then (if n = 1 then some .any1 else none)
  else if x = ("sum" : Str) then (if n = 1 then some .sum1 else none)
  else if x = ("str" : Str) then (if n = 1 then some .str1 else none)
  else if x = ("sorted" : Str) then (if n = 1 then some .sorted1 else none)
  else none
def mthOf (x : Str) (n : Nat) : Option Mth :=
  if x = ("append" : Str) then (if n = 1 then some .append else none)
  else if x = ("extend" : Str) then (if n = 1 then some .extend else none)
  else if x = ("pop" : Str) then (if n = 0 then some .pop0 else if n = 1 then some .pop1 else none)
  else if x = ("get" : Str) then (if n = 1 then some .get1 else if n = 2 then some .get2 else none)
  else if x = ("join" : Str) then (if n = 1 then some .join else none)
  else if x = ("partition" : Str) then (if n = 1 then some .partition else none)
  else if x = ("count" : Str) then (if n = 1 then some .count else none)
  else if x = ("split" : Str) then (if n = 1 then some .split else none)
  else if x = ("clear" : Str) then (if n = 0 then some .clearD else none)
  else if x = ("setdefault" : Str) then (if n = 2 then some .setdef else none)
  else none
def lays (B : Tab) (p : Pos) : Bool := B.lays.contains p
/-- a target: a name, a tuple of names -/
def trTg (N : List Str) (sc : Scope) : Expr → Option Tg
  | .Name x _ => if ownName sc x then (slotOf N x).map .n else none
  | .Tuple es _ _ => (trL (fun e => match e with | .Name x _ => if ownName sc x then slotOf N x else none | _ => none) es).map .t
  | _ => none
def tgIn (l : List Nat) : Tg → Bool
  | .n i => l.contains i
  | .t is => is.all fun i => l.contains i
def isTuple : Expr → Bool
  | .Tuple .. => true
  | _ => false
/-- what a for, a comprehension walks -/
def trIt (B : Tab) (sc : Scope) (rec : Expr → Option X) (tg : Expr) : Expr → Option (IK × List X)
  | .Call (.Name x p) as [] pos =>
    if isB B sc x && decide (x = ("range" : Str)) then (if as.all noStar && decide (as.length = 1) then (trL rec as).map fun xs => (.rng1, xs) else if as.all noStar && decide (as.length = 2) then (trL rec as).map fun xs => (.rng2, xs) else none)
    else if isB B sc x && decide (x = ("enumerate" : Str)) then (if isTuple tg && as.all noStar && decide (as.length = 1) then (trL rec as).map fun xs => (.enum, xs) else none)
    else if isB B sc x && decide (x = ("zip" : Str)) then (if isTuple tg && as.all noStar && decide (as.length = 2) then (trL rec as).map fun xs => (.zip, xs) else none)
    else (rec (.Call (.Name x p) as [] pos)).map fun y => (.seq, [y])
  | e => if noSet e then (rec e).map fun y => (.seq, [y]) else none
/-- the own names of a comprehension that have slots -/
def ownOf (N : List Str) (scope : Scope) : List (Str × Nat) := scope.names.filterMap fun y => match y.2 with
  | .local => (slotOf N y.1).map fun i => (y.1, i)
  | .cell => (slotOf N y.1).map fun i => (y.1, i)
  | _ => none
def trCall (B : Tab) (sc : Scope) (rec : Expr → Option X) (x : Str) (as : List Expr) (pos : Pos) : Option X :=
  if oddName x || !isGlobal sc x || !as.all noStar then none else
  match B.fns.lookup x with
  | some (f, np) => if as.length = np && decide (0 < np) then (trL rec as).map (.fn f) else none
  | none =>
    if !B.bls.contains x then none else
    if x = ("isinstance" : Str) then (match as with
      | [a, .Tuple ts _ _] => match rec a, trL (trType B sc) ts with
        | some a, some cs => if ts.length ≤ 20 then some (.isi a cs) else none
        | _, _ => none
      | [a, t] => match rec a, trType B sc t with
        | some a, some t => some (.isi a [t])
        | _, _ => none
      | _ => none)
    else match bltOf (lays B pos) x as.length with
      | some b => (trL rec as).map (.blt b)
      | none => none
def trMeth (B : Tab) (rec : Expr → Option X) (o : Expr) (m : Str) (apos : Pos) (as : List Expr) (cpos : Pos) : Option X :=
  if plainBase o && as.all noStar && (apos.endLine == cpos.line) && decide (as.length < 20) then
    match mthOf m as.length, rec o, trL rec as with
    | some b, some o, some xs => some (.mth b o xs)
    | _, _, _ => none
  else none
def optX (rec : Expr → Option X) : Option Expr → Option X
  | none => some (.c .non)
  | some e => (rec e).map .num
def keysOf : List (Option Expr) → Option (List Expr)
  | [] => some []
  | some e :: r => (keysOf r).map (e :: ·)
  | none :: _ => none
/-- the pairs of a display -/
def trKV (rec : Expr → Option X) : List (Option Expr) → List Expr → Option (List X)
  | [], [] => some []
  | some k :: ks, v :: vs => match rec k, rec v, trKV rec ks vs with
    | some k, some v, some r => some (k :: v :: r)
    | _, _, _ => none
  | _, _ => none
def trComp (own : List Nat) (l : Bool) : Option (IK × List X) → Option Tg → Option (List X) → Option X → Option X
  | some (k, its), some t, some cs, some x => if tgIn own t then some (.comp l x own t k its cs) else none
  | _, _, _, _ => none
def tr (B : Tab) (N : List Str) : Nat → Scope → Expr → Option X
  | 0, _, _ => none
  | n + 1, sc, e => match e with
    | .Constant c _ _ => trConst c
    | .Name x _ => trName B N sc x
    | .BoolOp op [a] _ => tr B N n sc a
    | .BoolOp op (a :: b :: r) pos => match tr B N n sc a, tr B N n sc (.BoolOp op (b :: r) pos) with
      | some x, some y => some (match op with | .And => .and x y | .Or => .or x y)
      | _, _ => none
    | .UnaryOp .Not a _ => (tr B N n sc a).map .not
    | .UnaryOp .USub a _ => (tr B N n sc a).map .neg
    | .BinOp a op b _ => match tr B N n sc a, tr B N n sc b with
      | some x, some y => some (.bin op x y)
      | _, _ => none
    | .IfExp c a b _ => match tr B N n sc c, tr B N n sc a, tr B N n sc b with
      | some c, some x, some y => some (.ite c x y)
      | _, _, _ => none
    | .Compare a [op] [b] _ => if noSet b then (match tr B N n sc a, tr B N n sc b with
      | some x, some y => some (.cmp op x y)
      | _, _ => none) else none
    | .Compare a [o1, o2] [b, c] _ => if noSet b && noSet c then (match tr B N n sc a, tr B N n sc b, tr B N n sc c with
      | some x, some y, some z => some (.chn o1 o2 x y z)
      | _, _, _ => none) else none
    | .Tuple es _ _ => if es.all noStar then (trL (tr B N n sc) es).map .tup else none
    | .List es pos => if es.all noStar then (trL (tr B N n sc) es).map (.lst (lays B pos)) else none
    | .Dict ks vs pos => if ks.isEmpty && vs.isEmpty then some (.dic (lays B pos) []) else if decide (ks.length ≤ 15) then (trKV (tr B N n sc) ks vs).map (.dic (lays B pos)) else none
    | .Subscript a (.Slice lo hi none _) _ => match tr B N n sc a, optX (tr B N n sc) lo, optX (tr B N n sc) hi with
      | some x, some l, some h => some (.sl x l h)
      | _, _, _ => none
    | .Subscript a b _ => if noSlice b then (match tr B N n sc a, tr B N n sc b with
      | some x, some y => some (.ix x y)
      | _, _ => none) else none
    | .Call (.Name x _) as [] pos => trCall B sc (tr B N n sc) x as pos
    | .Call (.Attribute o m apos) as [] cpos => trMeth B (tr B N n sc) o m apos as cpos
    | .ListComp elt [⟨tg, iter, ifs, 0⟩] scope pos =>
      if blkC N sc scope (ownOf N scope) && decide (ifs.length ≤ 1) && noSet iter then
        trComp ((ownOf N scope).map (·.2)) (lays B pos) (trIt B sc (tr B N n sc) tg iter) (trTg N scope tg) (trL (tr B N n (relS scope sc)) ifs) (tr B N n (relS scope sc) elt)
      else none
    | _ => none
end L2.PF

set_option Elab.async false
set_option linter.all false
set_option maxRecDepth 100000
set_option maxHeartbeats 4000000
/-! PFG: the parts keep their promises. -/
namespace L2.PF
open PySem PySem.Spec PyProof.Rows

/-- how an exception of the class c with the fields fs lies: its class's value, its own dict -/
abbrev XRel := Str → List (Str × PV) → Mp → Hp → Value → Option Addr → Prop
def wx (XR : XRel) (W : St → WP) : WX := fun cls d σ H => ∃ c fs m, XR c fs m H cls d ∧ W σ c fs m H
/-- a def's promise -/
def spOf (K : PySem.W.Frag) (XR : XRel) (f : List PV → Store → R PV) (np : Nat) : Sp := fun vs H Q E => vs.length = np ∧ ∃ m S ps, Rel K S m H ∧ RVs K m H ps vs ∧ ps.length = np ∧
  Post K (RV K) m H (f ps S) Q fun c fs m' H' => ∀ cls d, XR c fs m' H' cls d → E cls d H'
def FnAt (XR : XRel) (B : Tab) (cf : Nat → List PV → Store → R PV) (k : Nat) (X : Cx) : Prop :=
  ∀ (x : Str) (f np : Nat), B.fns.lookup x = some (f, np) → ∃ (a : Addr) (fd : FuncData) (ps : List Str), X.mg x = some (.ref a) ∧ PySem.W.keepIn X.K (.ref a) = true ∧ ps.length = np ∧ Binds X.K fd ps [] ∧
    FnOk X.prog X.w X.K X.mg X.base (L2.CX X.prog X.w) k a fd ps (spOf X.K XR (cf f) np)
structure Cok (XR : XRel) (B : Tab) (cf : Nat → List PV → Store → R PV) (N : List Str) (sc : Scope) (k : Nat) (W : St → WP) (X : Cx) : Prop where
  calm : X.calm = true
  names : X.N = N
  nd : N.Nodup
  scope : X.env.scope = sc
  room : Room k X.A
  fns : FnAt XR B cf k X
  gls : ∀ (x : Str) (v : PV), B.gls.lookup x = some v → ∃ (u : Value) (w : V), X.mg x = some u ∧ RelV w u ∧ ∀ m H, RV X.K m H v w
  bls : ∀ x : Str, B.bls.contains x = true → X.mg x = none
  tk : Takes X (wx XR W)
  own : PassesOwn (model X.prog X.w) X.A X.env X.xe
section
variable {XR : XRel} {B : Tab} {cf : Nat → List PV → Store → R PV} {N : List Str} {sc : Scope} {k : Nat} {W : St → WP} {X : Cx}
theorem Cok.hu (C : Cok XR B cf N sc k W X) : X.A.units + 190 < cLine := by
  have := C.room.un
  omega
theorem not_odd {x : Str} (h : oddName x = false) : (x == ("__debug__" : Str)) = false ∧ (x == ("__classdict__" : Str)) = false ∧ x ≠ "__name__" := by
  unfold oddName at h
  simp only [Bool.or_eq_false_iff] at h
  exact ⟨h.1.1, h.1.2, fun e => by rw [e] at h; exact absurd h.2 (by decide)⟩
theorem slot_get {x : Str} {i : Nat} (h : slotOf N x = some i) : N[i]? = some x := by
  unfold slotOf at h
  have h2 := List.findIdx?_eq_some_iff_getElem.mp h
  obtain ⟨hi, h1, _⟩ := h2
  rw [List.getElem?_eq_getElem hi]
  simpa using h1
theorem Cok.vis (C : Cok XR B cf N sc k W X) {x : Str} (h : visible sc x = true) : Vis X.env.scope x := by
  unfold visible at h
  rw [C.scope]
  unfold Vis
  cases e : sc.names.lookup x with
  | none => rw [e] at h; cases h
  | some y => rw [e] at h; cases y <;> simp_all
theorem Cok.glob (C : Cok XR B cf N sc k W X) {x : Str} (h : isGlobal sc x = true) : Gl X x := by
  unfold isGlobal at h
  show X.env.scope.names.lookup x = some .globalImplicit
  rw [C.scope]
  cases e : sc.names.lookup x with
  | none => rw [e] at h; cases h
  | some y => rw [e] at h; cases y <;> simp_all
/-- what is promised of a test -/
def evT (cf : Nat → List PV → Store → R PV) (x : PF.X) (e : Env) (S : Store) : R Bool := (ev cf x e S).bind fun v S => R.ofO (truth S v) S
def Snd (XR : XRel) (B : Tab) (cf : Nat → List PV → Store → R PV) (N : List Str) (k : Nat) (sc : Scope) (e : Expr) (x : PF.X) : Prop :=
  ∀ (W : St → WP) (X : Cx), Cok XR B cf N sc k W X → PE X e (can X.K W (ev cf x)) ∧ PT X e (canT X.K W (evT cf x)) ∧ ∀ op vs pos, e = .BoolOp op vs pos → PW X e (canT X.K W (evT cf x))
theorem pt_of {e : Expr} {f : Env → Store → R PV} (hp : plainTruth e = true) (h : PE X e (can X.K W f)) : PT X e (canT X.K W fun e S => (f e S).bind fun v S => R.ofO (truth S v) S) :=
  pt_imp (pt_truth h (truth_plain hp)) fun σ H Q ⟨m, e, S, re, rs, q⟩ => ⟨m, e, S, re, rs, q.bind fun a S1 x m1 H1 _ rs1 rx h1 => by
    obtain ⟨c, ec, q⟩ := h1.ofO
    exact ⟨c, truth_ok rs1 rx ec, q c m1 H1 Ext.refl rs1 rfl⟩⟩
theorem snd_plain {e : Expr} {x : PF.X} (hp : plainTruth e = true) (hb : ∀ op vs pos, e ≠ .BoolOp op vs pos) (h : ∀ (W : St → WP) (X : Cx), Cok XR B cf N sc k W X → PE X e (can X.K W (ev cf x))) : Snd XR B cf N k sc e x :=
  fun W X C => ⟨h W X C, pt_of hp (h W X C), fun op vs pos z => absurd z (hb op vs pos)⟩
/-- a value without any change -/
theorem can_c {m : Mp} {H : Hp} {σ : St} {e : Env} {S : Store} {v : PV} {z : V} {Q : VK} (rs : Rel X.K S m H) (h : Post X.K (RV X.K) m H (.ok v S) Q (W σ)) (r : RV X.K m H v z) : Q z H := h z m H Ext.refl rs r

/-! ### names, constants -/
theorem snd_const {c : Const} {j : Nat} {pos : Pos} {x : PF.X} (h : trConst c = some x) : Snd XR B cf N k sc (.Constant c j pos) x := by
  refine snd_plain rfl (fun _ _ _ => nofun) fun W X C => ?_
  cases c with
  | int i => cases h; exact pe_imp pe_int fun σ H Q ⟨m, e, S, re, rs, q⟩ => q.get rs (.int i)
  | bool b => cases h; exact pe_imp pe_bl fun σ H Q ⟨m, e, S, re, rs, q⟩ => q.get rs (.bl b)
  | none => cases h; exact pe_imp pe_non fun σ H Q ⟨m, e, S, re, rs, q⟩ => q.get rs .non
  | str s =>
    have h : (if okB s = true then some (PF.X.c (.str s)) else none) = some x := h
    by_cases hs : okB s = true
    · rw [if_pos hs] at h
      cases h
      exact pe_imp pe_str fun σ H Q ⟨m, e, S, re, rs, q⟩ => q.get rs (.str s (okB_ok hs))
    · rw [if_neg hs] at h; cases h
  | _ => cases h
theorem snd_name {y : Str} {pos : Pos} {x : PF.X} (h : trName B N sc y = some x) : Snd XR B cf N k sc (.Name y pos) x := by
  refine snd_plain rfl (fun _ _ _ => nofun) fun W X C => ?_
  unfold trName at h
  cases ho : oddName y with
  | true => rw [ho] at h; cases h
  | false =>
    obtain ⟨h1, h2, h3⟩ := not_odd ho
    rw [ho] at h
    simp only [Bool.false_eq_true, if_false] at h
    by_cases hv : visible sc y = true
    · rw [if_pos hv] at h
      obtain ⟨i, hi, rfl⟩ := map_some h
      refine pe_imp (pe_var (i := i) (by rw [C.names]; exact slot_get hi) (C.vis hv) h1 h2) fun σ H Q ⟨m, e, S, re, rs, q⟩ => ?_
      have q : Post X.K (RV X.K) m H (match e[i]? with
        | some (some v) => .ok v S
        | _ => .bad) Q (W σ) := q
      cases hg : e[i]? with
      | none => rw [hg] at q; exact q.elim
      | some o =>
        cases o with
        | none => rw [hg] at q; exact q.elim
        | some v =>
          rw [hg] at q
          obtain ⟨u, g1, g2⟩ := re.get hg
          exact ⟨u, g1, q.get rs g2⟩
    · rw [if_neg hv] at h
      by_cases hg : isGlobal sc y = true
      · rw [if_pos hg] at h
        obtain ⟨v, hv, rfl⟩ := map_some h
        obtain ⟨u, w, g1, g2, g3⟩ := C.gls y v hv
        exact pe_imp (pe_glob (C.glob hg) g1 g2 h1) fun σ H Q ⟨m, e, S, re, rs, q⟩ => q.get rs (g3 m H)
      · rw [if_neg hg] at h; cases h

/-! ### operators -/
theorem snd_bin {a b : Expr} {op : Operator} {pos : Pos} {x y : PF.X} (ha : Snd XR B cf N k sc a x) (hb : Snd XR B cf N k sc b y) : Snd XR B cf N k sc (.BinOp a op b pos) (.bin op x y) := by
  refine snd_plain rfl (fun _ _ _ => nofun) fun W X C => ?_
  refine pe_imp (pe_op (ob_all op) (ha W X C).1 (hb W X C).1) fun σ H Q ⟨m, e, S, re, rs, q⟩ => ?_
  have q : Post X.K (RV X.K) m H ((ev cf x e S).bind fun v S => (ev cf y e S).bind fun u S => R.ofO (binV op S v u) S) Q (W σ) := by rw [ev] at q; exact q
  refine ⟨m, e, S, re, rs, q.bind fun v S1 z1 m1 H1 e1 rs1 r1 q1 => ⟨m1, e, S1, re.up e1, rs1, q1.bind fun u S2 z2 m2 H2 e2 rs2 r2 q2 => ?_⟩⟩
  obtain ⟨c, ec, q3⟩ := q2.ofO
  exact ⟨m2, S2, v, u, c, rs2, r1.up e2, r2, ec, q3⟩
theorem snd_neg {a : Expr} {pos : Pos} {x : PF.X} (ha : Snd XR B cf N k sc a x) : Snd XR B cf N k sc (.UnaryOp .USub a pos) (.neg x) := by
  refine snd_plain rfl (fun _ _ _ => nofun) fun W X C => ?_
  refine pe_imp (pe_un un_neg (ha W X C).1) fun σ H Q ⟨m, e, S, re, rs, q⟩ => ?_
  have q : Post X.K (RV X.K) m H ((ev cf x e S).bind fun v S => match v with | .int i => .ok (.int (-i)) S | _ => .bad) Q (W σ) := by rw [ev] at q; exact q
  refine ⟨m, e, S, re, rs, q.bind fun v S1 z1 m1 H1 e1 rs1 r1 q1 => ?_⟩
  cases r1 with
  | int i => exact ⟨i, rfl, q1.get rs1 (.int _)⟩
  | _ => exact q1.elim
theorem bind_assoc {α β γ : Type} (r : R α) (f : α → Store → R β) (g : β → Store → R γ) : (r.bind f).bind g = r.bind fun a S => (f a S).bind g := by cases r <;> rfl
theorem snd_cmp {a b : Expr} {op : CmpOp} {pos : Pos} {x y : PF.X} (hs : noSet b = true) (ha : Snd XR B cf N k sc a x) (hb : Snd XR B cf N k sc b y) : Snd XR B cf N k sc (.Compare a [op] [b] pos) (.cmp op x y) := by
  intro W X C
  refine ⟨pe_imp (pe_cmpR (oc_all C.hu op) (ha W X C).1 (hb W X C).1 (behind_plain hs op)) ?_, ?_, fun _ _ _ z => nomatch z⟩
  · intro σ H Q ⟨m, e, S, re, rs, q⟩
    have q : Post X.K (RV X.K) m H ((ev cf x e S).bind fun v S => (ev cf y e S).bind fun u S => R.ofO ((cmpV op S v u).map .bl) S) Q (W σ) := by rw [ev] at q; exact q
    refine ⟨m, e, S, re, rs, q.bind fun v S1 z1 m1 H1 e1 rs1 r1 q1 => ⟨m1, e, S1, re.up e1, rs1, q1.bind fun u S2 z2 m2 H2 e2 rs2 r2 q2 => ?_⟩⟩
    obtain ⟨c, ec, q3⟩ := q2.ofO
    obtain ⟨d, ed, rfl⟩ := map_some ec
    exact ⟨m2, S2, v, u, d, rs2, r1.up e2, r2, ed, q3.get rs2 (.bl _)⟩
  · refine pt_imp (pt_cmpR (oc_all C.hu op) (ha W X C).1 (hb W X C).1 (behind_plain hs op)) fun σ H Q ⟨m, e, S, re, rs, q⟩ => ?_
    have q : Post X.K Same2 m H ((ev cf x e S).bind fun v S => (ev cf y e S).bind fun u S => (R.ofO ((cmpV op S v u).map .bl) S).bind fun v S => R.ofO (truth S v) S) Q (W σ) := by
      unfold evT at q; rw [ev, bind_assoc] at q; simp only [bind_assoc] at q; exact q
    refine ⟨m, e, S, re, rs, q.bind fun v S1 z1 m1 H1 e1 rs1 r1 q1 => ⟨m1, e, S1, re.up e1, rs1, q1.bind fun u S2 z2 m2 H2 e2 rs2 r2 q2 => ?_⟩⟩
    cases ed : cmpV op S2 v u with
    | none => rw [ed] at q2; exact q2.elim
    | some d =>
      rw [ed] at q2
      exact ⟨m2, S2, v, u, d, rs2, r1.up e2, r2, ed, d, rfl, q2 d m2 H2 Ext.refl rs2 rfl⟩
theorem marks_plain {o1 o2 : CmpOp} {b c : Expr} (hc : noSet c = true) : lastMarks [o1, o2] [b, c] = false := by
  show behindInMarks o2 c = false
  exact behind_plain hc o2
theorem snd_chn {a b c : Expr} {o1 o2 : CmpOp} {pos : Pos} {x y z : PF.X} (hs : noSet c = true) (ha : Snd XR B cf N k sc a x) (hb : Snd XR B cf N k sc b y) (hc : Snd XR B cf N k sc c z) :
    Snd XR B cf N k sc (.Compare a [o1, o2] [b, c] pos) (.chn o1 o2 x y z) := by
  intro W X C
  refine ⟨pe_imp (pe_chain (oc_all C.hu o1) (oc_all C.hu o2) (ha W X C).1 (hb W X C).1 (hc W X C).1 (marks_plain hs)) ?_, ?_, fun _ _ _ z => nomatch z⟩
  · intro σ H Q ⟨m, e, S, re, rs, q⟩
    have q : Post X.K (RV X.K) m H ((ev cf x e S).bind fun v S => (ev cf y e S).bind fun u S => (R.ofO (cmpV o1 S v u) S).bind fun k S => if k = true then (ev cf z e S).bind fun w S => R.ofO ((cmpV o2 S u w).map .bl) S else .ok (.bl false) S) Q (W σ) := by rw [ev] at q; exact q
    refine ⟨m, e, S, re, rs, q.bind fun v S1 z1 m1 H1 e1 rs1 r1 q1 => ⟨m1, e, S1, re.up e1, rs1, q1.bind fun u S2 z2 m2 H2 e2 rs2 r2 q2 => ?_⟩⟩
    obtain ⟨d, ed, q3⟩ := q2.pass
    refine ⟨m2, S2, v, u, d, rs2, r1.up e2, r2, ed, d, rfl, ?_⟩
    cases d with
    | false => exact q3.get rs2 (.bl _)
    | true =>
      refine ⟨m2, e, S2, (re.up e1).up e2, rs2, q3.bind fun w S3 z3 m3 H3 e3 rs3 r3 q4 => ?_⟩
      obtain ⟨c, ec, q5⟩ := q4.ofO
      obtain ⟨d, ed, rfl⟩ := map_some ec
      exact ⟨m3, S3, u, w, d, rs3, r2.up e3, r3, ed, q5.get rs3 (.bl _)⟩
  · refine pt_imp (pt_chain (oc_all C.hu o1) (oc_all C.hu o2) (ha W X C).1 (hb W X C).1 (hc W X C).1 (marks_plain hs)) fun σ H Q ⟨m, e, S, re, rs, q⟩ => ?_
    have q : Post X.K Same2 m H ((ev cf x e S).bind fun v S => (ev cf y e S).bind fun u S => (R.ofO (cmpV o1 S v u) S).bind fun k S => (if k = true then (ev cf z e S).bind fun w S => R.ofO ((cmpV o2 S u w).map .bl) S else .ok (.bl false) S).bind fun v S => R.ofO (truth S v) S) Q (W σ) := by
      unfold evT at q; rw [ev, bind_assoc] at q; simp only [bind_assoc] at q; exact q
    refine ⟨m, e, S, re, rs, q.bind fun v S1 z1 m1 H1 e1 rs1 r1 q1 => ⟨m1, e, S1, re.up e1, rs1, q1.bind fun u S2 z2 m2 H2 e2 rs2 r2 q2 => ?_⟩⟩
    obtain ⟨d, ed, q3⟩ := q2.pass
    refine ⟨m2, S2, v, u, d, rs2, r1.up e2, r2, ed, d, rfl, ?_⟩
    cases d with
    | false => exact ⟨false, rfl, q3 false m2 H2 Ext.refl rs2 rfl⟩
    | true =>
      have q3 : Post X.K Same2 m2 H2 ((ev cf z e S2).bind fun w S => (R.ofO ((cmpV o2 S u w).map .bl) S).bind fun v S => R.ofO (truth S v) S) Q (W σ) := by
        rw [if_pos rfl, bind_assoc] at q3; exact q3
      refine ⟨m2, e, S2, (re.up e1).up e2, rs2, q3.bind fun w S3 z3 m3 H3 e3 rs3 r3 q4 => ?_⟩
      cases ed : cmpV o2 S3 u w with
      | none => rw [ed] at q4; exact q4.elim
      | some d =>
        rw [ed] at q4
        exact ⟨m3, S3, u, w, d, rs3, r2.up e3, r3, ed, d, rfl, q4 d m3 H3 Ext.refl rs3 rfl⟩
/-! ### and, or, not, if .. else -/
theorem snd_not {a : Expr} {pos : Pos} {x : PF.X} (ha : Snd XR B cf N k sc a x) : Snd XR B cf N k sc (.UnaryOp .Not a pos) (.not x) := by
  intro W X C
  refine ⟨pe_imp (pe_notT (ha W X C).1) ?_, pt_imp (pt_not (ha W X C).2.1) ?_, fun _ _ _ z => nomatch z⟩
  · intro σ H Q ⟨m, e, S, re, rs, q⟩
    have q : Post X.K (RV X.K) m H ((ev cf x e S).bind fun v S => (R.ofO (truth S v) S).bind fun k S => .ok (.bl (!k)) S) Q (W σ) := by rw [ev] at q; exact q
    refine ⟨m, e, S, re, rs, q.bind fun v S1 z1 m1 H1 e1 rs1 r1 q1 => ?_⟩
    obtain ⟨d, ed, q2⟩ := q1.pass
    exact ⟨d, truth_ok rs1 r1 ed, q2.get rs1 (.bl _)⟩
  · intro σ H Q ⟨m, e, S, re, rs, q⟩
    have q : Post X.K Same2 m H ((evT cf x e S).bind fun k S => .ok (!k) S) Q (W σ) := by
      unfold evT at q ⊢
      rw [ev, bind_assoc] at q
      rw [bind_assoc]
      simp only [bind_assoc] at q
      exact q
    exact ⟨m, e, S, re, rs, q.bind fun d S1 z1 m1 H1 e1 rs1 r1 q1 => by cases r1; exact q1 (!d) m1 H1 Ext.refl rs1 rfl⟩
theorem evT_and {x y : PF.X} {e : Env} {S : Store} : evT cf (.and x y) e S = (evT cf x e S).bind fun k S => if k = true then evT cf y e S else .ok false S := by
  unfold evT
  rw [ev, bind_assoc, bind_assoc]
  congr 1
  funext v S
  cases h : truth S v with
  | none => rfl
  | some d =>
    cases d with
    | true => rfl
    | false => simp [h]
theorem evT_or {x y : PF.X} {e : Env} {S : Store} : evT cf (.or x y) e S = (evT cf x e S).bind fun k S => if k = true then .ok true S else evT cf y e S := by
  unfold evT
  rw [ev, bind_assoc, bind_assoc]
  congr 1
  funext v S
  cases h : truth S v with
  | none => rfl
  | some d =>
    cases d with
    | false => rfl
    | true => simp [h]
theorem evT_ite {c x y : PF.X} {e : Env} {S : Store} : evT cf (.ite c x y) e S = (evT cf c e S).bind fun k S => if k = true then evT cf x e S else evT cf y e S := by
  unfold evT
  rw [ev, bind_assoc, bind_assoc]
  congr 1
  funext v S
  cases h : truth S v with
  | none => rfl
  | some d => cases d <;> rfl
theorem canT_and {K : PySem.W.Frag} {x y : PF.X} {σ : St} {H : Hp} {Q : Bool → Hp → Prop} (h : canT K W (evT cf (.and x y)) σ H Q) : tAnd (canT K W (evT cf x)) (canT K W (evT cf y)) σ H Q := by
  obtain ⟨m, e, S, re, rs, q⟩ := h
  rw [evT_and] at q
  refine ⟨m, e, S, re, rs, q.bind fun d S1 z1 m1 H1 e1 rs1 r1 q1 => ?_⟩
  cases r1
  cases d with
  | true => exact ⟨m1, e, S1, re.up e1, rs1, q1⟩
  | false => exact q1 false m1 H1 Ext.refl rs1 rfl
theorem canT_or {K : PySem.W.Frag} {x y : PF.X} {σ : St} {H : Hp} {Q : Bool → Hp → Prop} (h : canT K W (evT cf (.or x y)) σ H Q) : tOr (canT K W (evT cf x)) (canT K W (evT cf y)) σ H Q := by
  obtain ⟨m, e, S, re, rs, q⟩ := h
  rw [evT_or] at q
  refine ⟨m, e, S, re, rs, q.bind fun d S1 z1 m1 H1 e1 rs1 r1 q1 => ?_⟩
  cases r1
  cases d with
  | false => exact ⟨m1, e, S1, re.up e1, rs1, q1⟩
  | true => exact q1 true m1 H1 Ext.refl rs1 rfl
theorem snd_one {a : Expr} {op : BoolOp} {pos : Pos} {x : PF.X} (ha : Snd XR B cf N k sc a x) : Snd XR B cf N k sc (.BoolOp op [a] pos) x := by
  intro W X C
  have hw : PW X (.BoolOp op [a] pos) (canT X.K W (evT cf x)) := by
    cases op with
    | And => exact pw_and1 (ha W X C).2.1
    | Or => exact pw_or1 (ha W X C).2.1
  exact ⟨pe_one (ha W X C).1, hw.pt, fun _ _ _ _ => hw⟩
theorem snd_and {a b : Expr} {r : List Expr} {pos : Pos} {x y : PF.X} (ha : Snd XR B cf N k sc a x) (hb : Snd XR B cf N k sc (.BoolOp .And (b :: r) pos) y) : Snd XR B cf N k sc (.BoolOp .And (a :: b :: r) pos) (.and x y) := by
  intro W X C
  have hw : PW X (.BoolOp .And (a :: b :: r) pos) (canT X.K W (evT cf (.and x y))) := pw_imp (pw_and (ha W X C).2.1 ((hb W X C).2.2 _ _ _ rfl)) fun σ H Q h => canT_and h
  refine ⟨pe_imp (pe_andT (ha W X C).1 (hb W X C).1) ?_, hw.pt, fun _ _ _ _ => hw⟩
  intro σ H Q ⟨m, e, S, re, rs, q⟩
  have q : Post X.K (RV X.K) m H ((ev cf x e S).bind fun v S => (R.ofO (truth S v) S).bind fun k S => if k = true then ev cf y e S else .ok v S) Q (W σ) := by rw [ev] at q; exact q
  refine ⟨m, e, S, re, rs, q.bind fun v S1 z1 m1 H1 e1 rs1 r1 q1 => ?_⟩
  obtain ⟨d, ed, q2⟩ := q1.pass
  refine ⟨d, truth_ok rs1 r1 ed, ?_⟩
  cases d with
  | true => exact ⟨m1, e, S1, re.up e1, rs1, q2⟩
  | false => exact q2.get rs1 r1
theorem snd_or {a b : Expr} {r : List Expr} {pos : Pos} {x y : PF.X} (ha : Snd XR B cf N k sc a x) (hb : Snd XR B cf N k sc (.BoolOp .Or (b :: r) pos) y) : Snd XR B cf N k sc (.BoolOp .Or (a :: b :: r) pos) (.or x y) := by
  intro W X C
  have hw : PW X (.BoolOp .Or (a :: b :: r) pos) (canT X.K W (evT cf (.or x y))) := pw_imp (pw_or (ha W X C).2.1 ((hb W X C).2.2 _ _ _ rfl)) fun σ H Q h => canT_or h
  refine ⟨pe_imp (pe_orT (ha W X C).1 (hb W X C).1) ?_, hw.pt, fun _ _ _ _ => hw⟩
  intro σ H Q ⟨m, e, S, re, rs, q⟩
  have q : Post X.K (RV X.K) m H ((ev cf x e S).bind fun v S => (R.ofO (truth S v) S).bind fun k S => if k = true then .ok v S else ev cf y e S) Q (W σ) := by rw [ev] at q; exact q
  refine ⟨m, e, S, re, rs, q.bind fun v S1 z1 m1 H1 e1 rs1 r1 q1 => ?_⟩
  obtain ⟨d, ed, q2⟩ := q1.pass
  refine ⟨d, truth_ok rs1 r1 ed, ?_⟩
  cases d with
  | false => exact ⟨m1, e, S1, re.up e1, rs1, q2⟩
  | true => exact q2.get rs1 r1
theorem pt_ifX {c a b : Expr} {pos : Pos} {tc ta tb : TT} (hc : PT X c tc) (ha : PT X a ta) (hb : PT X b tb) : PT X (.IfExp c a b pos) (fun σ H Q => tc σ H fun d H1 => if d = true then ta σ H1 Q else tb σ H1 Q) := by
  refine ⟨fun pins s σ H Q I h => ?_⟩
  show wpAny _ _ (do if ← isTrue c X.env (eval c X.env) then isTrue a X.env (eval a X.env) else isTrue b X.env (eval b X.env)) _ _ s
  refine wpAny_bind (thn (hc.run pins s σ H _ I h) fun d s1 ⟨H1, I1, q1⟩ => ?_)
  cases d with
  | true => exact ha.run pins s1 σ H1 Q I1 q1
  | false => exact hb.run pins s1 σ H1 Q I1 q1
theorem snd_ite {c a b : Expr} {pos : Pos} {z x y : PF.X} (hc : Snd XR B cf N k sc c z) (ha : Snd XR B cf N k sc a x) (hb : Snd XR B cf N k sc b y) : Snd XR B cf N k sc (.IfExp c a b pos) (.ite z x y) := by
  intro W X C
  refine ⟨pe_imp (pe_ifExp (hc W X C).2.1 (ha W X C).1 (hb W X C).1) ?_, pt_imp (pt_ifX (hc W X C).2.1 (ha W X C).2.1 (hb W X C).2.1) ?_, fun _ _ _ z => nomatch z⟩
  · intro σ H Q ⟨m, e, S, re, rs, q⟩
    have q : Post X.K (RV X.K) m H ((evT cf z e S).bind fun k S => if k = true then ev cf x e S else ev cf y e S) Q (W σ) := by
      unfold evT; rw [bind_assoc]; rw [ev] at q; exact q
    refine ⟨m, e, S, re, rs, q.bind fun d S1 z1 m1 H1 e1 rs1 r1 q1 => ?_⟩
    cases r1
    cases d with
    | true => exact ⟨m1, e, S1, re.up e1, rs1, q1⟩
    | false => exact ⟨m1, e, S1, re.up e1, rs1, q1⟩
  · intro σ H Q ⟨m, e, S, re, rs, q⟩
    rw [evT_ite] at q
    refine ⟨m, e, S, re, rs, q.bind fun d S1 z1 m1 H1 e1 rs1 r1 q1 => ?_⟩
    cases r1
    cases d with
    | true => exact ⟨m1, e, S1, re.up e1, rs1, q1⟩
    | false => exact ⟨m1, e, S1, re.up e1, rs1, q1⟩
/-! ### displays, subscripts, slices -/
inductive SndL (XR : XRel) (B : Tab) (cf : Nat → List PV → Store → R PV) (N : List Str) (k : Nat) (sc : Scope) : List Expr → List PF.X → Prop
  | nil : SndL XR B cf N k sc [] []
  | cons {e : Expr} {x : PF.X} {es : List Expr} {xs : List PF.X} (h : Snd XR B cf N k sc e x) (t : SndL XR B cf N k sc es xs) : SndL XR B cf N k sc (e :: es) (x :: xs)
theorem snd_list {f : Expr → Option PF.X} (hf : ∀ e x, f e = some x → Snd XR B cf N k sc e x) : ∀ {es : List Expr} {xs : List PF.X}, trL f es = some xs → SndL XR B cf N k sc es xs
  | [], xs, h => by cases h; exact .nil
  | e :: es, xs, h => by
    rw [trL] at h
    cases h1 : f e with
    | none => rw [h1] at h; cases h
    | some y =>
      rw [h1] at h
      cases h2 : trL f es with
      | none => rw [h2] at h; cases h
      | some ys => rw [h2] at h; cases h; exact .cons (hf e y h1) (snd_list hf h2)
theorem pa_of (C : Cok XR B cf N sc k W X) : ∀ {es : List Expr} {xs : List PF.X}, SndL XR B cf N k sc es xs → es.all noStar = true → PA X es (canA X.K W (evs cf xs))
  | _, _, .nil, _ => pa_imp pa_nil fun σ H Q ⟨m, e, S, re, rs, q⟩ => q [] m H Ext.refl rs .nil
  | e :: es, _, .cons (x := x) (xs := xs) h t, hs => by
    rw [List.all_cons, Bool.and_eq_true] at hs
    refine pa_imp (pa_cons (h W X C).1 (pa_of C t hs.2) (star_cons hs.1)) fun σ H Q ⟨m, e, S, re, rs, q⟩ => ?_
    have q : Post X.K (RVs X.K) m H ((ev cf x e S).bind fun v S => (evs cf xs e S).bind fun vs S => .ok (v :: vs) S) Q (W σ) := by rw [evs] at q; exact q
    refine ⟨m, e, S, re, rs, q.bind fun v S1 z1 m1 H1 e1 rs1 r1 q1 => ⟨m1, e, S1, re.up e1, rs1, q1.bind fun vs S2 z2 m2 H2 e2 rs2 r2 q2 => q2 _ m2 H2 Ext.refl rs2 (.cons (r1.up e2) r2)⟩⟩
theorem snd_tup {es : List Expr} {j : Nat} {pos : Pos} {xs : List PF.X} (hs : es.all noStar = true) (h : SndL XR B cf N k sc es xs) : Snd XR B cf N k sc (.Tuple es j pos) (.tup xs) := by
  refine snd_plain rfl (fun _ _ _ => nofun) fun W X C => ?_
  refine pe_imp (pe_tup (pa_of C h hs)) fun σ H Q ⟨m, e, S, re, rs, q⟩ => ?_
  have q : Post X.K (RV X.K) m H ((evs cf xs e S).bind fun vs S => if vs.length ≤ sizeLine then .ok (.tup vs) S else .bad) Q (W σ) := by rw [ev] at q; exact q
  refine ⟨m, e, S, re, rs, q.bind fun vs S1 z1 m1 H1 e1 rs1 r1 q1 => ?_⟩
  by_cases hl : vs.length ≤ sizeLine
  · rw [if_pos hl] at q1
    exact ⟨by rw [← r1.length]; exact hl, fun p hp => new_tup rs1 hl r1 hp q1⟩
  · rw [if_neg hl] at q1; exact q1.elim
theorem snd_lst {es : List Expr} {pos : Pos} {xs : List PF.X} {l : Bool} (hs : es.all noStar = true) (h : SndL XR B cf N k sc es xs) : Snd XR B cf N k sc (.List es pos) (.lst l xs) := by
  refine snd_plain rfl (fun _ _ _ => nofun) fun W X C => ?_
  refine pe_imp (pe_lst (pa_of C h hs)) fun σ H Q ⟨m, e, S, re, rs, q⟩ => ?_
  have q : Post X.K (RV X.K) m H ((evs cf xs e S).bind fun vs S => if vs.length ≤ sizeLine then mkList l vs S else .bad) Q (W σ) := by rw [ev] at q; exact q
  refine ⟨m, e, S, re, rs, q.bind fun vs S1 z1 m1 H1 e1 rs1 r1 q1 => ?_⟩
  by_cases hl : vs.length ≤ sizeLine
  · rw [if_pos hl] at q1
    refine ⟨by rw [← r1.length]; exact hl, fun p hp => ?_⟩
    cases l with
    | true => exact new_obj rs1 hl r1 hp q1
    | false => exact new_lst rs1 hl r1 hp q1
  · rw [if_neg hl] at q1; exact q1.elim
theorem snd_dic0 {pos : Pos} {l : Bool} : Snd XR B cf N k sc (.Dict [] [] pos) (.dic l []) := by
  refine snd_plain rfl (fun _ _ _ => nofun) fun W X C => ?_
  refine pe_imp pe_dnewK fun σ H Q ⟨m, e, S, re, rs, q⟩ => ?_
  have q : Post X.K (RV X.K) m H (mkDict l [] S) Q (W σ) := q
  cases l with
  | true => exact fun p hp => new_dic rs .nil hp q
  | false => exact fun p hp => new_dv rs .nil hp q
theorem snd_ix {a b : Expr} {pos : Pos} {x y : PF.X} (hs : noSlice b = true) (ha : Snd XR B cf N k sc a x) (hb : Snd XR B cf N k sc b y) : Snd XR B cf N k sc (.Subscript a b pos) (.ix x y) := by
  refine snd_plain rfl (fun _ _ _ => nofun) fun W X C => ?_
  refine pe_imp (pe_ix (oi_all C.hu) (ha W X C).1 (hb W X C).1 (slice_plain hs)) fun σ H Q ⟨m, e, S, re, rs, q⟩ => ?_
  have q : Post X.K (RV X.K) m H ((ev cf x e S).bind fun v S => (ev cf y e S).bind fun u S => R.ofO (ixV S v u) S) Q (W σ) := by rw [ev] at q; exact q
  refine ⟨m, e, S, re, rs, q.bind fun v S1 z1 m1 H1 e1 rs1 r1 q1 => ⟨m1, e, S1, re.up e1, rs1, q1.bind fun u S2 z2 m2 H2 e2 rs2 r2 q2 => ?_⟩⟩
  obtain ⟨c, ec, q3⟩ := q2.ofO
  exact ⟨m2, S2, v, u, c, rs2, r1.up e2, r2, ec, q3⟩
/-- a slice's bound -/
inductive SndO (XR : XRel) (B : Tab) (cf : Nat → List PV → Store → R PV) (N : List Str) (k : Nat) (sc : Scope) : Option Expr → PF.X → Prop
  | none : SndO XR B cf N k sc none (.c .non)
  | some {e : Expr} {x : PF.X} (h : Snd XR B cf N k sc e x) : SndO XR B cf N k sc (some e) (.num x)
/-- the reading of a slice's bound -/
def canO (K : PySem.W.Frag) (W : St → WP) (f : Env → Store → R (Option Int)) : TO := fun σ H Q => ∃ m e S, RE K m H e σ ∧ Rel K S m H ∧ Post K Same2 m H (f e S) Q (W σ)
theorem po_of (C : Cok XR B cf N sc k W X) {o : Option Expr} {x : PF.X} (h : SndO XR B cf N k sc o x) :
    ∃ t, L2.PO X o t ∧ ∀ (σ : St) (H : Hp) (Q : Option Int → Hp → Prop), canO X.K W (fun e S => (ev cf x e S).bind fun l S => R.ofO (bound l) S) σ H Q → t σ H Q := by
  cases h with
  | none => exact ⟨_, po_none, fun σ H Q ⟨m, e, S, re, rs, q⟩ => q none m H Ext.refl rs rfl⟩
  | @some a y h =>
    refine ⟨_, po_some (h W X C).1, fun σ H Q ⟨m, e, S, re, rs, q⟩ => ?_⟩
    have q : Post X.K Same2 m H ((ev cf y e S).bind fun v S => (match v with | .int i => R.ok (.int i) S | _ => .bad : R PV).bind fun l S => R.ofO (bound l) S) Q (W σ) := by
      simp only [ev, bind_assoc] at q; exact q
    refine ⟨m, e, S, re, rs, q.bind fun v S1 z1 m1 H1 e1 rs1 r1 q1 => ?_⟩
    cases r1 with
    | int i => exact ⟨i, rfl, q1 (some i) m1 H1 Ext.refl rs1 rfl⟩
    | _ => exact q1.elim
theorem snd_sl {a : Expr} {lo hi : Option Expr} {pos p2 : Pos} {x l h : PF.X} (ha : Snd XR B cf N k sc a x) (hl : SndO XR B cf N k sc lo l) (hh : SndO XR B cf N k sc hi h) : Snd XR B cf N k sc (.Subscript a (.Slice lo hi none p2) pos) (.sl x l h) := by
  refine snd_plain rfl (fun _ _ _ => nofun) fun W X C => ?_
  obtain ⟨tl, pl, kl⟩ := po_of C hl
  obtain ⟨th, ph, kh⟩ := po_of C hh
  refine pe_imp (pe_slice os_all (ha W X C).1 pl ph) fun σ H Q ⟨m, e, S, re, rs, q⟩ => ?_
  have q : Post X.K (RV X.K) m H ((ev cf x e S).bind fun v S => ((ev cf l e S).bind fun l S => R.ofO (bound l) S).bind fun l S => ((ev cf h e S).bind fun h S => R.ofO (bound h) S).bind fun h S => R.ofO (slV S v l h) S) Q (W σ) := by
    simp only [ev, bind_assoc] at q ⊢; exact q
  refine ⟨m, e, S, re, rs, q.bind fun v S1 z1 m1 H1 e1 rs1 r1 q1 => kl _ _ _ ⟨m1, e, S1, re.up e1, rs1, q1.bind fun l S2 z2 m2 H2 e2 rs2 r2 q2 => kh _ _ _ ⟨m2, e, S2, (re.up e1).up e2, rs2, q2.bind fun h S3 z3 m3 H3 e3 rs3 r3 q3 => ?_⟩⟩⟩
  obtain ⟨c, ec, q4⟩ := q3.ofO
  cases r2
  cases r3
  exact ⟨m3, S3, v, c, rs3, (r1.up e2).up e3, ec, q4⟩
/-! ### calls -/
theorem lookup_map {α : Type} {l : List (Str × α)} {x : Str} {y : α} (h : l.lookup x = some y) : (x, y) ∈ l := PySem.mem_of_lookup h
theorem run_sp (C : Cok XR B cf N sc k W X) {f np : Nat} {σ : St} {H : Hp} {Q : VK} {m : Mp} {S : Store} {vs : List PV} {us : List V} (hl : vs.length = np) (rs : Rel X.K S m H) (r : RVs X.K m H vs us) (q : Post X.K (RV X.K) m H (cf f vs S) Q (W σ)) :
    spOf X.K XR (cf f) np (us ++ []) H Q (WE (wx XR W) σ) := by
  rw [List.append_nil]
  refine ⟨by rw [← r.length]; exact hl, m, S, vs, rs, r, hl, ?_⟩
  cases h : cf f vs S with
  | ok v S' => rw [h] at q; exact q
  | exc c fs S' =>
    rw [h] at q
    exact fun m' H' e rs' cls d xr => ⟨c, fs, m', xr, q m' H' e rs'⟩
  | bad => rw [h] at q; exact q
theorem snd_fn {y : Str} {p pos : Pos} {a : Expr} {as : List Expr} {xs : List PF.X} {f np : Nat} (ho : oddName y = false) (hg : isGlobal sc y = true) (hs : (a :: as).all noStar = true) (hf : B.fns.lookup y = some (f, np)) (hl : (a :: as).length = np)
    (h : SndL XR B cf N k sc (a :: as) xs) : Snd XR B cf N k sc (.Call (.Name y p) (a :: as) [] pos) (.fn f xs) := by
  refine snd_plain rfl (fun _ _ _ => nofun) fun W X C => ?_
  obtain ⟨ad, fd, ps, g1, g2, g3, g4, g5⟩ := C.fns y f np hf
  have hs' := hs
  rw [List.all_cons, Bool.and_eq_true] at hs'
  refine pe_imp (pe_callSD g5 C.room (C.glob hg) g1 g2 g4 .nil (fun σ => passAt C.tk σ) (pa_of C h hs) (not_odd ho).1 (star_cons hs'.1) (star_any hs'.2)) fun σ H Q ⟨m, e, S, re, rs, q⟩ => ?_
  have q : Post X.K (RV X.K) m H ((evs cf xs e S).bind fun vs S => cf f vs S) Q (W σ) := by rw [ev] at q; exact q
  have hx : xs.length = (a :: as).length := by
    have : ∀ {es : List Expr} {xs : List PF.X}, SndL XR B cf N k sc es xs → xs.length = es.length := by
      intro es xs h
      induction h with
      | nil => rfl
      | cons _ _ ih => rw [List.length_cons, List.length_cons, ih]
    exact this h
  refine ⟨m, e, S, re, rs, ?_⟩
  cases hv : evs cf xs e S with
  | ok vs S1 =>
    rw [hv] at q
    intro us m1 H1 e1 rs1 r1
    have hlen : vs.length = np := by
      have : ∀ (xs : List PF.X) (e : Env) (S : Store) (vs : List PV) (S1 : Store), evs cf xs e S = .ok vs S1 → vs.length = xs.length := by
        intro xs
        induction xs with
        | nil => intro e S vs S1 h; rw [evs] at h; cases h; rfl
        | cons x xs ih =>
          intro e S vs S1 h
          rw [evs] at h
          cases h1 : ev cf x e S with
          | ok v S2 =>
            rw [h1] at h
            simp only [R.bind_ok] at h
            cases h2 : evs cf xs e S2 with
            | ok ws S3 => rw [h2] at h; simp only [R.bind_ok] at h; cases h; rw [List.length_cons, List.length_cons, ih _ _ _ _ h2]
            | exc c fs S3 => rw [h2] at h; cases h
            | bad => rw [h2] at h; cases h
          | exc c fs S2 => rw [h1] at h; cases h
          | bad => rw [h1] at h; cases h
      rw [this _ _ _ _ _ hv, hx, hl]
    exact run_sp C hlen rs1 r1 (Post.up e1 q)
  | exc c fs S1 => rw [hv] at q; exact q
  | bad => rw [hv] at q; exact q.elim
end
end L2.PF

set_option Elab.async false
set_option linter.all false
set_option maxRecDepth 100000
set_option maxHeartbeats 4000000
/-! PFH: built-in functions, isinstance, methods, in the text. -/
namespace L2.PF
open PySem PySem.Spec PyProof.Rows
section
variable {XR : XRel} {B : Tab} {cf : Nat → List PV → Store → R PV} {N : List Str} {sc : Scope} {k : Nat} {W : St → WP} {X : Cx}
theorem Post.noexc {α β : Type} {K : PySem.W.Frag} {rel : Mp → Hp → α → β → Prop} {m : Mp} {H : Hp} {r : R α} {Q : β → Hp → Prop} {W W' : WP} (hn : ∀ c fs S, r ≠ .exc c fs S) (h : Post K rel m H r Q W) : Post K rel m H r Q W' := by
  cases r with
  | ok a S => exact h
  | exc c fs S => exact absurd rfl (hn c fs S)
  | bad => exact h
theorem ofO_noexc {α : Type} {o : Option α} {S : Store} (c fs S') : (R.ofO o S : R α) ≠ .exc c fs S' := by cases o <;> exact fun h => nomatch h
theorem bltR_noexc {b : Blt} {S : Store} {vs : List PV} (c fs S') : bltR b S vs ≠ .exc c fs S' := by
  unfold bltR mkDict
  repeat' split
  all_goals first
    | exact ofO_noexc c fs S'
    | (intro h; cases h; done)
    | trace_state
theorem mthV_noexc {b : Mth} {S : Store} {o : PV} {vs : List PV} (c fs S') : mthV b S o vs ≠ .exc c fs S' := by
  unfold mthV
  repeat' split
  all_goals exact fun h => nomatch h
theorem trL_length {α β : Type} {f : α → Option β} : ∀ {es : List α} {xs : List β}, trL f es = some xs → xs.length = es.length
  | [], xs, h => by cases h; rfl
  | e :: es, xs, h => by
    rw [trL] at h
    cases h1 : f e with
    | none => rw [h1] at h; cases h
    | some y =>
      rw [h1] at h
      cases h2 : trL f es with
      | none => rw [h2] at h; cases h
      | some ys => rw [h2] at h; cases h; rw [List.length_cons, List.length_cons, trL_length h2]
theorem isB_ok (C : Cok XR B cf N sc k W X) {x : Str} (h1 : isGlobal sc x = true) (h2 : B.bls.contains x = true) (h3 : oddName x = false) : Gl X x ∧ X.mg x = none ∧ x ≠ "__name__" ∧ (x == ("__debug__" : Str)) = false :=
  ⟨C.glob h1, C.bls x h2, (not_odd h3).2.2, (not_odd h3).1⟩
theorem blt_core {K : PySem.W.Frag} {b : Blt} {xs : List PF.X} {σ : St} {H : Hp} {Q : VK} (h : can K W (ev cf (.blt b xs)) σ H Q) : tCB (rBlt K (bltR b)) (canA K W (evs cf xs)) σ H Q := by
  obtain ⟨m, e, S, re, rs, q⟩ := h
  have q : Post K (RV K) m H ((evs cf xs e S).bind fun vs S => bltR b S vs) Q (W σ) := by rw [ev] at q; exact q
  exact ⟨m, e, S, re, rs, q.bind fun vs S1 z1 m1 H1 e1 rs1 r1 q1 => ⟨m1, S1, vs, rs1, r1, Post.noexc (fun _ _ _ => bltR_noexc _ _ _) q1⟩⟩
theorem snd_blt {y : Str} {p pos : Pos} {a : Expr} {as : List Expr} {xs : List PF.X} {b : Blt} {l : Bool} (ho : oddName y = false) (hg : isGlobal sc y = true) (hs : (a :: as).all noStar = true) (hf : B.bls.contains y = true)
    (hb : bltOf l y (a :: as).length = some b) (h : SndL XR B cf N k sc (a :: as) xs) : Snd XR B cf N k sc (.Call (.Name y p) (a :: as) [] pos) (.blt b xs) := by
  refine snd_plain rfl (fun _ _ _ => nofun) fun W X C => ?_
  obtain ⟨g1, g2, g3, g4⟩ := isB_ok C hg hf ho
  have hs' := hs
  rw [List.all_cons, Bool.and_eq_true] at hs'
  have viaB : ∀ {id : String}, CallR X (.builtin id) (rBlt X.K (bltR b)) → bootBuiltins y = some (.builtin id) → PE X (.Call (.Name y p) (a :: as) [] pos) (can X.K W (ev cf (.blt b xs))) :=
    fun {id} hc hv => pe_imp (pe_callB hc g1 g2 hv (pa_of C h hs) g3 g4 (star_cons hs'.1) (star_any hs'.2)) fun σ H Q q => blt_core q
  have viaT : ∀ {id : String}, CallR X (.type id) (rBlt X.K (bltR b)) → bootBuiltins y = some (.type id) → PE X (.Call (.Name y p) (a :: as) [] pos) (can X.K W (ev cf (.blt b xs))) :=
    fun {id} hc hv => pe_imp (pe_callTy hc g1 g2 hv (pa_of C h hs) g3 g4 (star_cons hs'.1) (star_any hs'.2)) fun σ H Q q => blt_core q
  unfold bltOf at hb
  by_cases e : y = ("len" : Str)
  · rw [if_pos e] at hb
    obtain ⟨_, hb⟩ := ite_some hb
    subst e
    cases hb
    exact viaB cb_len PySem.boot_len
  rw [if_neg e] at hb
  clear e
  by_cases e : y = ("int" : Str)
  · rw [if_pos e] at hb
    obtain ⟨_, hb⟩ := ite_some hb
    subst e
    cases hb
    exact viaT cb_int1 (by decide +kernel)
  rw [if_neg e] at hb
  clear e
  by_cases e : y = ("tuple" : Str)
  · rw [if_pos e] at hb
    obtain ⟨_, hb⟩ := ite_some hb
    subst e
    cases hb
    exact viaT cb_tuple1 (by decide +kernel)
  rw [if_neg e] at hb
  clear e
  by_cases e : y = ("list" : Str)
  · rw [if_pos e] at hb
    obtain ⟨_, hb⟩ := ite_some hb
    subst e
    cases l with
    | true => cases hb; exact viaT cb_list1m (by decide +kernel)
    | false => cases hb; exact viaT cb_list1 (by decide +kernel)
  rw [if_neg e] at hb
  clear e
  by_cases e : y = ("dict" : Str)
  · rw [if_pos e] at hb
    obtain ⟨_, hb⟩ := ite_some hb
    subst e
    cases l with
    | true => cases hb; exact viaT cb_dict1m (by decide +kernel)
    | false => cases hb; exact viaT cb_dict1 (by decide +kernel)
  rw [if_neg e] at hb
  clear e
  by_cases e : y = ("max" : Str)
  · rw [if_pos e] at hb
    obtain ⟨_, hb⟩ := ite_some hb
    subst e
    cases hb
    exact viaB (cb_max2 C.calm) (by decide +kernel)
  rw [if_neg e] at hb
  clear e
  by_cases e : y = ("min" : Str)
  · rw [if_pos e] at hb
    obtain ⟨_, hb⟩ := ite_some hb
    subst e
    cases hb
    exact viaB (cb_min2 C.calm) (by decide +kernel)
  rw [if_neg e] at hb
  clear e
  by_cases e : y = ("all" : Str)
  · rw [if_pos e] at hb
    obtain ⟨_, hb⟩ := ite_some hb
    subst e
    cases hb
    exact viaB (cb_all1 C.calm) (by decide +kernel)
  rw [if_neg e] at hb
  clear e
  by_cases e : y = ("any" : Str)
  · rw [if_pos e] at hb
    obtain ⟨_, hb⟩ := ite_some hb
    subst e
    cases hb
    exact viaB (cb_any1 C.calm) (by decide +kernel)
  rw [if_neg e] at hb
  clear e
  by_cases e : y = ("sum" : Str)
  · rw [if_pos e] at hb
    obtain ⟨_, hb⟩ := ite_some hb
    subst e
    cases hb
    exact viaB (cb_sum1 C.calm) (by decide +kernel)
  rw [if_neg e] at hb
  clear e
  by_cases e : y = ("str" : Str)
  · rw [if_pos e] at hb
    obtain ⟨_, hb⟩ := ite_some hb
    subst e
    cases hb
    exact viaT cb_str1 (by decide +kernel)
  rw [if_neg e] at hb
  clear e
  by_cases e : y = ("sorted" : Str)
  · rw [if_pos e] at hb
    obtain ⟨_, hb⟩ := ite_some hb
    subst e
    cases hb
    exact viaB (cb_sorted1 C.calm) (by decide +kernel)
  rw [if_neg e] at hb
  clear e
  cases hb
/-! ### isinstance -/
theorem tyx_of {K : PySem.W.Frag} {m : Mp} {H : Hp} {S : Store} {v : PV} {x : V} {t : String} (rs : Rel K S m H) (r : RV K m H v x) (e : tyName S v = some t) : TyX K H x (.type t) := by
  cases r with
  | non => cases e; exact .base .non
  | bl b => cases e; exact .base (.bl b)
  | int i => cases e; exact .base (.int i)
  | str z _ => cases e; exact .base (.str z)
  | tup hl h r =>
    cases e
    rcases h with ⟨_, h⟩ | ⟨o, its, n, h1, h2, _⟩
    · exact .base (.tup h)
    · exact .kTuple h1 h2
  | lv hl n h r => cases e; exact .base (.lst h)
  | fz hl h r => cases e
  | @loc n p h =>
    rw [tyName] at e
    cases g : S[n]? with
    | none => rw [g] at e; cases e
    | some o =>
      rw [g] at e
      have ro := rs.at g h
      cases o with
      | lst xs => obtain ⟨_, vs, g1, _⟩ := ro; cases e; exact .base (.lst g1)
      | dic kvs => obtain ⟨vs, g1, _⟩ := ro; cases e; exact .base (.dK g1)
      | ins c fs => cases e
  | dv hl n h r => cases e; exact .base (.dK h)
  | iv hl n h hC r => cases e
def tyNames : List String := ["NoneType", "bool", "int", "str", "tuple", "list", "dict"]
def clNames : List String := ["int", "bool", "str", "tuple", "list", "dict"]
theorem kit_table : (tyNames.all fun t => clNames.all fun c => kitB t c == some (isT t c)) = true := by decide +kernel
theorem kit_get {K : PySem.W.Frag} {t c : String} (ht : t ∈ tyNames) (hc : c ∈ clNames) : PySem.W.kitOne K (.type t) (.type c) = some (isT t c) := by
  have h := kit_table
  rw [List.all_eq_true] at h
  have h2 := h t ht
  rw [List.all_eq_true] at h2
  exact kit_ty (by simpa using h2 c hc)
theorem tyName_in {S : Store} {v : PV} {t : String} (e : tyName S v = some t) : t ∈ tyNames := by
  cases v with
  | loc n =>
    rw [tyName] at e
    split at e <;> first | (cases e; decide) | cases e
  | fz xs => cases e
  | iv c ns xs => cases e
  | _ => cases e; decide
theorem kit_any {K : PySem.W.Frag} {t : String} (ht : t ∈ tyNames) : ∀ {ts : List String}, (∀ c ∈ ts, c ∈ clNames) → PySem.W.kitAny K (.type t) (ts.map Value.type) = some (ts.any (isT t))
  | [], _ => rfl
  | c :: ts, h => by
    have ih := kit_any (K := K) ht (ts := ts) fun c hc => h c (List.mem_cons_of_mem _ hc)
    refine kitAny_cons (kit_get ht (h c (by simp))) (fun e => ?_) (fun e => ?_)
    · rw [List.any_cons, e, Bool.false_or]; exact ih
    · rw [List.any_cons, e, Bool.true_or]
theorem trType_ok (C : Cok XR B cf N sc k W X) {e : Expr} {t : String} (h : trType B sc e = some t) : noStar e = true ∧ isTuple e = false ∧ t ∈ clNames ∧ PE X e (tC (.ty t)) := by
  cases e with
  | Name x p =>
    rw [trType] at h
    by_cases hb : isB B sc x = true
    · rw [if_pos hb] at h
      unfold isB at hb
      simp only [Bool.and_eq_true, Bool.not_eq_true'] at hb
      obtain ⟨g1, g2, g3, g4⟩ := isB_ok C hb.1.1 hb.1.2 hb.2
      refine ⟨rfl, rfl, ?_⟩
      by_cases e : x = ("int" : Str)
      · rw [if_pos e] at h; subst e; cases h; exact ⟨by decide, pe_bltn g1 g2 (by decide +kernel) rfl g3 g4⟩
      rw [if_neg e] at h
      clear e
      by_cases e : x = ("bool" : Str)
      · rw [if_pos e] at h; subst e; cases h; exact ⟨by decide, pe_bltn g1 g2 (by decide +kernel) rfl g3 g4⟩
      rw [if_neg e] at h
      clear e
      by_cases e : x = ("str" : Str)
      · rw [if_pos e] at h; subst e; cases h; exact ⟨by decide, pe_bltn g1 g2 (by decide +kernel) rfl g3 g4⟩
      rw [if_neg e] at h
      clear e
      by_cases e : x = ("tuple" : Str)
      · rw [if_pos e] at h; subst e; cases h; exact ⟨by decide, pe_bltn g1 g2 (by decide +kernel) rfl g3 g4⟩
      rw [if_neg e] at h
      clear e
      by_cases e : x = ("list" : Str)
      · rw [if_pos e] at h; subst e; cases h; exact ⟨by decide, pe_bltn g1 g2 (by decide +kernel) rfl g3 g4⟩
      rw [if_neg e] at h
      clear e
      by_cases e : x = ("dict" : Str)
      · rw [if_pos e] at h; subst e; cases h; exact ⟨by decide, pe_bltn g1 g2 (by decide +kernel) rfl g3 g4⟩
      rw [if_neg e] at h
      clear e
      cases h
    · rw [if_neg hb] at h; cases h
  | _ => cases h
theorem trTypes_ok (C : Cok XR B cf N sc k W X) : ∀ {es : List Expr} {ts : List String}, trL (trType B sc) es = some ts → (∀ c ∈ ts, c ∈ clNames) ∧ PA X es (fun _ H Q => Q (ts.map V.ty) H)
  | [], ts, h => by cases h; exact ⟨fun c hc => absurd hc (by simp), pa_imp pa_nil fun _ _ _ q => q⟩
  | e :: es, ts, h => by
    rw [trL] at h
    cases h1 : trType B sc e with
    | none => rw [h1] at h; cases h
    | some t =>
      rw [h1] at h
      cases h2 : trL (trType B sc) es with
      | none => rw [h2] at h; cases h
      | some r =>
        rw [h2] at h
        cases h
        obtain ⟨a1, _, a2, a3⟩ := trType_ok C h1
        obtain ⟨b1, b2⟩ := trTypes_ok C h2
        refine ⟨fun c hc => ?_, pa_imp (pa_cons a3 b2 (star_cons a1)) fun _ _ _ q => q⟩
        rcases List.mem_cons.mp hc with z | z
        · rw [z]; exact a2
        · exact b1 c z
theorem cls_pair : ∀ ts : List String, Paired ClsV (ts.map V.ty) (ts.map Value.type)
  | [] => .nil
  | t :: ts => .cons (.ty t) (cls_pair ts)
theorem snd_isi1 {p pos : Pos} {a t : Expr} {x : PF.X} {c : String} (hn : noStar a = true) (hg : isGlobal sc "isinstance" = true) (hf : B.bls.contains ("isinstance" : Str) = true) (ha : Snd XR B cf N k sc a x) (ht : trType B sc t = some c) :
    Snd XR B cf N k sc (.Call (.Name "isinstance" p) [a, t] [] pos) (.isi x [c]) := by
  refine snd_plain rfl (fun _ _ _ => nofun) fun W X C => ?_
  obtain ⟨g1, g2, g3, g4⟩ := isB_ok C hg hf (by decide)
  obtain ⟨a1, _, a2, a3⟩ := trType_ok C ht
  refine pe_imp (pe_callB call_isi g1 g2 boot_isinstance (pa_cons (ha W X C).1 (pa_cons a3 pa_nil (star_cons a1)) (star_cons hn)) g3 g4 (star_cons hn) (star_any (by rw [List.all_cons, a1]; rfl))) fun σ H Q ⟨m, e, S, re, rs, q⟩ => ?_
  have q : Post X.K (RV X.K) m H ((ev cf x e S).bind fun v S => (R.ofO (tyName S v) S).bind fun t S => .ok (.bl ([c].any (isT t))) S) Q (W σ) := by rw [ev] at q; exact q
  refine ⟨m, e, S, re, rs, q.bind fun v S1 z1 m1 H1 e1 rs1 r1 q1 => ?_⟩
  obtain ⟨t', et, q2⟩ := q1.pass
  refine ⟨z1, .ty c, .type t', .type c, isT t' c, rfl, .ty c, tyx_of rs1 r1 et, kit_get (tyName_in et) a2, ?_⟩
  have : [c].any (isT t') = isT t' c := by simp
  rw [this] at q2
  exact q2.get rs1 (.bl _)
theorem snd_isiT {p pos tp : Pos} {j : Nat} {a : Expr} {ts : List Expr} {x : PF.X} {cs : List String} (hn : noStar a = true) (hg : isGlobal sc "isinstance" = true) (hf : B.bls.contains ("isinstance" : Str) = true) (ha : Snd XR B cf N k sc a x) (hl : ts.length ≤ 20) (ht : trL (trType B sc) ts = some cs) :
    Snd XR B cf N k sc (.Call (.Name "isinstance" p) [a, .Tuple ts j tp] [] pos) (.isi x cs) := by
  refine snd_plain rfl (fun _ _ _ => nofun) fun W X C => ?_
  obtain ⟨g1, g2, g3, g4⟩ := isB_ok C hg hf (by decide)
  obtain ⟨a2, a3⟩ := trTypes_ok C ht
  refine pe_imp (pe_callB call_isiT g1 g2 boot_isinstance (pa_cons (ha W X C).1 (pa_cons (pe_tup a3) pa_nil) (star_cons hn)) g3 g4 (star_cons hn) rfl) fun σ H Q ⟨m, e, S, re, rs, q⟩ => ?_
  have q : Post X.K (RV X.K) m H ((ev cf x e S).bind fun v S => (R.ofO (tyName S v) S).bind fun t S => .ok (.bl (cs.any (isT t))) S) Q (W σ) := by rw [ev] at q; exact q
  refine ⟨m, e, S, re, rs, q.bind fun v S1 z1 m1 H1 e1 rs1 r1 q1 => ?_⟩
  obtain ⟨t', et, q2⟩ := q1.pass
  have hcs : cs.length = ts.length := trL_length ht
  refine ⟨by rw [List.length_map, sizeLine_eq]; omega, fun tp hp => ?_⟩
  have ex : Ext m1 H1 m1 (upd H1 tp (.tup (cs.map V.ty))) := Ext.laid hp
  refine ⟨z1, tp, cs.map V.ty, .type t', cs.map Value.type, cs.any (isT t'), rfl, upd_same, cls_pair cs, tyx_of (rs1.laid hp) (r1.up ex) et, kit_any (tyName_in et) a2, ?_⟩
  exact q2 _ m1 _ ex (rs1.laid hp) (.bl _)
/-! ### methods -/
theorem tyV_of {K : PySem.W.Frag} {m : Mp} {H : Hp} {S : Store} {v : PV} {x : V} {b : Mth} (rs : Rel K S m H) (r : RV K m H v x) (e : mthIs b S v = true) : tyV K (mthT b) x H := by
  unfold mthIs at e
  have e : tyName S v = some (mthT b) := by simpa using e
  cases r with
  | non => have e : some "NoneType" = some (mthT b) := e; cases b <;> exact absurd e (by decide)
  | bl _ => have e : some "bool" = some (mthT b) := e; cases b <;> exact absurd e (by decide)
  | int _ => have e : some "int" = some (mthT b) := e; cases b <;> exact absurd e (by decide)
  | str z _ => exact (Option.some.inj (show some "str" = some (mthT b) from e)).symm
  | tup hl h r => have e : some "tuple" = some (mthT b) := e; cases b <;> exact absurd e (by decide)
  | lv hl n h r => exact .inl ⟨(Option.some.inj e).symm, _, .of h⟩
  | fz hl h r => cases e
  | @loc n p h =>
    rw [tyName] at e
    cases g : S[n]? with
    | none => rw [g] at e; cases e
    | some o =>
      rw [g] at e
      have ro := rs.at g h
      cases o with
      | lst xs => obtain ⟨_, vs, g1, _⟩ := ro; exact .inl ⟨(Option.some.inj e).symm, _, .of g1⟩
      | dic kvs => obtain ⟨vs, g1, _⟩ := ro; exact .inr (.inr (.inl ⟨(Option.some.inj e).symm, .inl ⟨_, g1⟩⟩))
      | ins c fs => cases e
  | dv hl n h r => exact .inr (.inr (.inl ⟨(Option.some.inj e).symm, .inl ⟨_, h⟩⟩))
  | iv hl n h hC r => cases e
theorem mth_q {K : PySem.W.Frag} {b : Mth} {o : PF.X} {xs : List PF.X} {m : Mp} {e : Env} {S : Store} {H : Hp} {Q : VK} {w : WP} (q : Post K (RV K) m H (ev cf (.mth b o xs) e S) Q w) :
    Post K (RV K) m H ((ev cf o e S).bind fun v S => if mthIs b S v then (evs cf xs e S).bind fun vs S => mthV b S v vs else .bad) Q w := by rw [ev] at q; exact q
theorem mth_core {b : Mth} {o : PF.X} {xs : List PF.X} {σ : St} {H : Hp} {Q : VK} (h : can X.K W (ev cf (.mth b o xs)) σ H Q) : tBM X.K (mthT b) (rMth X.K (mthV b)) (can X.K W (ev cf o)) (canA X.K W (evs cf xs)) σ H Q := by
  obtain ⟨m, e, S, re, rs, q⟩ := h
  refine ⟨m, e, S, re, rs, (mth_q q).bind fun v S1 z1 m1 H1 e1 rs1 r1 q1 => ?_⟩
  by_cases ht : mthIs b S1 v = true
  · rw [if_pos ht] at q1
    refine ⟨tyV_of rs1 r1 ht, m1, e, S1, re.up e1, rs1, q1.bind fun vs S2 z2 m2 H2 e2 rs2 r2 q2 => ?_⟩
    exact ⟨m2, S2, v, vs, rs2, r1.up e2, r2, Post.noexc (fun _ _ _ => mthV_noexc _ _ _) q2⟩
  · rw [if_neg ht] at q1; exact q1.elim
theorem mth_core0 {b : Mth} {o : PF.X} {σ : St} {H : Hp} {Q : VK} (h : can X.K W (ev cf (.mth b o [])) σ H Q) : tBM0 X.K (mthT b) (rMth X.K (mthV b)) (can X.K W (ev cf o)) σ H Q := by
  obtain ⟨m, e, S, re, rs, q⟩ := h
  refine ⟨m, e, S, re, rs, (mth_q q).bind fun v S1 z1 m1 H1 e1 rs1 r1 q1 => ?_⟩
  by_cases ht : mthIs b S1 v = true
  · rw [if_pos ht] at q1
    refine ⟨tyV_of rs1 r1 ht, m1, S1, v, [], rs1, r1, .nil, Post.noexc (fun _ _ _ => mthV_noexc _ _ _) q1⟩
  · rw [if_neg ht] at q1; exact q1.elim
theorem few_ok {env : PySem.Env} {cpos : Pos} {es : List Expr} (h1 : es.all noStar = true) (h2 : es.length < 20) : ((backTo cpos (starEach es env)).all (fun x => !x.1) && (backToKw cpos (keywordEach [] env)).all (fun x => x.1.isSome)
      && decide (es.length + ([] : List Keyword).length + (if ([] : List Keyword).isEmpty then 0 else 1) < 30)) = true := by
  rw [star_all h1]
  have : decide (es.length + ([] : List Keyword).length + (if ([] : List Keyword).isEmpty then 0 else 1) < 30) = true := decide_eq_true (by simp; omega)
  rw [this]
  rfl
theorem snd_mth {o : Expr} {m : Str} {apos cpos : Pos} {es : List Expr} {x : PF.X} {xs : List PF.X} {b : Mth} (h1 : plainBase o = true) (h2 : es.all noStar = true) (h3 : (apos.endLine == cpos.line) = true) (h4 : es.length < 20) (hb : mthOf m es.length = some b)
    (ho : Snd XR B cf N k sc o x) (h : SndL XR B cf N k sc es xs) : Snd XR B cf N k sc (.Call (.Attribute o m apos) es [] cpos) (.mth b x xs) := by
  refine snd_plain rfl (fun _ _ _ => nofun) fun W X C => ?_
  cases es with
  | nil =>
    cases h
    have via : ∀ {T id : String}, PlainAttrs T → Slot T m id → typeOf (.builtin id) = pure (.type "method_descriptor") → MtR X id (rMth X.K (mthV b)) → T = mthT b → PE X (.Call (.Attribute o m apos) [] [] cpos) (can X.K W (ev cf (.mth b x []))) := by
      intro T id pa sl ty mt e
      subst e
      exact pe_imp (pe_bm0 pa sl ty mt (ho W X C).1 (base_plain h1 m) h3) fun σ H Q q => mth_core0 q
    unfold mthOf at hb
    by_cases e : m = ("append" : Str)
    · rw [if_pos e] at hb; obtain ⟨z, _⟩ := ite_some hb; cases z
    rw [if_neg e] at hb; clear e
    by_cases e : m = ("extend" : Str)
    · rw [if_pos e] at hb; obtain ⟨z, _⟩ := ite_some hb; cases z
    rw [if_neg e] at hb; clear e
    by_cases e : m = ("pop" : Str)
    · rw [if_pos e, if_pos (show ([] : List Expr).length = 0 from rfl)] at hb
      subst e
      cases hb
      exact via PySem.F.plainAttrs_list PySem.F.slot_list_pop PySem.F.type_list_pop mb_pop0 rfl
    rw [if_neg e] at hb; clear e
    by_cases e : m = ("get" : Str)
    · rw [if_pos e, if_neg (by decide), if_neg (by decide)] at hb; cases hb
    rw [if_neg e] at hb; clear e
    by_cases e : m = ("join" : Str)
    · rw [if_pos e] at hb; obtain ⟨z, _⟩ := ite_some hb; cases z
    rw [if_neg e] at hb; clear e
    by_cases e : m = ("partition" : Str)
    · rw [if_pos e] at hb; obtain ⟨z, _⟩ := ite_some hb; cases z
    rw [if_neg e] at hb; clear e
    by_cases e : m = ("count" : Str)
    · rw [if_pos e] at hb; obtain ⟨z, _⟩ := ite_some hb; cases z
    rw [if_neg e] at hb; clear e
    by_cases e : m = ("split" : Str)
    · rw [if_pos e] at hb; obtain ⟨z, _⟩ := ite_some hb; cases z
    rw [if_neg e] at hb; clear e
    by_cases e : m = ("clear" : Str)
    · rw [if_pos e, if_pos (show ([] : List Expr).length = 0 from rfl)] at hb
      subst e
      cases hb
      exact via PySem.F.plainAttrs_dict PySem.F.slot_dict_clear PySem.F.type_dict_clear mb_clearD rfl
    rw [if_neg e] at hb; clear e
    by_cases e : m = ("setdefault" : Str)
    · rw [if_pos e] at hb; obtain ⟨z, _⟩ := ite_some hb; cases z
    rw [if_neg e] at hb; clear e
    cases hb
  | cons a as =>
    have h2' := h2
    rw [List.all_cons, Bool.and_eq_true] at h2'
    have via : ∀ {T id : String}, PlainAttrs T → Slot T m id → typeOf (.builtin id) = pure (.type "method_descriptor") → MtR X id (rMth X.K (mthV b)) → T = mthT b → PE X (.Call (.Attribute o m apos) (a :: as) [] cpos) (can X.K W (ev cf (.mth b x xs))) := by
      intro T id pa sl ty mt e
      subst e
      exact pe_imp (pe_bm pa sl ty mt (ho W X C).1 (pa_of C h h2) (base_plain h1 m) (few_ok h2 h4) h3 (star_cons h2'.1) (star_any h2'.2)) fun σ H Q q => mth_core q
    unfold mthOf at hb
    by_cases e : m = ("append" : Str)
    · rw [if_pos e] at hb; obtain ⟨_, hb⟩ := ite_some hb; subst e; cases hb; exact via PySem.F.plainAttrs_list PySem.F.slot_list_append PySem.F.type_list_append mb_append rfl
    rw [if_neg e] at hb; clear e
    by_cases e : m = ("extend" : Str)
    · rw [if_pos e] at hb; obtain ⟨_, hb⟩ := ite_some hb; subst e; cases hb; exact via PySem.F.plainAttrs_list PySem.F.slot_list_extend PySem.F.type_list_extend mb_extend rfl
    rw [if_neg e] at hb; clear e
    by_cases e : m = ("pop" : Str)
    · rw [if_pos e, if_neg (by simp)] at hb
      obtain ⟨_, hb⟩ := ite_some hb
      subst e
      cases hb
      exact via PySem.F.plainAttrs_list PySem.F.slot_list_pop PySem.F.type_list_pop mb_pop1 rfl
    rw [if_neg e] at hb; clear e
    by_cases e : m = ("get" : Str)
    · rw [if_pos e] at hb
      subst e
      by_cases e1 : (a :: as).length = 1
      · rw [if_pos e1] at hb; cases hb; exact via PySem.F.plainAttrs_dict PySem.F.slot_dict_get PySem.F.type_dict_get (mb_get1 C.hu) rfl
      · rw [if_neg e1] at hb; obtain ⟨_, hb⟩ := ite_some hb; cases hb; exact via PySem.F.plainAttrs_dict PySem.F.slot_dict_get PySem.F.type_dict_get (mb_get2 C.hu) rfl
    rw [if_neg e] at hb; clear e
    by_cases e : m = ("join" : Str)
    · rw [if_pos e] at hb; obtain ⟨_, hb⟩ := ite_some hb; subst e; cases hb; exact via PySem.F.plainAttrs_str PySem.F.slot_str_join PySem.F.type_str_join mb_join rfl
    rw [if_neg e] at hb; clear e
    by_cases e : m = ("partition" : Str)
    · rw [if_pos e] at hb; obtain ⟨_, hb⟩ := ite_some hb; subst e; cases hb; exact via PySem.F.plainAttrs_str PySem.F.slot_str_partition PySem.F.type_str_partition mb_partition rfl
    rw [if_neg e] at hb; clear e
    by_cases e : m = ("count" : Str)
    · rw [if_pos e] at hb; obtain ⟨_, hb⟩ := ite_some hb; subst e; cases hb; exact via PySem.F.plainAttrs_str PySem.F.slot_str_count PySem.F.type_str_count mb_count rfl
    rw [if_neg e] at hb; clear e
    by_cases e : m = ("split" : Str)
    · rw [if_pos e] at hb; obtain ⟨_, hb⟩ := ite_some hb; subst e; cases hb; exact via PySem.F.plainAttrs_str PySem.F.slot_str_split PySem.F.type_str_split mb_split rfl
    rw [if_neg e] at hb; clear e
    by_cases e : m = ("clear" : Str)
    · rw [if_pos e] at hb; obtain ⟨z, _⟩ := ite_some hb; simp at z
    rw [if_neg e] at hb; clear e
    by_cases e : m = ("setdefault" : Str)
    · rw [if_pos e] at hb; obtain ⟨_, hb⟩ := ite_some hb; subst e; cases hb; exact via PySem.F.plainAttrs_dict PySem.F.slot_dict_setdefault PySem.F.type_dict_setdefault mb_setdef rfl
    rw [if_neg e] at hb; clear e
    cases hb
end
end L2.PF

set_option Elab.async false
set_option linter.all false
set_option maxRecDepth 100000
set_option maxHeartbeats 4000000
/-! PFI: what a for walks. -/
namespace PySem
open Sem (wp)
open AutoSeq1 (wpAny_loadPart')
theorem meets_enumerate_newT (l : Addr) (items : Array Value) (n : Nat) (dct : Option Addr) (sl : Array (Option Value)) :
    Meets (Builtin.«enumerate.__new__» ⟨[.type "enumerate", .ref l], []⟩) (fun _ R s => s.heap.get? l = some { cls := .type "tuple", dict := dct, data := .seq items n, slots := sl } ∧
      R (.ok (.ret (.ref (s.heap.push { cls := .type "tuple_iterator", data := .fields #[.ref l, .int 0 0] }).objs.size)))
        { s with heap := (s.heap.push { cls := .type "tuple_iterator", data := .fields #[.ref l, .int 0 0] }).push { cls := .type "enumerate", data := .fields #[.none, .bool false, .ref s.heap.objs.size, rawInt 0, .none, .none] } }) :=
  .of_wp fun prog w A R s h => by
    obtain ⟨hp, g, d, tk, os⟩ := s; obtain ⟨hl, h⟩ := h
    have hsub := sub_enumerate
    have hL : Heap.IsTuple (Shared.heap ⟨hp, g, d, tk, os⟩) l items := ⟨_, hl, rfl, n, rfl⟩
    wp_walk using wpAny_loadPart' hl
    refine wpAny_stack_any fun st => wpAny_pure ?_
    split
    · rename_i c _ _ _ _ _
      cases (c == Value.type "enumerate")
      · wp_walk using wpAny_loadPart' hl, wpAny_pyIter_tuple hL
        exact ⟨_, rfl, h⟩
      · wp_walk using wpAny_loadPart' hl, wpAny_pyIter_tuple hL
        exact ⟨_, rfl, h⟩
    · wp_walk using wpAny_loadPart' hl, wpAny_pyIter_tuple hL
      exact ⟨_, rfl, h⟩
section
variable {prog : Program} {w : World} {A : Around} {E : Value → Shared → Prop} {s : Shared}
theorem call_enumerate_tuple {l : Addr} {items : Array Value} {Q : Value → Shared → Prop} (hL : s.heap.IsTuple l items)
    (h : ∀ h', IsEnum h' (s.heap.objs.size + 1) s.heap.objs.size 0 .none → h'.IsTupleIter s.heap.objs.size l 0 → h'.objs.size = s.heap.objs.size + 2 →
      (∀ b o, s.heap.get? b = some o → h'.get? b = some o) → Q (.ref (s.heap.objs.size + 1)) { s with heap := h' }) :
    wpAny (model prog w) A (call (.type "enumerate") [.ref l]) Q E s := by
  obtain ⟨⟨c, dct, dt, sl⟩, hl, hc, n, hd⟩ := hL
  replace hc : c = .type "tuple" := hc
  replace hd : dt = .seq items n := hd
  subst hc hd
  refine callType_new F.called_enumerate (by decide) (F.typeCall_enumerate_1 _) (F.newCall_enumerate_1 _) (fun obj => F.args_object_init_2 obj _) F.entry_enumerate_new
    (meets_enumerate_newT l items n dct sl) ⟨hl, ?_⟩
  have hz : (s.heap.push { cls := .type "tuple_iterator", data := .fields #[.ref l, .int 0 0] }).objs.size = s.heap.objs.size + 1 := Heap.size_push ..
  show _ ∧ _
  rw [hz]
  have he : IsEnum ((s.heap.push { cls := .type "tuple_iterator", data := .fields #[.ref l, .int 0 0] }).push
      { cls := .type "enumerate", data := .fields #[.none, .bool false, .ref s.heap.objs.size, rawInt 0, .none, .none] }) (s.heap.objs.size + 1) s.heap.objs.size 0 .none := by
    have := Heap.get?_push_size (s.heap.push { cls := .type "tuple_iterator", data := .fields #[.ref l, .int 0 0] })
      (o := { cls := .type "enumerate", data := .fields #[.none, .bool false, .ref s.heap.objs.size, rawInt 0, .none, .none] }) rfl
    rw [hz] at this; exact this
  refine ⟨⟨_, he, rfl⟩, h _ he ⟨_, Heap.get?_push_of_some _ (Heap.get?_push_size _ rfl), rfl, rfl⟩ (by rw [Heap.size_push, hz]) fun b o x => Heap.get?_push_of_some _ (Heap.get?_push_of_some _ x)⟩
end
end PySem
namespace L2.PF
open PySem PySem.Spec PyProof.Rows
/-! ### enumerate(tuple) -/
def IteT (K : PySem.W.Frag) (a : Addr) : It :=
  ⟨fun i H => ∃ (xs : List V) (x : V), SqT K H a xs ∧ xs[i]? = some x, fun i H v H' => ∃ T x, v = .ref T ∧ H T = none ∧ H' = upd H T (.tup [.int (i : Nat), x]) ∧ ∀ xs, SqT K H a xs → xs[i]? = some x, fun i H => ∃ xs : List V, SqT K H a xs ∧ xs.length ≤ i⟩
theorem turn_enumT {P : Program} {w : World} {K : PySem.W.Frag} {elts : List Expr} {kk : Nat} {tpos : Pos} (a e it : Addr) (hai : a ≠ it) :
    Turn P w K (.Tuple elts kk tpos) (IteT K a) [e, it] e (fun i h => (∃ old, IsEnum h e it ((i : Nat) : Int) old) ∧ h.IsTupleIter it a i ∧ e ≠ it ∧ e ≠ a) where
  mem := by simp
  obj := fun i h st b hb => by
    obtain ⟨⟨old, he⟩, ⟨o, ho, hc, hd⟩, _⟩ := st
    have e' : b = e ∨ b = it := by simpa using hb
    rcases e' with z | z
    · rw [z]; exact ⟨_, he, fun v q => nomatch q⟩
    · rw [z]; exact ⟨o, ho, fun v q => by rw [hd] at q; cases q⟩
  keep := fun i h h' st k => let ⟨⟨old, he⟩, hi, hne⟩ := st; ⟨⟨old, k e (by simp) _ he⟩, hi.at fun o q => k it (by simp) o q, hne⟩
  item := by
    intro X hP hw hK hc i pins s σ H E I hf st hg
    subst hP hw hK
    obtain ⟨⟨old, he⟩, hit, hne, hea⟩ := st
    obtain ⟨xs, x, hq, hx⟩ := hg
    obtain ⟨its, rv, p, hz⟩ := I.tuple hq
    obtain ⟨u, hu, ru⟩ := rv.get hx
    have hel : e < s.heap.objs.size := Heap.lt_size he
    have hil : it < s.heap.objs.size := by obtain ⟨_, q, _⟩ := hit; exact Heap.lt_size q
    have hlt : i < its.toArray.size := by
      have := (List.getElem?_eq_some_iff.mp hu).1
      simpa using this
    refine wpAny_pyNext_enum_itemD (Draws.tuple (A := X.A.in1) (by first | exact I.ok.hd hc | (rw [show X.A.in1.handled = X.A.handled from rfl]; exact I.ok.hd hc)) it a hai its.toArray) he ⟨hit, (show s.heap.IsTuple a its.toArray from p)⟩ hlt hne (by simp [hne, hea]) fun x' h' tk hx' ho hit' hT hsz hk => ?_
    have ex : x' = u := by
      have h1 : its.toArray[i]? = some x' := hx'
      have h2 : its.toArray[i]? = some u := by simpa using hu
      rw [h1] at h2
      exact Option.some.inj h2
    subst ex
    refine ⟨_, rfl, wpAny_letOwnedTupleGo_enum (s := { s with heap := h', toks := tk + 1 }) ho fun h'' he' sb => ?_⟩
    have hT2 : h''.get? s.heap.objs.size = some { cls := .type "tuple", data := .seq #[.int i tk, x'] } := (sb.2 _ (Nat.ne_of_gt hel)).trans hT
    have new : ObjOk X.prog X.w (upd H s.heap.objs.size (.tup [.int (i : Nat), x])) h'' s.heap.objs.size (.tup [.int (i : Nat), x]) :=
      ⟨by show 2 ≤ sizeLine; decide, [.int i tk, x'], .cons ⟨_, rfl⟩ (.cons ru .nil), ⟨_, hT2, rfl, _, rfl⟩⟩
    have I1 : Inv X pins σ (upd H s.heap.objs.size (.tup [.int (i : Nat), x])) { s with heap := h'', toks := tk + 1 } :=
      I.turnedNew (ch := [e, it]) (fun b ob hb q => (sb.2 b (fun z => hb (by simp [z]))).trans (hk b ob (fun z => hb (by simp [z])) (fun z => hb (by simp [z])) q)) hf (Nat.le_refl _) new
    refine ⟨.ref s.heap.objs.size, _, I1, rfl, ⟨_, x, rfl, I.hok.fresh (Nat.le_refl _), rfl, fun ys hy => by rw [I.tuple_inj hy hq]; exact hx⟩, ⟨⟨x', ?_⟩, hit'.1.at fun o q => (sb.2 it (Ne.symm hne)).trans q, hne, hea⟩, fun b hb => ?_⟩
    · have e1 : ((i + 1 : Nat) : Int) = (i : Int) + 1 := by omega
      rw [e1]; exact he'
    · have hb' : b < s.heap.objs.size := by
        have e' : b = e ∨ b = it := by simpa using hb
        rcases e' with z | z
        · rw [z]; exact hel
        · rw [z]; exact hil
      rw [upd_ne (Nat.ne_of_lt hb')]
      exact (hf b hb).1
  done := by
    intro X hP hw hK hc i pins s σ H E I hf st hg
    subst hP hw hK
    obtain ⟨⟨old, he⟩, hit, hne, hea⟩ := st
    obtain ⟨xs, hq, hx⟩ := hg
    obtain ⟨its, rv, p, hz⟩ := I.tuple hq
    obtain ⟨f0, f1, f2, f3, f4, f5⟩ := hf it (by simp)
    have hl := rv.length
    have hsz : its.toArray.size ≤ i := by simp; omega
    have hh : X.A.in1.handled = none := I.ok.hd hc
    have hT : s.TypeIs (.ref e) "enumerate" := ⟨_, he, rfl⟩
    unfold pyNext
    refine wpAny_bind (wpAny_attempt (wpAny_callSpecial?_slot (name := Str.ofString "__next__") hT F.slot_enumerate_next
      (wpAny_call_entry F.slot_enumerate_next hT F.entry_enumerate_next ?_ (F.args_enumerate_next_1 _))))
    show wpAny _ _ (field (.ref e) 2 >>= _) _ _ _
    refine wpAny_bind (wpAny_field he rfl (x := .ref it) rfl ?_)
    refine wpAny_bind (wpAny_nextOf_tuple_end hh hit (show s.heap.IsTuple a its.toArray from p) (by simp; omega) fun h' x he' hx' => ?_)
    obtain ⟨o, ho, hc⟩ := hx'
    refine wpAny_bind (wpAny_isInstance (T := "StopIteration") (b := true) ⟨o, ho, hc⟩ isSubtype_stop ?_)
    exact wpAny_pure ⟨rfl, I.turned (t' := s.toks) (fun b o hb q => he' b o hb q) f0 f1 f3 f4 f5⟩
  self := fun A i s Q E st h => let ⟨⟨_, he⟩, _⟩ := st; wpAny_pyIter_enum he h
end L2.PF

set_option Elab.async false
set_option linter.all false
set_option maxRecDepth 100000
set_option maxHeartbeats 4000000
/-! PFJ: what a for walks, in the text; comprehensions. -/
namespace L2.PF
open PySem PySem.Spec PyProof.Rows
/-- enumerate, of a list or of a tuple -/
def iEnumA (K : PySem.W.Frag) (ta : TA) : TI := fun σ H R => ta σ H fun vs H1 => ∃ a, vs = [.ref a] ∧ ((∃ xs, SqL K H1 a xs ∧ R (Ite K a) H1) ∨ ∃ xs, SqT K H1 a xs ∧ R (IteT K a) H1)
theorem pi_enumA {X : Cx} {e : Expr} {ta : TA} {p pos tpos : Pos} {elts : List Expr} {kk : Nat} (hg : Gl X "enumerate") (hm : X.mg "enumerate" = none) (ha : PA X [e] ta) (hs : starEach [e] X.env = [(false, eval e X.env)]) :
    PI X (.Tuple elts kk tpos) (.Call (.Name "enumerate" p) [e] [] pos) (iEnumA X.K ta) := by
  refine ⟨fun pins s σ H R I h => ?_⟩
  refine Call_ (ld_blt I hg hm boot_enumerate (PyProof.Rows.callWith_type1 (thn (ha.run pos pins s σ H _ I h) fun us s1 ⟨vs, H1, I1, r1, q1⟩ => ?_) hs rfl))
  obtain ⟨a, ex, q1⟩ := q1
  subst ex
  cases r1 with
  | cons r rr =>
    cases rr
    cases r
    have low : ∀ b, b ∈ [s1.heap.objs.size + 1, s1.heap.objs.size] → s1.heap.objs.size ≤ b := fun b hb => by
      have e' : b = s1.heap.objs.size + 1 ∨ b = s1.heap.objs.size := by simpa using hb
      rcases e' with z | z
      · rw [z]; exact Nat.le_add_right _ _
      · rw [z]; exact Nat.le_refl _
    rcases q1 with ⟨xs, hq, q⟩ | ⟨xs, hq, q⟩
    · obtain ⟨its, rv, p', hz⟩ := I1.list hq
      refine call_enumerate_list p'.isList fun h' he hit hsz hk => wpAny_pyIter_enum he ?_
      have I2 : Inv X pins σ H1 { s1 with heap := h' } := I1.kept (t' := s1.toks) hk
      exact ⟨s1.heap.objs.size + 1, [s1.heap.objs.size + 1, s1.heap.objs.size], _, _, H1, rfl, I2, turn_enum a (s1.heap.objs.size + 1) s1.heap.objs.size, ⟨⟨.none, he⟩, hit, Nat.succ_ne_self _⟩, fun b hb => I1.fpOk (low b hb) (I1.hok.fresh (low b hb)), q⟩
    · obtain ⟨its, rv, p', hz⟩ := I1.tuple hq
      obtain ⟨ot, hot, _⟩ := id p'
      have hlt := Heap.lt_size hot
      refine PySem.call_enumerate_tuple (show s1.heap.IsTuple a its.toArray from p') fun h' he hit hsz hk => wpAny_pyIter_enum he ?_
      have I2 : Inv X pins σ H1 { s1 with heap := h' } := I1.kept (t' := s1.toks) hk
      exact ⟨s1.heap.objs.size + 1, [s1.heap.objs.size + 1, s1.heap.objs.size], _, _, H1, rfl, I2, turn_enumT a (s1.heap.objs.size + 1) s1.heap.objs.size (Nat.ne_of_lt hlt), ⟨⟨.none, he⟩, hit, Nat.succ_ne_self _, Ne.symm (Nat.ne_of_lt (Nat.lt_succ_of_lt hlt))⟩, fun b hb => I1.fpOk (low b hb) (I1.hok.fresh (low b hb)), q⟩
/-- a list, a tuple, a text -/
def iAny (K : PySem.W.Frag) (tl : TE) : TI := fun σ H R => tl σ H fun x H1 => (∃ a, x = .ref a ∧ (∃ xs, SqL K H1 a xs) ∧ R (Itl K a) H1) ∨ (∃ a, x = .ref a ∧ (∃ xs, SqT K H1 a xs) ∧ R (Itt K a) H1) ∨ ∃ z, x = .str z ∧ R (Its z) H1
theorem pi_any {X : Cx} {tg l : Expr} {tl : TE} (hl : PE X l tl) : PI X tg l (iAny X.K tl) := by
  refine ⟨fun pins s σ H R I h => ?_⟩
  refine thn (hl.run pins s σ H _ I h) fun v s1 ⟨x, H1, I1, r1, q1⟩ => ?_
  have one : ∀ b, b ∈ [s1.heap.objs.size] → FpOk X pins H1 b := fun b hb => by
    have e : b = s1.heap.objs.size := by simpa using hb
    subst e
    exact I1.fpOk (Nat.le_refl _) (I1.hok.fresh (Nat.le_refl _))
  rcases q1 with ⟨a, e, ⟨xs, hq⟩, q⟩ | ⟨a, e, ⟨xs, hq⟩, q⟩ | ⟨z, e, q⟩
  · subst e
    cases r1
    obtain ⟨its, rv, p, hz⟩ := I1.list hq
    refine wpAny_pyIter_list p.isList ?_
    exact ⟨s1.heap.objs.size, [s1.heap.objs.size], _, _, H1, rfl, I1.kept (t' := s1.toks) fun b o e => Heap.get?_push_of_some _ e, turn_list a _, ⟨_, Heap.get?_push_size _ rfl, rfl, rfl⟩, one, q⟩
  · subst e
    cases r1
    obtain ⟨its, rv, p, hz⟩ := I1.tuple hq
    refine wpAny_pyIter_tuple (show s1.heap.IsTuple a its.toArray from p) ?_
    exact ⟨s1.heap.objs.size, [s1.heap.objs.size], _, _, H1, rfl, I1.kept (t' := s1.toks) fun b o e => Heap.get?_push_of_some _ e, turn_tuple a _, ⟨_, Heap.get?_push_size _ rfl, rfl, rfl⟩, one, q⟩
  · subst e
    obtain ⟨t, rfl⟩ := r1
    cases ha : z.cps.all (· < 128)
    · exact wpAny_pyIter_wide ha (pi_one (tk := s1.toks) I1 _ (turn_str _ z t "str_iterator" (.inr rfl)) ⟨_, Heap.get?_push_size _ rfl, rfl, rfl⟩ q)
    · exact wpAny_pyIter_ascii ha (pi_one (tk := s1.toks) I1 _ (turn_str _ z t "str_ascii_iterator" (.inl rfl)) ⟨_, Heap.get?_push_size _ rfl, rfl, rfl⟩ q)
/-- the iterator J yields xs from the heap H0 on, as long as g stands -/
def Walks (K : PySem.W.Frag) (J : It) (g : Grd) (xs : List PV) (m0 : Mp) (H0 : Hp) : Prop :=
  ∀ i m S H, Lat m0 H0 m H → Rel K S m H → grdOk g S = true →
    (∀ x, xs[i]? = some x → J.go i H ∧ ∀ v H', J.yld i H v H' → Ext m H m H' ∧ Rel K S m H' ∧ RV K m H' x v) ∧ (xs[i]? = none → J.stop i H)
def WalksL (K : PySem.W.Frag) : Mp → Hp → List PV × Grd → It → Prop := fun m H p J => p.1.length ≤ sizeLine ∧ Walks K J p.2 p.1 m H
def canI (K : PySem.W.Frag) (W : St → WP) (f : Env → Store → R (List PV × Grd)) : TI := fun σ H Q => ∃ m e S, RE K m H e σ ∧ Rel K S m H ∧ Post K (WalksL K) m H (f e S) Q (W σ)
def evI (cf : Nat → List PV → Store → R PV) (k : IK) (its : List PF.X) (e : Env) (S : Store) : R (List PV × Grd) := (evs cf its e S).bind fun vs S => R.ofO (iterV k S vs) S
theorem pi_imp {X : Cx} {tg e : Expr} {t t' : TI} (h : PI X tg e t) (k : ∀ σ H R, t' σ H R → t σ H R) : PI X tg e t' := ⟨fun pins s σ H R I q => h.run pins s σ H R I (k σ H R q)⟩
section
variable {K : PySem.W.Frag} {m m0 : Mp} {H H0 : Hp} {S S0 : Store}
theorem grd_app {g g' : Grd} (h : grdOk (g ++ g') S = true) : grdOk g S = true ∧ grdOk g' S = true := by
  unfold grdOk at h ⊢
  rw [List.all_append, Bool.and_eq_true] at h
  exact h
/-- how a list or tuple that is walked lies, later -/
theorem seq_atT {xs : List PV} {x : V} (r : RV K m0 H0 (.tup xs) x) : ∃ a, x = .ref a ∧ xs.length ≤ sizeLine ∧ ∀ (g : Grd) m S H, Lat m0 H0 m H → Rel K S m H → grdOk g S = true → ∃ vs, SqT K H a vs ∧ RVs K m H xs vs := by
  cases r with
  | tup hl h t => exact ⟨_, rfl, hl, fun g m S H ex rs' _ => by
      have := RV.mono ex _ _ (.tup hl h t)
      cases this with
      | tup _ h' t' => exact ⟨_, h'.sq, t'⟩⟩
theorem seq_atL (rs : Rel K S0 m0 H0) {v : PV} {x : V} {xs : List PV} (r : RV K m0 H0 v x) (e : litems S0 v = some xs) : ∃ a, x = .ref a ∧ xs.length ≤ sizeLine ∧
    ∀ m S H, Lat m0 H0 m H → Rel K S m H → grdOk (grd S0 v) S = true → ∃ vs, SqL K H a vs ∧ RVs K m H xs vs := by
  cases r with
  | lv hl n h t => rw [litems] at e; cases e; exact ⟨_, rfl, hl, fun m S H ex rs' _ => by
      have := RV.mono ex _ _ (.lv hl n h t)
      cases this with
      | lv _ _ h' t' => exact ⟨_, .of h', t'⟩⟩
  | fz hl h t => rw [litems] at e; cases e; exact ⟨_, rfl, hl, fun m S H ex rs' _ => by
      have := RV.mono ex _ _ (.fz hl h t)
      cases this with
      | fz _ h' t' => exact ⟨_, h'.sq, t'⟩⟩
  | @loc n a h =>
    rw [litems] at e
    cases q : S0[n]? with
    | none => rw [q] at e; cases e
    | some o =>
      rw [q] at e
      cases o with
      | lst ys =>
        cases e
        have ro := rs.at q h
        refine ⟨a, rfl, ro.1, fun m S H ex rs' g => ?_⟩
        rw [grd, q] at g
        have g : S[n]? = some (.lst xs) := by simpa [grdOk] using g
        obtain ⟨_, vs, h1, h2⟩ := rs'.at g (ex.get h)
        exact ⟨vs, .of h1, h2⟩
      | dic kvs => cases e
      | ins c fs => cases e
  | _ => rw [litems] at e <;> first | cases e | (intros; exact fun z => nomatch z)
theorem items_cases {v : PV} {xs : List PV} (e : items S v = some xs) : v = .tup xs ∨ litems S v = some xs := by
  cases v with
  | tup ys => cases e; exact .inl rfl
  | _ => exact .inr e
theorem seq_at (rs : Rel K S0 m0 H0) {v : PV} {x : V} {xs : List PV} (r : RV K m0 H0 v x) (e : items S0 v = some xs) : ∃ a, x = .ref a ∧ xs.length ≤ sizeLine ∧
    ((∀ m S H, Lat m0 H0 m H → Rel K S m H → grdOk (grd S0 v) S = true → ∃ vs, SqL K H a vs ∧ RVs K m H xs vs) ∨ (∀ m S H, Lat m0 H0 m H → Rel K S m H → grdOk (grd S0 v) S = true → ∃ vs, SqT K H a vs ∧ RVs K m H xs vs)) := by
  rcases items_cases e with h | h
  · subst h
    obtain ⟨a, e1, hl, h⟩ := seq_atT r
    exact ⟨a, e1, hl, .inr (h _)⟩
  · obtain ⟨a, e1, hl, h⟩ := seq_atL rs r h
    exact ⟨a, e1, hl, .inl h⟩
theorem RVs.none {xs : List PV} {vs : List V} {i : Nat} (r : RVs K m H xs vs) (h : xs[i]? = none) : vs.length ≤ i := by
  rw [← r.length]
  exact List.getElem?_eq_none_iff.mp h
theorem walks_list {a : Addr} {g : Grd} {xs : List PV} (h : ∀ m S H, Lat m0 H0 m H → Rel K S m H → grdOk g S = true → ∃ vs, SqL K H a vs ∧ RVs K m H xs vs) : Walks K (Itl K a) g xs m0 H0 := by
  intro i m S H ex rs g
  obtain ⟨vs, h1, h2⟩ := h m S H ex rs g
  refine ⟨fun x hx => ?_, fun hx => ⟨vs, h1, h2.none hx⟩⟩
  obtain ⟨v, hv, rv⟩ := h2.get hx
  refine ⟨⟨vs, v, h1, hv⟩, fun v' H' y => ?_⟩
  obtain ⟨rfl, y⟩ := y
  have := y vs h1
  rw [hv] at this
  cases this
  exact ⟨Ext.refl, rs, rv⟩
theorem walks_tup {a : Addr} {g : Grd} {xs : List PV} (h : ∀ m S H, Lat m0 H0 m H → Rel K S m H → grdOk g S = true → ∃ vs, SqT K H a vs ∧ RVs K m H xs vs) : Walks K (Itt K a) g xs m0 H0 := by
  intro i m S H ex rs g
  obtain ⟨vs, h1, h2⟩ := h m S H ex rs g
  refine ⟨fun x hx => ?_, fun hx => ⟨vs, h1, h2.none hx⟩⟩
  obtain ⟨v, hv, rv⟩ := h2.get hx
  refine ⟨⟨vs, v, h1, hv⟩, fun v' H' y => ?_⟩
  obtain ⟨rfl, y⟩ := y
  have := y vs h1
  rw [hv] at this
  cases this
  exact ⟨Ext.refl, rs, rv⟩
theorem pair_laid (rs : Rel K S m H) {T : Addr} {x y : PV} {v w : V} (hT : H T = none) (rx : RV K m H x v) (ry : RV K m H y w) :
    Ext m H m (upd H T (.tup [v, w])) ∧ Rel K S m (upd H T (.tup [v, w])) ∧ RV K m (upd H T (.tup [v, w])) (.tup [x, y]) (.ref T) :=
  ⟨Ext.laid hT, rs.laid hT, .tup (by show 2 ≤ sizeLine; rw [sizeLine_eq]; decide) (.inl ⟨rs.out hT, upd_same⟩) (.cons (rx.up (Ext.laid hT)) (.cons (ry.up (Ext.laid hT)) .nil))⟩
theorem enumP_get {xs : List PV} {i : Nat} : (enumP xs)[i]? = (xs[i]?).map fun x => .tup [.int (i : Int), x] := by
  unfold enumP
  rw [List.getElem?_mapIdx]
theorem enumP_length {xs : List PV} : (enumP xs).length = xs.length := by unfold enumP; rw [List.length_mapIdx]
theorem intRow_get {lo : Int} {n i : Nat} : (intRow lo n)[i]? = if i < n then some (.int (lo + i)) else none := by
  unfold intRow
  rw [List.getElem?_map]
  by_cases h : i < n
  · rw [if_pos h, List.getElem?_range h]; rfl
  · rw [if_neg h, List.getElem?_eq_none (by simp; omega)]; rfl
theorem intRow_length {lo : Int} {n : Nat} : (intRow lo n).length = n := by unfold intRow; simp
theorem walks_range {lo : Int} {n : Nat} : Walks K (Itr lo n) [] (intRow lo n) m0 H0 := by
  intro i m S H ex rs _
  rw [intRow_get]
  refine ⟨fun x hx => ?_, fun hx => ?_⟩
  · by_cases h : i < n
    · rw [if_pos h] at hx
      cases hx
      exact ⟨h, fun v H' ⟨e1, e2⟩ => by subst e1 e2; exact ⟨Ext.refl, rs, .int _⟩⟩
    · rw [if_neg h] at hx; cases hx
  · by_cases h : i < n
    · rw [if_pos h] at hx; cases hx
    · exact Nat.le_of_not_lt h
theorem walks_str {z : Str} (hz : StrOk z) : Walks K (Its z) [] (z.cps.toList.map fun c => .str ⟨#[c]⟩) m0 H0 := by
  intro i m S H ex rs _
  rw [List.getElem?_map, Array.getElem?_toList]
  refine ⟨fun x hx => ?_, fun hx => ?_⟩
  · obtain ⟨c, hc, rfl⟩ := map_some hx
    refine ⟨(Array.getElem?_eq_some_iff.mp hc).1, fun v H' ⟨e1, d, e2, e3⟩ => ?_⟩
    subst e1 e3
    rw [hc] at e2
    cases e2
    refine ⟨Ext.refl, rs, .str _ (.one (strOk_iff.mp hz.2 c ?_))⟩
    exact Array.mem_toList_iff.mpr (Array.mem_of_getElem? hc)
  · have : z.cps[i]? = none := by
      cases e : z.cps[i]? with
      | none => rfl
      | some c => rw [e] at hx; cases hx
    exact Array.getElem?_eq_none_iff.mp this
theorem walks_enumL {a : Addr} {g : Grd} {xs : List PV} (h : ∀ m S H, Lat m0 H0 m H → Rel K S m H → grdOk g S = true → ∃ vs, SqL K H a vs ∧ RVs K m H xs vs) : Walks K (Ite K a) g (enumP xs) m0 H0 := by
  intro i m S H ex rs g
  obtain ⟨vs, h1, h2⟩ := h m S H ex rs g
  rw [enumP_get]
  refine ⟨fun x hx => ?_, fun hx => ⟨vs, h1, h2.none (by cases e : xs[i]? with | none => rfl | some y => rw [e] at hx; cases hx)⟩⟩
  obtain ⟨y, hy, rfl⟩ := map_some hx
  obtain ⟨v, hv, rv⟩ := h2.get hy
  refine ⟨⟨vs, v, h1, hv⟩, fun v' H' y => ?_⟩
  obtain ⟨T, w, rfl, hT, rfl, y⟩ := y
  have := y vs h1
  rw [hv] at this
  cases this
  exact pair_laid rs hT (.int _) rv
theorem walks_enumT {a : Addr} {g : Grd} {xs : List PV} (h : ∀ m S H, Lat m0 H0 m H → Rel K S m H → grdOk g S = true → ∃ vs, SqT K H a vs ∧ RVs K m H xs vs) : Walks K (IteT K a) g (enumP xs) m0 H0 := by
  intro i m S H ex rs g
  obtain ⟨vs, h1, h2⟩ := h m S H ex rs g
  rw [enumP_get]
  refine ⟨fun x hx => ?_, fun hx => ⟨vs, h1, h2.none (by cases e : xs[i]? with | none => rfl | some y => rw [e] at hx; cases hx)⟩⟩
  obtain ⟨y, hy, rfl⟩ := map_some hx
  obtain ⟨v, hv, rv⟩ := h2.get hy
  refine ⟨⟨vs, v, h1, hv⟩, fun v' H' y => ?_⟩
  obtain ⟨T, w, rfl, hT, rfl, y⟩ := y
  have := y vs h1
  rw [hv] at this
  cases this
  exact pair_laid rs hT (.int _) rv
theorem zipP_some {xs ys : List PV} {i : Nat} {z : PV} (h : (zipP xs ys)[i]? = some z) : ∃ x y, xs[i]? = some x ∧ ys[i]? = some y ∧ z = .tup [x, y] := by
  unfold zipP at h
  rw [List.getElem?_zipWith] at h
  cases h1 : xs[i]? with
  | none => rw [h1] at h; cases h
  | some x =>
    cases h2 : ys[i]? with
    | none => rw [h1, h2] at h; cases h
    | some y => rw [h1, h2] at h; cases h; exact ⟨x, y, rfl, rfl, rfl⟩
theorem zipP_none {xs ys : List PV} {i : Nat} (h : (zipP xs ys)[i]? = none) : xs[i]? = none ∨ ys[i]? = none := by
  unfold zipP at h
  rw [List.getElem?_zipWith] at h
  cases h1 : xs[i]? with
  | none => exact .inl rfl
  | some x =>
    cases h2 : ys[i]? with
    | none => exact .inr rfl
    | some y => rw [h1, h2] at h; cases h
theorem walks_zipL {a b : Addr} {g g' : Grd} {xs ys : List PV} (h : ∀ m S H, Lat m0 H0 m H → Rel K S m H → grdOk g S = true → ∃ vs, SqL K H a vs ∧ RVs K m H xs vs) (h' : ∀ m S H, Lat m0 H0 m H → Rel K S m H → grdOk g' S = true → ∃ vs, SqL K H b vs ∧ RVs K m H ys vs) :
    Walks K (Itz K a b) (g ++ g') (zipP xs ys) m0 H0 := by
  intro i m S H ex rs g
  obtain ⟨vs, h1, h2⟩ := h m S H ex rs (grd_app g).1
  obtain ⟨ws, h3, h4⟩ := h' m S H ex rs (grd_app g).2
  refine ⟨fun x hx => ?_, fun hx => ⟨vs, ws, h1, h3, (zipP_none hx).imp (fun z => h2.none z) fun z => h4.none z⟩⟩
  obtain ⟨y, z, hy, hz, rfl⟩ := zipP_some hx
  obtain ⟨v, hv, rv⟩ := h2.get hy
  obtain ⟨w, hw, rw'⟩ := h4.get hz
  refine ⟨⟨vs, ws, v, w, h1, h3, hv, hw⟩, fun v' H' y => ?_⟩
  obtain ⟨T, v2, w2, rfl, hT, rfl, y, z⟩ := y
  have e1 := y vs h1
  have e2 := z ws h3
  rw [hv] at e1
  rw [hw] at e2
  cases e1
  cases e2
  exact pair_laid rs hT rv rw'
theorem walks_zipT {a b : Addr} {g g' : Grd} {xs ys : List PV} (h : ∀ m S H, Lat m0 H0 m H → Rel K S m H → grdOk g S = true → ∃ vs, SqT K H a vs ∧ RVs K m H xs vs) (h' : ∀ m S H, Lat m0 H0 m H → Rel K S m H → grdOk g' S = true → ∃ vs, SqT K H b vs ∧ RVs K m H ys vs) :
    Walks K (RZ.ItzT K a b) (g ++ g') (zipP xs ys) m0 H0 := by
  intro i m S H ex rs g
  obtain ⟨vs, h1, h2⟩ := h m S H ex rs (grd_app g).1
  obtain ⟨ws, h3, h4⟩ := h' m S H ex rs (grd_app g).2
  refine ⟨fun x hx => ?_, fun hx => ⟨vs, ws, h1, h3, (zipP_none hx).imp (fun z => h2.none z) fun z => h4.none z⟩⟩
  obtain ⟨y, z, hy, hz, rfl⟩ := zipP_some hx
  obtain ⟨v, hv, rv⟩ := h2.get hy
  obtain ⟨w, hw, rw'⟩ := h4.get hz
  refine ⟨⟨vs, ws, v, w, h1, h3, hv, hw⟩, fun v' H' y => ?_⟩
  obtain ⟨T, v2, w2, rfl, hT, rfl, y, z⟩ := y
  have e1 := y vs h1
  have e2 := z ws h3
  rw [hv] at e1
  rw [hw] at e2
  cases e1
  cases e2
  exact pair_laid rs hT rv rw'
end
section
variable {XR : XRel} {B : Tab} {cf : Nat → List PV → Store → R PV} {N : List Str} {sc : Scope} {k : Nat} {W : St → WP} {X : Cx}
/-- the promise of what is walked -/
def SndI (XR : XRel) (B : Tab) (cf : Nat → List PV → Store → R PV) (N : List Str) (k : Nat) (sc : Scope) (tg iter : Expr) (ik : IK) (its : List PF.X) : Prop :=
  ∀ (W : St → WP) (X : Cx), Cok XR B cf N sc k W X → PI X tg iter (canI X.K W (evI cf ik its))
theorem sndI_seq {tg e : Expr} {x : PF.X} (h : Snd XR B cf N k sc e x) : SndI XR B cf N k sc tg e .seq [x] := by
  intro W X C
  refine pi_imp (pi_any (h W X C).1) fun σ H Q ⟨m, e, S, re, rs, q⟩ => ?_
  have q : Post X.K (WalksL X.K) m H ((ev cf x e S).bind fun v S => R.ofO (iterV .seq S [v]) S) Q (W σ) := by
    unfold evI at q
    rw [evs] at q
    simp only [bind_assoc, evs, R.bind_ok] at q
    exact q
  refine ⟨m, e, S, re, rs, q.bind fun v S1 z1 m1 H1 e1 rs1 r1 q1 => ?_⟩
  obtain ⟨p, ep, q2⟩ := q1.ofO
  have gen : (items S1 v).map (fun xs => (xs, grd S1 v)) = some p → (∃ a, z1 = .ref a ∧ (∃ xs, SqL X.K H1 a xs) ∧ Q (Itl X.K a) H1) ∨ (∃ a, z1 = .ref a ∧ (∃ xs, SqT X.K H1 a xs) ∧ Q (Itt X.K a) H1) ∨ ∃ z, z1 = .str z ∧ Q (Its z) H1 := by
    intro ep
    obtain ⟨xs, ex, rfl⟩ := map_some ep
    have g0 : grdOk (grd S1 v) S1 = true := by
      unfold grdOk grd
      split
      · split <;> simp_all
      · rfl
    obtain ⟨a, rfl, hl, h | h⟩ := seq_at rs1 r1 ex
    · obtain ⟨vs, h1, _⟩ := h m1 S1 H1 Ext.refl.lat rs1 g0
      exact .inl ⟨a, rfl, ⟨vs, h1⟩, q2.get rs1 ⟨hl, walks_list h⟩⟩
    · obtain ⟨vs, h1, _⟩ := h m1 S1 H1 Ext.refl.lat rs1 g0
      exact .inr (.inl ⟨a, rfl, ⟨vs, h1⟩, q2.get rs1 ⟨hl, walks_tup h⟩⟩)
  cases r1 with
  | str z hz =>
    cases (show some (z.cps.toList.map (fun c => PV.str ⟨#[c]⟩), ([] : Grd)) = some p from ep)
    exact .inr (.inr ⟨z, rfl, q2.get rs1 ⟨by rw [List.length_map, ← length_cps]; exact hz.1, walks_str hz⟩⟩)
  | _ => exact gen ep
theorem grd_self {S : Store} {v : PV} : grdOk (grd S v) S = true := by
  unfold grdOk grd
  split
  · split <;> simp_all
  · rfl
theorem sndI_enum {p pos tpos : Pos} {elts : List Expr} {kk : Nat} {e : Expr} {x : PF.X} (hb : isB B sc "enumerate" = true) (hs : noStar e = true) (h : Snd XR B cf N k sc e x) : SndI XR B cf N k sc (.Tuple elts kk tpos) (.Call (.Name "enumerate" p) [e] [] pos) .enum [x] := by
  intro W X C
  unfold isB at hb
  simp only [Bool.and_eq_true, Bool.not_eq_true'] at hb
  obtain ⟨g1, g2, g3, g4⟩ := isB_ok C hb.1.1 hb.1.2 hb.2
  refine pi_imp (pi_enumA g1 g2 (pa_of C (.cons h .nil) (by rw [List.all_cons, hs]; rfl)) (by rw [star_cons hs]; rfl)) fun σ H Q ⟨m, e, S, re, rs, q⟩ => ?_
  refine ⟨m, e, S, re, rs, Post.bind q fun vs S1 z1 m1 H1 e1 rs1 r1 q1 => ?_⟩
  obtain ⟨p, ep, q2⟩ := q1.ofO
  match vs, r1, ep with
  | [], _, ep => cases ep
  | _ :: _ :: _, _, ep => cases ep
  | [v], r1, ep =>
    obtain ⟨z, rfl, rv⟩ := rvs1 r1
    obtain ⟨xs, ex, rfl⟩ := map_some (show (items S1 v).map (fun xs => (enumP xs, grd S1 v)) = some p from ep)
    obtain ⟨a, rfl, hl, h | h⟩ := seq_at rs1 rv ex
    · obtain ⟨vs, h1, _⟩ := h m1 S1 H1 Ext.refl.lat rs1 grd_self
      exact ⟨a, rfl, .inl ⟨vs, h1, q2.get rs1 ⟨by rw [enumP_length]; exact hl, walks_enumL h⟩⟩⟩
    · obtain ⟨vs, h1, _⟩ := h m1 S1 H1 Ext.refl.lat rs1 grd_self
      exact ⟨a, rfl, .inr ⟨vs, h1, q2.get rs1 ⟨by rw [enumP_length]; exact hl, walks_enumT h⟩⟩⟩
theorem small_c {i : Int} (h : small i = true) : -(2 ^ 62) ≤ i ∧ i < 2 ^ 62 := of_decide_eq_true h
theorem sndI_rng1 {tg : Expr} {p pos : Pos} {e : Expr} {x : PF.X} (hb : isB B sc "range" = true) (hs : noStar e = true) (h : Snd XR B cf N k sc e x) : SndI XR B cf N k sc tg (.Call (.Name "range" p) [e] [] pos) .rng1 [x] := by
  intro W X C
  unfold isB at hb
  simp only [Bool.and_eq_true, Bool.not_eq_true'] at hb
  obtain ⟨g1, g2, g3, g4⟩ := isB_ok C hb.1.1 hb.1.2 hb.2
  refine pi_imp (pi_range1 g1 g2 (pa_of C (.cons h .nil) (by rw [List.all_cons, hs]; rfl)) (by rw [star_cons hs]; rfl)) fun σ H Q ⟨m, e, S, re, rs, q⟩ => ?_
  refine ⟨m, e, S, re, rs, Post.bind q fun vs S1 z1 m1 H1 e1 rs1 r1 q1 => ?_⟩
  obtain ⟨p, ep, q2⟩ := q1.ofO
  match vs, r1, ep with
  | [], _, ep => cases ep
  | v :: _ :: _, _, ep => revert ep; cases v <;> exact fun ep => nomatch ep
  | [v], r1, ep =>
    obtain ⟨z, rfl, rv⟩ := rvs1 r1
    cases rv with
    | int j =>
      have ep : (if (small j && decide (j.toNat ≤ sizeLine)) = true then some (intRow 0 j.toNat, ([] : Grd)) else none) = some p := ep
      obtain ⟨hc, ep⟩ := ite_some ep
      cases ep
      rw [Bool.and_eq_true] at hc
      exact ⟨j, rfl, (small_c hc.1).1, (small_c hc.1).2, q2.get rs1 ⟨by rw [intRow_length]; exact of_decide_eq_true hc.2, walks_range⟩⟩
    | _ => cases ep
theorem sndI_rng2 {tg : Expr} {p pos : Pos} {e f : Expr} {x y : PF.X} (hb : isB B sc "range" = true) (hs : noStar e = true) (hs' : noStar f = true) (h : Snd XR B cf N k sc e x) (h' : Snd XR B cf N k sc f y) : SndI XR B cf N k sc tg (.Call (.Name "range" p) [e, f] [] pos) .rng2 [x, y] := by
  intro W X C
  unfold isB at hb
  simp only [Bool.and_eq_true, Bool.not_eq_true'] at hb
  obtain ⟨g1, g2, g3, g4⟩ := isB_ok C hb.1.1 hb.1.2 hb.2
  refine pi_imp (pi_range2 g1 g2 (pa_of C (.cons h (.cons h' .nil)) (by rw [List.all_cons, hs, List.all_cons, hs']; rfl)) (by rw [star_cons hs, star_cons hs']; rfl) (by rw [star_cons hs']; rfl)) fun σ H Q ⟨m, e, S, re, rs, q⟩ => ?_
  refine ⟨m, e, S, re, rs, Post.bind q fun vs S1 z1 m1 H1 e1 rs1 r1 q1 => ?_⟩
  obtain ⟨p, ep, q2⟩ := q1.ofO
  match vs, r1, ep with
  | [], _, ep => cases ep
  | [v], _, ep => revert ep; cases v <;> exact fun ep => nomatch ep
  | v :: u :: _ :: _, _, ep => revert ep; cases v <;> cases u <;> exact fun ep => nomatch ep
  | [v, u], r1, ep =>
    obtain ⟨z, z', rfl, rv, ru⟩ := rvs2 r1
    cases rv with
    | int i =>
      cases ru with
      | int j =>
        have ep : (if (small i && small j && decide ((j - i).toNat ≤ sizeLine)) = true then some (intRow i (j - i).toNat, ([] : Grd)) else none) = some p := ep
        obtain ⟨hc, ep⟩ := ite_some ep
        cases ep
        simp only [Bool.and_eq_true] at hc
        exact ⟨i, j, rfl, ⟨(small_c hc.1.1).1, (small_c hc.1.1).2, (small_c hc.1.2).1, (small_c hc.1.2).2⟩, q2.get rs1 ⟨by rw [intRow_length]; exact of_decide_eq_true hc.2, walks_range⟩⟩
      | _ => cases ep
    | _ => cases ep
theorem zipP_length {xs ys : List PV} : (zipP xs ys).length ≤ xs.length := by unfold zipP; rw [List.length_zipWith]; omega
theorem sndI_zip {p pos tpos : Pos} {elts : List Expr} {kk : Nat} {e f : Expr} {x y : PF.X} (hb : isB B sc "zip" = true) (hs : noStar e = true) (hs' : noStar f = true) (h : Snd XR B cf N k sc e x) (h' : Snd XR B cf N k sc f y) : SndI XR B cf N k sc (.Tuple elts kk tpos) (.Call (.Name "zip" p) [e, f] [] pos) .zip [x, y] := by
  intro W X C
  unfold isB at hb
  simp only [Bool.and_eq_true, Bool.not_eq_true'] at hb
  obtain ⟨g1, g2, g3, g4⟩ := isB_ok C hb.1.1 hb.1.2 hb.2
  refine pi_imp (RZ.pi_zipA g1 g2 (pa_of C (.cons h (.cons h' .nil)) (by rw [List.all_cons, hs, List.all_cons, hs']; rfl)) (star_cons hs) (star_any (by rw [List.all_cons, hs']; rfl))) fun σ H Q ⟨m, e, S, re, rs, q⟩ => ?_
  refine ⟨m, e, S, re, rs, Post.bind q fun vs S1 z1 m1 H1 e1 rs1 r1 q1 => ?_⟩
  obtain ⟨p, ep, q2⟩ := q1.ofO
  match vs, r1, ep with
  | [], _, ep => cases ep
  | [v], _, ep => revert ep; cases v <;> exact fun ep => nomatch ep
  | v :: u :: _ :: _, _, ep => revert ep; cases v <;> cases u <;> exact fun ep => nomatch ep
  | [v, u], r1, ep =>
    obtain ⟨z, z', rfl, rv, ru⟩ := rvs2 r1
    have lists : (match litems S1 v, litems S1 u with
      | some xs, some ys => some (zipP xs ys, grd S1 v ++ grd S1 u)
      | _, _ => none) = some p → ∃ a b xs ys, [z, z'] = [V.ref a, V.ref b] ∧ ((SqL X.K H1 a xs ∧ SqL X.K H1 b ys ∧ Q (Itz X.K a b) H1) ∨ (SqT X.K H1 a xs ∧ SqT X.K H1 b ys ∧ Q (RZ.ItzT X.K a b) H1)) := by
      intro ep
      cases e1 : litems S1 v with
      | none => rw [e1] at ep; cases ep
      | some xs =>
        cases e2 : litems S1 u with
        | none => rw [e1, e2] at ep; cases ep
        | some ys =>
          rw [e1, e2] at ep
          cases ep
          obtain ⟨a, rfl, hl, h⟩ := seq_atL rs1 rv e1
          obtain ⟨b, rfl, hl2, h'⟩ := seq_atL rs1 ru e2
          obtain ⟨vs, h1, _⟩ := h m1 S1 H1 Ext.refl.lat rs1 grd_self
          obtain ⟨ws, h2, _⟩ := h' m1 S1 H1 Ext.refl.lat rs1 grd_self
          exact ⟨a, b, vs, ws, rfl, .inl ⟨h1, h2, q2.get rs1 ⟨Nat.le_trans zipP_length hl, walks_zipL h h'⟩⟩⟩
    cases v with
    | tup xs =>
      cases u with
      | tup ys =>
        cases (show some (zipP xs ys, ([] : Grd)) = some p from ep)
        obtain ⟨a, rfl, hl, h⟩ := seq_atT rv
        obtain ⟨b, rfl, hl2, h'⟩ := seq_atT ru
        obtain ⟨vs, h1, _⟩ := h [] m1 S1 H1 Ext.refl.lat rs1 rfl
        obtain ⟨ws, h2, _⟩ := h' [] m1 S1 H1 Ext.refl.lat rs1 rfl
        exact ⟨a, b, vs, ws, rfl, .inr ⟨h1, h2, q2.get rs1 ⟨Nat.le_trans zipP_length hl, walks_zipT (g := []) (g' := []) (h []) (h' [])⟩⟩⟩
      | _ => exact lists ep
    | _ => exact lists ep
end
end L2.PF

set_option Elab.async false
set_option linter.all false
set_option maxRecDepth 100000
set_option maxHeartbeats 4000000
/-! PFK: targets, comprehensions. -/
namespace L2.PF
open PySem PySem.Spec PyProof.Rows
/-! ### targets -/
/-- the own names of so may be stored -/
def Tok (so : Scope) (X : Cx) : Prop := ∀ x, ownName so x = true → Loc X.env.scope x ∧ (X.fn x = true ∨ X.env.scope.names.lookup x = some .local)
theorem wipe_set {i : Nat} {o : Option V} : ∀ {vs : List Nat} {σ : St}, i ∈ vs → L2.wipe (σ.set i o) vs = L2.wipe σ vs
  | [], _, h => by cases h
  | v :: vs, σ, h => by
    show (L2.wipe (σ.set i o) vs).set v none = (L2.wipe σ vs).set v none
    by_cases e : i ∈ vs
    · rw [wipe_set e]
    · have ev : i = v := by
        rcases List.mem_cons.mp h with z | z
        · exact z
        · exact absurd z e
      subst ev
      have : ∀ (l : List Nat) (τ : St), i ∉ l → L2.wipe (τ.set i o) l = (L2.wipe τ l).set i o := by
        intro l
        induction l with
        | nil => intro τ _; rfl
        | cons a l ih =>
          intro τ hn
          show (L2.wipe (τ.set i o) l).set a none = ((L2.wipe τ l).set a none).set i o
          rw [ih τ (fun z => hn (List.mem_cons_of_mem _ z)), List.set_comm]
          intro z
          exact hn (by rw [z]; exact List.mem_cons_self)
      rw [this vs σ e, List.set_set]
/-- the reading of a target -/
def TgR (K : PySem.W.Frag) (t : Tg) (g : TG) : Prop := ∀ (m : Mp) (H : Hp) (e e' : Env) (σ : St) (x : PV) (v : V) (Q : St → Hp → Prop), RE K m H e σ → RV K m H x v → putT t x e = some e' →
  (∀ σ', RE K m H e' σ' → (∀ vs, tgIn vs t = true → L2.wipe σ' vs = L2.wipe σ vs) → Q σ' H) → g v σ H Q
section
variable {XR : XRel} {B : Tab} {cf : Nat → List PV → Store → R PV} {N : List Str} {sc so : Scope} {k : Nat} {W : St → WP} {X : Cx}
theorem names_each {env : PySem.Env} {f : Str → Option Nat} : ∀ {es : List Expr} {is : List Nat}, trL (fun e => match e with | .Name x _ => f x | _ => none) es = some is →
    (assignEach es env).findIdx? (·.1) = none ∧ (assignEach es env).length = is.length
  | [], is, h => by cases h; exact ⟨rfl, rfl⟩
  | e :: es, is, h => by
    rw [trL] at h
    cases e with
    | Name x p =>
      simp only at h
      cases h1 : f x with
      | none => rw [h1] at h; cases h
      | some i =>
        rw [h1] at h
        simp only at h
        cases h2 : trL (fun e => match e with | .Name x _ => f x | _ => none) es with
        | none => rw [h2] at h; cases h
        | some js =>
          rw [h2] at h
          cases h
          obtain ⟨a, b⟩ := names_each (env := env) h2
          refine ⟨?_, ?_⟩
          · show List.findIdx? (·.1) ((false, assign (.Name x p) env) :: assignEach es env) = none
            rw [List.findIdx?_cons, a]
            rfl
          · show ((false, assign (.Name x p) env) :: assignEach es env).length = _
            rw [List.length_cons, b]; rfl
    | _ => cases h
def gNs : List Nat → TGs
  | [] => gNil
  | i :: is => gCons (gName i) (gNs is)
def tgG (K : PySem.W.Frag) : Tg → TG
  | .n i => gName i
  | .t is => gTup K is.length (gNs is)
theorem gNs_read {K : PySem.W.Frag} : ∀ (is : List Nat) (m : Mp) (H : Hp) (e : Env) (σ : St) (xs : List PV) (vs : List V) (Q : St → Hp → Prop), RE K m H e σ → RVs K m H xs vs → is.length = xs.length →
      (∀ σ', RE K m H ((is.zip xs).foldl (fun e p => e.set p.1 (some p.2)) e) σ' → (∀ ws, (is.all fun i => ws.contains i) = true → L2.wipe σ' ws = L2.wipe σ ws) → Q σ' H) → gNs is vs σ H Q
  | [], m, H, e, σ, xs, vs, Q, re, rv, hl, q => by
    cases xs with
    | nil => cases rv; exact ⟨rfl, q σ re fun _ _ => rfl⟩
    | cons _ _ => cases hl
  | i :: is, m, H, e, σ, xs, vs, Q, re, rv, hl, q => by
    cases rv with
    | nil => cases hl
    | cons r t =>
      refine ⟨_, _, rfl, ?_⟩
      refine gNs_read is m H _ _ _ _ Q (re.set r i) t (by simpa using hl) fun σ' re' hw => q σ' re' fun ws hws => ?_
      rw [List.all_cons, Bool.and_eq_true] at hws
      rw [hw ws hws.2]
      exact wipe_set (by simpa using hws.1)
theorem tgG_read {K : PySem.W.Frag} : ∀ t : Tg, TgR K t (tgG K t)
  | .n i => fun m H e e' σ x v Q re rv hp q => by
    cases (show some (e.set i (some x)) = some e' from hp)
    exact q _ (re.set rv i) fun vs hv => wipe_set (by simpa [tgIn] using hv)
  | .t is => fun m H e e' σ x v Q re rv hp q => by
    cases rv with
    | @tup xs vs a hl ha r =>
      have hp : (if is.length = xs.length then some ((is.zip xs).foldl (fun e p => e.set p.1 (some p.2)) e) else none) = some e' := hp
      obtain ⟨hc, hp⟩ := ite_some hp
      cases hp
      exact ⟨a, vs, rfl, ha.sq, by rw [← r.length]; exact hc.symm, gNs_read is m H e σ xs vs Q re r hc fun σ' re' hw => q σ' re' fun ws hws => hw ws hws⟩
    | _ => cases hp
theorem pgs_of (C : Cok XR B cf N sc k W X) (T : Tok so X) : ∀ {es : List Expr} {is : List Nat}, trL (fun e => match e with | .Name x _ => if ownName so x = true then slotOf N x else none | _ => none) es = some is → PGs X es (gNs is)
  | [], is, h => by
    cases h
    exact pgs_nil
  | e :: es, is, h => by
    rw [trL] at h
    cases e with
    | Name x p =>
      simp only at h
      by_cases ho : ownName so x = true
      · rw [if_pos ho] at h
        cases h1 : slotOf N x with
        | none => rw [h1] at h; cases h
        | some i =>
          rw [h1] at h
          simp only at h
          cases h2 : trL (fun e => match e with | .Name x _ => if ownName so x = true then slotOf N x else none | _ => none) es with
          | none => rw [h2] at h; cases h
          | some js =>
            rw [h2] at h
            cases h
            exact pgs_cons (pg_name (i := i) (by rw [C.names]; exact C.nd) (by rw [C.names]; exact slot_get h1) (T x ho).1 (T x ho).2) (pgs_of C T h2) rfl
      · rw [if_neg ho] at h; cases h
    | _ => cases h
theorem pg_of {tg : Expr} {t : Tg} (C : Cok XR B cf N sc k W X) (T : Tok so X) (h : trTg N so tg = some t) : PG X tg (tgG X.K t) := by
  cases tg with
  | Name x p =>
    rw [trTg] at h
    by_cases ho : ownName so x = true
    · rw [if_pos ho] at h
      obtain ⟨i, hi, rfl⟩ := map_some h
      exact pg_name (i := i) (by rw [C.names]; exact C.nd) (by rw [C.names]; exact slot_get hi) (T x ho).1 (T x ho).2
    · rw [if_neg ho] at h; cases h
  | Tuple es j p =>
    rw [trTg] at h
    obtain ⟨is, hi, rfl⟩ := map_some h
    obtain ⟨h1, h2⟩ := names_each (env := X.env) (f := fun x => if ownName so x = true then slotOf N x else none) hi
    exact pg_tup C.calm (pgs_of C T hi) h2 h1
  | _ => cases h

/-! ### comprehensions -/
/-- what a comprehension's turn does -/
def turnC (cf : Nat → List PV → Store → R PV) (elt : PF.X) (own : List Nat) (tg : Tg) (ifs : List PF.X) (e : Env) (x : PV) (S : Store) : R (Option PV) :=
  match putT tg x (wipeE e own) with
  | none => .bad
  | some e' => (evs cf ifs e' S).bind fun cs S => (R.ofO (ifsV S cs) S).bind fun k S => if k = true then (ev cf elt e' S).bind fun y S => .ok (some y) S else .ok none S
theorem ev_comp {m : Bool} {elt : PF.X} {own : List Nat} {tg : Tg} {ik : IK} {its ifs : List PF.X} {e : Env} {S : Store} : ev cf (.comp m elt own tg ik its ifs) e S = (evI cf ik its e S).bind fun p S => compR m (turnC cf elt own tg ifs e) p S := by
  rw [ev]
  unfold evI
  rw [bind_assoc]
  rfl
/-- its tests -/
def evC (cf : Nat → List PV → Store → R PV) (ifs : List PF.X) (e : Env) (S : Store) : R Bool := (evs cf ifs e S).bind fun cs S => R.ofO (ifsV S cs) S
theorem pts_of (C : Cok XR B cf N sc k W X) {es : List Expr} {cs : List PF.X} (h : SndL XR B cf N k sc es cs) (hl : es.length ≤ 1) : PTs X es (canT X.K W (evC cf cs)) := by
  cases h with
  | nil => exact ⟨fun pins s σ H Q I ⟨m, e, S, re, rs, q⟩ => pts_nil.run pins s σ H Q I (q true m H Ext.refl rs rfl)⟩
  | @cons e x es xs h t =>
    cases t with
    | cons _ _ => simp at hl
    | nil =>
      refine ⟨fun pins s σ H Q I ⟨m, e, S, re, rs, q⟩ => (pts_one (h W X C).2.1).run pins s σ H Q I ⟨m, e, S, re, rs, ?_⟩⟩
      unfold evC at q
      simp only [evs, bind_assoc, R.bind_ok, ifsV] at q
      exact q
def WNo : St → WP := fun _ _ _ _ _ => False
theorem takes_no : Takes X (wx XR WNo) ∨ True := .inr trivial
/-- in a comprehension's block -/
theorem cok_blk (C : Cok XR B cf N sc k W X) {scope : Scope} {s : Shared} {H : Hp} {A : Addr} {cl : List (Str × Addr)} {fp : List Addr} : Cok XR B cf N (relS scope sc) k WNo (X.blk s H scope (compEnvC scope cl A X.env) fp) where
  calm := C.calm
  names := C.names
  nd := C.nd
  scope := by rw [← C.scope]; rfl
  room := C.room
  fns := C.fns
  gls := C.gls
  bls := C.bls
  tk := fun u s' ⟨_, _, _, _, _, _, _, _, _, _, _, _, _, _, _, _, c, fs, m, _, w⟩ => w.elim
  own := PassesOwn.never
theorem tok_blk {scope : Scope} {s : Shared} {H : Hp} {A : Addr} {cl : List (Str × Addr)} {fp : List Addr} : Tok scope (X.blk s H scope (compEnvC scope cl A X.env) fp) := by
  intro x h
  unfold ownName at h
  cases e : scope.names.lookup x with
  | none => rw [e] at h; cases h
  | some y =>
    rw [e] at h
    cases y with
    | «local» =>
      have q : (relabel scope X.env).names.lookup x = some .local := lookup_relabel_local e
      exact ⟨.inl q, .inr q⟩
    | cell =>
      refine ⟨.inr ?_, .inl ?_⟩
      · show (relS scope X.env.scope).names.lookup x = some .cell
        unfold relS
        simp only
        generalize scope.names = l at e
        induction l with
        | nil => cases e
        | cons p r ih =>
          obtain ⟨n, kd⟩ := p
          rw [List.lookup_cons] at e
          rw [List.map_cons]
          cases hb : x == n with
          | true =>
            rw [hb] at e
            cases e
            simp [List.lookup_cons, hb]
          | false =>
            rw [hb] at e
            have := ih e
            simp only at this ⊢
            split <;> (rw [List.lookup_cons, hb]; exact this)
      · show (scope.names.lookup x == some .cell) = true
        rw [e]; rfl
    | _ => cases h
end
section
variable {XR : XRel} {B : Tab} {cf : Nat → List PV → Store → R PV} {N : List Str} {sc so : Scope} {k : Nat} {W : St → WP} {X : Cx} {K : PySem.W.Frag}
theorem wipe_wipe {vs : List Nat} {σ : St} : L2.wipe (L2.wipe σ vs) vs = L2.wipe σ vs := by
  have : ∀ (ws : List Nat) (τ : St), (∀ i ∈ ws, i ∈ vs) → L2.wipe (L2.wipe τ ws) vs = L2.wipe τ vs := by
    intro ws
    induction ws with
    | nil => intro τ _; rfl
    | cons i ws ih =>
      intro τ h
      show L2.wipe ((L2.wipe τ ws).set i none) vs = _
      rw [wipe_set (h i List.mem_cons_self)]
      exact ih τ fun j hj => h j (List.mem_cons_of_mem _ hj)
  exact this vs σ fun _ h => h
theorem drop_get {α : Type} {xs : List α} {i : Nat} {x : α} (h : xs[i]? = some x) : xs.drop i = x :: xs.drop (i + 1) := by
  obtain ⟨hi, e⟩ := List.getElem?_eq_some_iff.mp h
  rw [List.drop_eq_getElem_cons hi, e]
theorem turn_eq {elt : PF.X} {own : List Nat} {tg : Tg} {ifs : List PF.X} {e e' : Env} {x : PV} {S : Store} (h : putT tg x (wipeE e own) = some e') :
    turnC cf elt own tg ifs e x S = (evC cf ifs e' S).bind fun k S => if k = true then (ev cf elt e' S).bind fun y S => .ok (some y) S else .ok none S := by
  unfold turnC evC
  rw [h, bind_assoc]
theorem lc_val {elt : PF.X} {own : List Nat} {t : Tg} {ik : IK} {its ifs : List PF.X} {g : TG} {σ : St} {H : Hp} {Q : VK} (tg : TgR K t g) (hin : tgIn own t = true)
    (h : can K W (ev cf (.comp false elt own t ik its ifs)) σ H Q) : tLc (canI K W (evI cf ik its)) g (canT K WNo (evC cf ifs)) (can K WNo (ev cf elt)) own σ H Q := by
  obtain ⟨m, e, S, re, rs, q⟩ := h
  rw [ev_comp] at q
  refine ⟨m, e, S, re, rs, q.bind fun p S1 J m1 H1 e1 rs1 wl q1 => ?_⟩
  intro D hD
  have re1 := re.up e1
  have hDm := rs1.out hD
  let P : Nat → Nat → Hp → Prop := fun i n H' => i ≤ p.1.length ∧ n = p.1.length - i ∧ ∃ (m' : Mp) (S' : Store) (acc : List PV) (vs : List V), m'.res = m1.res ∧ Ext m1 H1 m' H' ∧ Rel K S' (m'.rsv D) H' ∧ RE K (m'.rsv D) H' e σ ∧ H' D = some (.lst vs) ∧ D ∉ m'.locs ∧
    RVs K (m'.rsv D) H' acc vs ∧ acc.length ≤ i ∧ Post K (RV K) m1 H1 ((compL p.2 (turnC cf elt own t ifs e) (p.1.drop i) acc S').bind fun ys S => .ok (.lv ys) S) Q (W σ)
  refine ⟨P, ⟨p.1.length, Nat.zero_le _, by simp, m1, S1, [], [], rfl, Ext.laid hD, rs1.rsv hD, re1.via fun _ _ z => RV.rsvM hD _ _ z, upd_same, out_locs hDm, .nil, Nat.le_refl _, q1⟩, ?_⟩
  rintro i n H' ⟨hi, hn, m', S', acc, vs, hres, ex, rs', re', hDv, hDl, ra, hacc, hq⟩
  have lat : Lat m1 H1 (m'.rsv D) H' := ⟨ex.pre, fun a ha => by
    rcases List.mem_cons.mp ha with z | z
    · exact .inr (by rw [z]; exact hD)
    · exact .inl (by rw [← hres]; exact z), ex.keep, ex.new⟩
  cases hx : p.1[i]? with
  | none =>
    have hd : p.1.drop i = [] := List.drop_eq_nil_of_le (List.getElem?_eq_none_iff.mp hx)
    rw [hd, compL] at hq
    by_cases hg : grdOk p.2 S' = true
    · rw [if_pos hg] at hq
      refine .inl ⟨(wl.2 i _ S' H' lat rs' hg).2 hx, hq _ m' H' ex rs'.unrsv (.lv (Nat.le_trans hacc (Nat.le_trans hi wl.1)) (fun z => ?_) hDv (RVs.unM _ _ ra))⟩
      rcases Mp.mem.mp z with z | z
      · exact hDl z
      · rw [hres] at z; exact out_res hDm z
    · rw [if_neg hg] at hq; exact hq.elim
  | some y =>
    rw [drop_get hx, compL] at hq
    by_cases hg : grdOk p.2 S' = true
    · rw [if_pos hg] at hq
      obtain ⟨go, yl⟩ := (wl.2 i _ S' H' lat rs' hg).1 y hx
      have hlt : i < p.1.length := (List.getElem?_eq_some_iff.mp hx).1
      refine .inr ⟨go, fun H2 => P (i + 1) (p.1.length - (i + 1)) H2, fun H2 z => ⟨_, by omega, z⟩, fun v H2 hy => ?_⟩
      obtain ⟨e2, rs2, rv⟩ := yl v H2 hy
      have re2 : RE K (m'.rsv D) H2 (wipeE e own) (L2.wipe σ own) := (re'.up e2).wipe own
      cases hp : putT t y (wipeE e own) with
      | none =>
        have : turnC cf elt own t ifs e y S' = .bad := by unfold turnC; rw [hp]
        rw [this] at hq
        exact hq.elim
      | some e' =>
        rw [turn_eq hp] at hq
        refine tg _ H2 _ e' _ y v _ re2 rv hp fun σ' re3 hw => ⟨by rw [hw own hin, wipe_wipe], _, e', S', re3, rs2, ?_⟩
        have D2 : ∀ {m3 : Mp} {H3 : Hp}, Ext (m'.rsv D) H2 m3 H3 → H3 D = some (.lst vs) := fun f => f.keep D _ hDl (e2.keep D _ hDl hDv)
        have again : ∀ {m3 : Mp} {H3 : Hp} {S3 : Store} {acc' : List PV} {vs' : List V} , Ext (m'.rsv D) H2 m3 H3 → Rel K S3 m3 H3 → RVs K m3 H3 acc' vs' → acc'.length ≤ i + 1 →
            Post K (RV K) m1 H1 ((compL p.2 (turnC cf elt own t ifs e) (p.1.drop (i + 1)) acc' S3).bind fun ys S => .ok (.lv ys) S) Q (W σ) → P (i + 1) (p.1.length - (i + 1)) (upd H3 D (.lst vs')) := by
          intro m3 H3 S3 acc' vs' f r3 rv3 hl hq3
          obtain ⟨locs3, res3⟩ := m3
          have hr : res3 = D :: m'.res := f.res
          subst hr
          have f' : Ext m' H2 ⟨locs3, m'.res⟩ H3 := f.unrsv
          have e2' : Ext m' H' m' H2 := ⟨e2.pre, rfl, e2.keep, e2.new⟩
          have dn : D ∉ locs3 := fun z => by
            have z2 := f.new D z hDl
            rw [e2.keep D _ hDl hDv] at z2
            cases z2
          have r3' : Rel K S3 ((⟨locs3, m'.res⟩ : Mp).rsv D) H3 := r3
          refine ⟨hlt, rfl, ⟨locs3, m'.res⟩, S3, acc', vs', hres, ((ex.trans e2').trans f').beside hD, r3'.setAside dn, (((re'.up e2).up f).via fun _ _ z => RV.setM (m := ⟨locs3, m'.res⟩) _ _ z), upd_same, dn, RVs.setM (m := ⟨locs3, m'.res⟩) _ _ rv3, hl, hq3⟩
        cases hc : evC cf ifs e' S' with
        | bad => rw [hc] at hq; exact hq.elim
        | exc c fs S3 => rw [hc] at hq; exact hq.elim
        | ok b S3 =>
          rw [hc] at hq
          intro b' m3 H3 e3 rs3 eb
          have eb : b = b' := eb
          subst eb
          cases b with
          | false =>
            have hq : Post K (RV K) m1 H1 ((compL p.2 (turnC cf elt own t ifs e) (p.1.drop (i + 1)) acc S3).bind fun ys S => .ok (.lv ys) S) Q (W σ) := hq
            have z := again e3 rs3 ((ra.up e2).up e3) (Nat.le_succ_of_le hacc) hq
            have eH : upd H3 D (.lst vs) = H3 := by
              funext a
              by_cases ea : a = D
              · rw [ea, upd_same, D2 e3]
              · exact upd_ne ea
            rw [eH] at z
            exact z
          | true =>
            refine ⟨m3, e', S3, re3.up e3, rs3, ?_⟩
            cases hz : ev cf elt e' S3 with
            | bad => simp only [hz, R.bind_ok, if_true, R.bind_bad] at hq; exact hq.elim
            | exc c fs S4 => simp only [hz, R.bind_ok, if_true, R.bind_exc] at hq; exact hq.elim
            | ok w S4 =>
              simp only [hz, R.bind_ok, if_true] at hq
              intro zv m4 H4 e4 rs4 rz
              refine ⟨vs, D2 (e3.trans e4), ?_, ?_⟩
              · rw [← ra.length]
                exact Nat.lt_of_le_of_lt hacc (Nat.lt_of_lt_of_le hlt wl.1)
              · exact again (e3.trans e4) rs4 ((((ra.up e2).up e3).up e4).append (.cons rz .nil)) (by rw [List.length_append, List.length_singleton]; omega) hq
    · rw [if_neg hg] at hq; exact hq.elim
theorem lc_obj {elt : PF.X} {own : List Nat} {t : Tg} {ik : IK} {its ifs : List PF.X} {g : TG} {σ : St} {H : Hp} {Q : VK} (tg : TgR K t g) (hin : tgIn own t = true)
    (h : can K W (ev cf (.comp true elt own t ik its ifs)) σ H Q) : tLc (canI K W (evI cf ik its)) g (canT K WNo (evC cf ifs)) (can K WNo (ev cf elt)) own σ H Q := by
  obtain ⟨m, e, S, re, rs, q⟩ := h
  rw [ev_comp] at q
  refine ⟨m, e, S, re, rs, q.bind fun p S1 J m1 H1 e1 rs1 wl q1 => ?_⟩
  intro D hD
  have re1 := re.up e1
  have x0 : Ext m1 H1 (m1.add D) (upd H1 D (.lst [])) := Ext.laidIn hD
  have hloc : (m1.add D).locs[S1.length]? = some D := by show (m1.locs ++ [D])[S1.length]? = some D; rw [rs1.len]; simp
  have q1 : Post K (RV K) m1 H1 (compM p.2 S1.length (turnC cf elt own t ifs e) p.1 (S1 ++ [PO.lst []])) Q (W σ) := q1
  let P : Nat → Nat → Hp → Prop := fun i n H' => i ≤ p.1.length ∧ n = p.1.length - i ∧ ∃ (m' : Mp) (S' : Store), Ext (m1.add D) (upd H1 D (.lst [])) m' H' ∧ Rel K S' m' H' ∧ RE K m' H' e σ ∧
    Post K (RV K) m1 H1 (compM p.2 S1.length (turnC cf elt own t ifs e) (p.1.drop i) S') Q (W σ)
  refine ⟨P, ⟨p.1.length, Nat.zero_le _, by simp, m1.add D, S1 ++ [PO.lst []], Ext.refl, rs1.push hD ⟨Nat.zero_le _, [], upd_same, .nil⟩, re1.up x0, q1⟩, ?_⟩
  rintro i n H' ⟨hi, hn, m', S', ex, rs', re', hq⟩
  have hDm : m'.locs[S1.length]? = some D := ex.get hloc
  have ex1 := x0.trans ex
  cases hx : p.1[i]? with
  | none =>
    have hd : p.1.drop i = [] := List.drop_eq_nil_of_le (List.getElem?_eq_none_iff.mp hx)
    rw [hd, compM] at hq
    by_cases hg : grdOk p.2 S' = true
    · rw [if_pos hg] at hq
      exact .inl ⟨(wl.2 i _ S' H' ex1.lat rs' hg).2 hx, hq _ m' H' ex1 rs' (.loc hDm)⟩
    · rw [if_neg hg] at hq; exact hq.elim
  | some y =>
    rw [drop_get hx, compM] at hq
    by_cases hg : grdOk p.2 S' = true
    · rw [if_pos hg] at hq
      obtain ⟨go, yl⟩ := (wl.2 i _ S' H' ex1.lat rs' hg).1 y hx
      have hlt : i < p.1.length := (List.getElem?_eq_some_iff.mp hx).1
      refine .inr ⟨go, fun H2 => P (i + 1) (p.1.length - (i + 1)) H2, fun H2 z => ⟨_, by omega, z⟩, fun v H2 hy => ?_⟩
      obtain ⟨e2, rs2, rv⟩ := yl v H2 hy
      have re2 : RE K m' H2 (wipeE e own) (L2.wipe σ own) := (re'.up e2).wipe own
      cases hp : putT t y (wipeE e own) with
      | none =>
        have : turnC cf elt own t ifs e y S' = .bad := by unfold turnC; rw [hp]
        rw [this] at hq
        exact hq.elim
      | some e' =>
        rw [turn_eq hp] at hq
        refine tg _ H2 _ e' _ y v _ re2 rv hp fun σ' re3 hw => ⟨by rw [hw own hin, wipe_wipe], _, e', S', re3, rs2, ?_⟩
        cases hc : evC cf ifs e' S' with
        | bad => rw [hc] at hq; exact hq.elim
        | exc c fs S3 => rw [hc] at hq; exact hq.elim
        | ok b S3 =>
          rw [hc] at hq
          intro b' m3 H3 e3 rs3 eb
          have eb : b = b' := eb
          subst eb
          cases b with
          | false => exact ⟨hlt, rfl, m3, S3, (ex.trans e2).trans e3, rs3, (re'.up e2).up e3, hq⟩
          | true =>
            refine ⟨m3, e', S3, re3.up e3, rs3, ?_⟩
            cases hz : ev cf elt e' S3 with
            | bad => simp only [hz, R.bind_ok, if_true, R.bind_bad] at hq; exact hq.elim
            | exc c fs S4 => simp only [hz, R.bind_ok, if_true, R.bind_exc] at hq; exact hq.elim
            | ok w S4 =>
              simp only [hz, R.bind_ok, if_true] at hq
              intro zv m4 H4 e4 rs4 rz
              have hD4 : m4.locs[S1.length]? = some D := e4.get (e3.get hDm)
              cases ho : S4[S1.length]? with
              | none => rw [ho] at hq; exact hq.elim
              | some o =>
                rw [ho] at hq
                have ro := rs4.at ho hD4
                cases o with
                | lst acc =>
                  obtain ⟨hl, vs, h1, h2⟩ := ro
                  simp only at hq
                  by_cases hlen : acc.length < sizeLine
                  · rw [if_pos hlen] at hq
                    have ch : Ext m4 H4 m4 (upd H4 D (.lst (vs ++ [zv]))) := Ext.changed (mem_of_get hD4)
                    refine ⟨vs, h1, by rw [← h2.length]; exact hlen, hlt, rfl, m4, _, (((ex.trans e2).trans e3).trans e4).trans ch, rs4.change (u := .lst (acc ++ [w])) hD4 ⟨?_, _, upd_same, (h2.append (.cons rz .nil)).up ch⟩, ((((re'.up e2).up e3).up e4).up ch), hq⟩
                    rw [List.length_append, List.length_singleton]; omega
                  · rw [if_neg hlen] at hq; exact hq.elim
                | _ => exact hq.elim
    · rw [if_neg hg] at hq; exact hq.elim
/-- the parts of a comprehension -/
structure SndC (XR : XRel) (B : Tab) (cf : Nat → List PV → Store → R PV) (N : List Str) (k : Nat) (sc scope : Scope) (elt tg iter : Expr) (ifs : List Expr) (x : PF.X) (t : Tg) (ik : IK) (its cs : List PF.X) : Prop where
  blk : blkC N sc scope (ownOf N scope) = true
  few : ifs.length ≤ 1
  noset : noSet iter = true
  it : SndI XR B cf N k sc tg iter ik its
  tg : trTg N scope tg = some t
  own : tgIn ((ownOf N scope).map (·.2)) t = true
  ifs : SndL XR B cf N k (relS scope sc) ifs cs
  elt : Snd XR B cf N k (relS scope sc) elt x
theorem lc_read {l : Bool} {elt : PF.X} {own : List Nat} {t : Tg} {ik : IK} {its ifs : List PF.X} {g : TG} {σ : St} {H : Hp} {Q : VK} (tg : TgR K t g) (hin : tgIn own t = true)
    (h : can K W (ev cf (.comp l elt own t ik its ifs)) σ H Q) : tLc (canI K W (evI cf ik its)) g (canT K WNo (evC cf ifs)) (can K WNo (ev cf elt)) own σ H Q := by
  cases l with
  | true => exact lc_obj tg hin h
  | false => exact lc_val tg hin h
theorem snd_comp {l : Bool} {elt tg iter : Expr} {ifs : List Expr} {scope : Scope} {pos : Pos} {x : PF.X} {t : Tg} {ik : IK} {its cs : List PF.X} (h : SndC XR B cf N k sc scope elt tg iter ifs x t ik its cs) :
    Snd XR B cf N k sc (.ListComp elt [⟨tg, iter, ifs, 0⟩] scope pos) (.comp l x ((ownOf N scope).map (·.2)) t ik its cs) := by
  refine snd_plain rfl (fun _ _ _ => nofun) fun W X C => ?_
  exact pe_imp (pe_lc (own := ownOf N scope) (g := tgG X.K t) C.calm (by rw [C.names]; exact C.nd) (h.it W X C) (by rw [C.names, C.scope]; exact blkOk_by h.blk)
    (fun s H A cl fp => pg_of (cok_blk C) tok_blk h.tg) (fun s H A cl fp => pts_of (cok_blk C) h.ifs h.few) (fun s H A cl fp => (h.elt WNo _ (cok_blk C)).1) (folded_plain h.noset)) fun σ H Q q => lc_read (tgG_read t) h.own q
/-- name = [..], on one line -/
theorem ps_comp (C : Cok XR B cf N sc k W X) {i : Nat} {y : Str} {py : Pos} {l : Bool} {elt tg iter : Expr} {ifs : List Expr} {scope : Scope} {pos spos : Pos} {x : PF.X} {t : Tg} {ik : IK} {its cs : List PF.X} (h : SndC XR B cf N k sc scope elt tg iter ifs x t ik its cs)
    (hi : slotOf N y = some i) (hy : sc.names.lookup y = some .local) (hsw : swapsWith (.ListComp elt [⟨tg, iter, ifs, 0⟩] scope pos) (some (.Name y py)) spos.line X.env = pure true) :
    PS X (.Assign [.Name y py] (.ListComp elt [⟨tg, iter, ifs, 0⟩] scope pos) spos) (tAsg (can X.K W (ev cf (.comp l x ((ownOf N scope).map (·.2)) t ik its cs))) (gName i)) :=
  ps_imp (ps_setLc (own := ownOf N scope) (g := tgG X.K t) C.calm (by rw [C.names]; exact C.nd) (by rw [C.names]; exact slot_get hi) (by rw [C.scope]; exact hy) hsw (h.it W X C) (by rw [C.names, C.scope]; exact blkOk_by h.blk)
    (fun s H A cl fp => pg_of (cok_blk C) tok_blk h.tg) (fun s H A cl fp => pts_of (cok_blk C) h.ifs h.few) (fun s H A cl fp => (h.elt WNo _ (cok_blk C)).1) (folded_plain h.noset)) fun D σ H q => lc_read (tgG_read t) h.own q
end
/-! ### dict displays -/
section
variable {K : PySem.W.Frag} {m : Mp} {H : Hp} {p : Addr} {o : HO}
theorem rsv_add {a : Addr} (n : a ∉ m.rsv p) : a ∉ m.add p := fun z => n (by
  rcases Mp.mem.mp z with z | z
  · rcases List.mem_append.mp (show a ∈ m.locs ++ [p] from z) with z | z
    · exact Mp.mem.mpr (.inl z)
    · exact Mp.mem.mpr (.inr (by rw [List.mem_singleton.mp z]; exact List.mem_cons_self))
  · exact Mp.mem.mpr (.inr (List.mem_cons_of_mem _ z)))
theorem rsv_ne {a : Addr} (n : a ∉ m.rsv p) : a ≠ p := fun z => out_res n (by rw [z]; exact List.mem_cons_self)
mutual
theorem RV.adopt : ∀ (x : PV) (v : V), RV K (m.rsv p) H x v → RV K (m.add p) (upd H p o) x v
  | _, _, .non => .non
  | _, _, .bl b => .bl b
  | _, _, .int i => .int i
  | _, _, .str x h => .str x h
  | _, _, .tup hl (.inl ⟨n, q⟩) r => .tup hl (.inl ⟨rsv_add n, by rw [upd_ne (rsv_ne n)]; exact q⟩) (RVs.adopt _ _ r)
  | _, _, .tup hl (.inr q) r => .tup hl (.inr q) (RVs.adopt _ _ r)
  | _, _, .lv hl n q r => .lv hl (rsv_add n) (by rw [upd_ne (rsv_ne n)]; exact q) (RVs.adopt _ _ r)
  | .loc n, _, .loc h => .loc (by
    have h : m.locs[n]? = some _ := h
    show (m.locs ++ [p])[n]? = _
    rw [List.getElem?_append_left (List.getElem?_eq_some_iff.mp h).1]
    exact h)
  | _, _, .fz hl (.inl ⟨n, u, q⟩) r => .fz hl (.inl ⟨rsv_add n, u, by rw [upd_ne (rsv_ne n)]; exact q⟩) (RVs.adopt _ _ r)
  | _, _, .fz hl (.inr q) r => .fz hl (.inr q) (RVs.adopt _ _ r)
  | _, _, .dv hl n q r => .dv hl (rsv_add n) (by rw [upd_ne (rsv_ne n)]; exact q) (RVs.adopt _ _ r)
  | _, _, .iv hl n q hC r => .iv hl (rsv_add n) (by rw [upd_ne (rsv_ne n)]; exact q) hC (RVs.adopt _ _ r)
theorem RVs.adopt : ∀ (x : List PV) (v : List V), RVs K (m.rsv p) H x v → RVs K (m.add p) (upd H p o) x v
  | _, _, .nil => .nil
  | _, _, .cons r t => .cons (RV.adopt _ _ r) (RVs.adopt _ _ t)
end
theorem KVr.adopt {κ : Type} : ∀ {x : List (κ × PV)} {v : List (κ × V)}, KVr K (m.rsv p) H x v → KVr K (m.add p) (upd H p o) x v
  | _, _, .nil => .nil
  | _, _, .cons r t => .cons (RV.adopt _ _ r) (KVr.adopt t)
theorem Rel.adopt {S : Store} {u : PO} (r : Rel K S (m.rsv p) H) (hp : p ∉ m.locs) (hu : RO K (m.add p) (upd H p o) u p) : Rel K (S ++ [u]) (m.add p) (upd H p o) := by
  have hlen : S.length = m.locs.length := r.len
  refine ⟨by simp [hlen, Mp.add], ?_, fun i v a hs ha => ?_, fun a ha => ?_⟩
  · show (m.locs ++ [p]).Nodup
    rw [List.nodup_append]
    refine ⟨r.nd, by simp, fun a ha b hb => ?_⟩
    have e : b = p := by simpa using hb
    rw [e]
    intro z
    rw [z] at ha
    exact hp ha
  · have ha : (m.locs ++ [p])[i]? = some a := ha
    by_cases hi : i < S.length
    · rw [List.getElem?_append_left hi] at hs
      rw [List.getElem?_append_left (by rw [← hlen]; exact hi)] at ha
      refine (r.obj i v a hs ha).upW (fun _ _ z => RV.adopt _ _ z) (upd_ne fun z => hp (by rw [← z]; exact List.mem_of_getElem? ha))
    · have e : i = S.length := by
        have := (List.getElem?_eq_some_iff.mp hs).1
        simp at this
        omega
      subst e
      rw [List.getElem?_append_right (Nat.le_refl _)] at hs
      rw [List.getElem?_append_right (by rw [hlen]; exact Nat.le_refl _)] at ha
      simp [hlen] at hs ha
      subst hs ha
      exact hu
  · by_cases z : a = p
    · exact ⟨o, by rw [z, upd_same]⟩
    · obtain ⟨u, e⟩ := r.aside a (List.mem_cons_of_mem _ ha)
      exact ⟨u, by rw [upd_ne z]; exact e⟩
end
section
variable {XR : XRel} {B : Tab} {cf : Nat → List PV → Store → R PV} {N : List Str} {sc : Scope} {k : Nat} {W : St → WP} {X : Cx} {K : PySem.W.Frag}
inductive SndP (XR : XRel) (B : Tab) (cf : Nat → List PV → Store → R PV) (N : List Str) (k : Nat) (sc : Scope) : List (Option Expr) → List Expr → List PF.X → Prop
  | nil : SndP XR B cf N k sc [] [] []
  | cons {a b : Expr} {x y : PF.X} {ks : List (Option Expr)} {vs : List Expr} {xs : List PF.X} (ha : Snd XR B cf N k sc a x) (hb : Snd XR B cf N k sc b y) (t : SndP XR B cf N k sc ks vs xs) : SndP XR B cf N k sc (some a :: ks) (b :: vs) (x :: y :: xs)
def trsOf (K : PySem.W.Frag) (cf : Nat → List PV → Store → R PV) : List PF.X → List (TE × TE)
  | x :: y :: r => (can K WNo (ev cf x), can K WNo (ev cf y)) :: trsOf K cf r
  | _ => []
theorem pps_of (C : Cok XR B cf N sc k WNo X) {pos : Pos} {ks : List (Option Expr)} {vs : List Expr} {xs : List PF.X} (h : SndP XR B cf N k sc ks vs xs) : PPs X pos ks vs (trsOf X.K cf xs) := by
  induction h with
  | nil => exact pps_nil
  | cons ha hb t ih => exact pps_cons (ha WNo X C).1 (hb WNo X C).1 ih
def flat2 : List (V × V) → List V
  | [] => []
  | (a, b) :: r => a :: b :: flat2 r
theorem pairs_read {ks : List (Option Expr)} {vs : List Expr} {xs : List PF.X} (h : SndP XR B cf N k sc ks vs xs) : ∀ {m : Mp} {H : Hp} {e : Env} {S : Store} {σ : St} {Q : List V → Hp → Prop} {Q' : List (V × V) → Hp → Prop}, RE K m H e σ → Rel K S m H → Post K (RVs K) m H (evs cf xs e S) Q (WNo σ) →
    (∀ ps H', Q (flat2 ps) H' → Q' ps H') → tPairs (trsOf K cf xs) σ H Q' := by
  induction h with
  | nil => intro m H e S σ Q Q' re rs q hq; exact hq [] _ (q [] m H Ext.refl rs .nil)
  | @cons a b x y ks vs xs ha hb t ih =>
    intro m H e S σ Q Q' re rs q hq
    have q : Post K (RVs K) m H ((ev cf x e S).bind fun v S => (ev cf y e S).bind fun u S => (evs cf xs e S).bind fun vs S => .ok (v :: u :: vs) S) Q (WNo σ) := by
      rw [evs] at q
      simp only [evs, bind_assoc, R.bind_ok] at q
      exact q
    refine ⟨m, e, S, re, rs, q.bind fun v S1 z1 m1 H1 e1 rs1 r1 q1 => ⟨m1, e, S1, re.up e1, rs1, q1.bind fun u S2 z2 m2 H2 e2 rs2 r2 q2 => ?_⟩⟩
    exact ih (Q := fun zs H' => Q (z1 :: z2 :: zs) H') ((re.up e1).up e2) rs2 (q2.bind fun ws S3 zs m3 H3 e3 rs3 r3 q3 => q3 _ m3 H3 Ext.refl rs3 (.cons ((r1.up e2).up e3) (.cons (r2.up e3) r3))) fun ps H' hz => hq _ _ hz
theorem dicOf_rv {m : Mp} {H : Hp} : ∀ {vs : List PV} {kvs : List (Key × PV)} {ps : List (V × V)}, dicOf vs = some kvs → RVs K m H vs (flat2 ps) → ∃ kv2 : List (Key × V), ps = kv2.map (fun kv => (kV kv.1, kv.2)) ∧ KVr K m H kvs kv2
  | [], kvs, [], e, _ => by cases e; exact ⟨[], rfl, .nil⟩
  | [], _, (_, _) :: _, _, r => by cases r
  | [_], _, _, e, _ => by cases e
  | _ :: _ :: _, _, [], _, r => by cases r
  | a :: b :: vs, kvs, (x, y) :: ps, e, r => by
    rw [dicOf] at e
    cases hk : keyOf a with
    | none => rw [hk] at e; cases e
    | some key =>
      cases ht : dicOf vs with
      | none => rw [hk, ht] at e; cases e
      | some rest =>
        rw [hk, ht] at e
        cases e
        cases r with
        | cons ra t =>
          cases t with
          | cons rb t =>
            obtain ⟨kv2, h1, h2⟩ := dicOf_rv ht t
            refine ⟨(key, y) :: kv2, ?_, .cons rb h2⟩
            rw [List.map_cons, ← h1, keyOf_rv ra hk]
theorem KVr.merge {m : Mp} {H : Hp} {kvs : List (Key × PV)} {kv2 : List (Key × V)} (r : KVr K m H kvs kv2) : ∀ {d : List (Key × PV)} {d2 : List (Key × V)}, KVr K m H d d2 → KVr K m H (kvs.foldl (fun d kv => putP d kv.1 kv.2) d) (mergeK d2 kv2) := by
  induction r with
  | nil => intro d d2 h; exact h
  | cons r t ih => intro d d2 h; exact ih (KVr.put r h)
theorem snd_dic {ks : List (Option Expr)} {vs : List Expr} {xs : List PF.X} {pos : Pos} {l : Bool} (h : SndP XR B cf N k sc ks vs xs) (h0 : ks ≠ []) (h15 : ks.length ≤ 15) : Snd XR B cf N k sc (.Dict ks vs pos) (.dic l xs) := by
  refine snd_plain rfl (fun _ _ _ => nofun) fun W X C => ?_
  have C' : Cok XR B cf N sc k WNo X := { C with tk := fun u s' ⟨_, _, _, _, _, _, _, _, _, _, _, _, _, _, _, _, c, fs, m, _, w⟩ => w.elim }
  have hall : ks.all (·.isSome) = true ∧ ks.length = vs.length := by
    clear h0 h15
    induction h with
    | nil => exact ⟨rfl, rfl⟩
    | cons _ _ _ ih => exact ⟨by rw [List.all_cons, ih.1]; rfl, by rw [List.length_cons, List.length_cons, ih.2]⟩
  refine pe_imp (pe_disp (pps_of C' h) hall.1 hall.2 h0 h15) fun σ H Q ⟨m, e, S, re, rs, q⟩ => ?_
  have q : Post X.K (RV X.K) m H ((evs cf xs e S).only.bind fun vs S => dicNew l vs S) Q (W σ) := by rw [ev] at q; exact q
  intro p hp
  have hpm := rs.out hp
  refine pairs_read (K := X.K) (m := m.rsv p) (H := upd H p (.dK [])) h (re.via fun _ _ z => RV.rsvM hp _ _ z) (rs.rsv hp) (Q := fun us H2 => ∀ ps, us = flat2 ps → H2 p = some (.dK []) ∧ ∃ kvs : List (Key × V), ps = kvs.map (fun kv => (kV kv.1, kv.2)) ∧ kvs.length ≤ 15 ∧ Q (.ref p) (upd H2 p (.dK (mergeK [] kvs)))) ?_ fun ps H' hz => hz ps rfl
  · cases hv : evs cf xs e S with
    | ok us S1 =>
      rw [hv] at q
      have q : Post X.K (RV X.K) m H (dicNew l us S1) Q (W σ) := q
      intro us2 m2 H2 f rs2 rv ps hps
      subst hps
      unfold dicNew at q
      cases hd : dicOf us with
      | none => rw [hd] at q; exact q.elim
      | some kvs =>
        rw [hd] at q
        simp only at q
        by_cases hl : kvs.length ≤ 15
        · rw [if_pos hl] at q
          obtain ⟨kv2, h1, h2⟩ := dicOf_rv hd rv
          obtain ⟨locs2, res2⟩ := m2
          have hr : res2 = p :: m.res := f.res
          subst hr
          have hpl : p ∉ m.locs := out_locs hpm
          have hp2 : H2 p = some (.dK []) := f.keep p _ hpl upd_same
          have dn : p ∉ locs2 := fun z => by
            have z2 := f.new p z hpl
            rw [upd_same] at z2
            cases z2
          cases l with
          | false =>
            obtain ⟨w1, w2⟩ := (h2.merge (d := []) (d2 := []) .nil).vals
            refine ⟨hp2, kv2, h1, by rw [← h2.length]; exact hl, q (.ref p) ⟨locs2, m.res⟩ _ ⟨f.pre, rfl, fun a o n h => ?_, fun a h n => ?_⟩ (Rel.setAside (m := ⟨locs2, m.res⟩) rs2 dn).unrsv (.dv (by simp) (fun z => ?_) (by rw [← w2]; exact upd_same) (RVs.unM (m := ⟨locs2, m.res⟩) (p := p) _ _ (RVs.setM _ _ w1)))⟩
            · have ne : a ≠ p := ne_of_none h hp
              rw [upd_ne ne]
              exact f.keep a o n (by rw [upd_ne ne]; exact h)
            · have z2 := f.new a h n
              have ne : a ≠ p := fun y => dn (by rw [← y]; exact h)
              rw [upd_ne ne] at z2
              exact z2
            · rcases Mp.mem.mp z with z | z
              · exact dn z
              · exact out_res hpm z
          | true =>
          refine ⟨hp2, kv2, h1, by rw [← h2.length]; exact hl, q (.ref p) ((⟨locs2, m.res⟩ : Mp).add p) _ ⟨?_, rfl, fun a o n h => ?_, fun a h n => ?_⟩ (Rel.adopt (m := ⟨locs2, m.res⟩) rs2 dn ⟨_, upd_same, KVr.adopt (m := ⟨locs2, m.res⟩) (h2.merge .nil)⟩) (.loc ?_)⟩
          · obtain ⟨more, hm⟩ := f.pre
            exact ⟨more ++ [p], by show locs2 ++ [p] = _; rw [show locs2 = m.locs ++ more from hm]; simp⟩
          · have ne : a ≠ p := ne_of_none h hp
            rw [upd_ne ne]
            exact f.keep a o n (by rw [upd_ne ne]; exact h)
          · rcases List.mem_append.mp (show a ∈ locs2 ++ [p] from h) with z | z
            · have z2 := f.new a z n
              have ne : a ≠ p := fun y => dn (by rw [← y]; exact z)
              rw [upd_ne ne] at z2
              exact z2
            · rw [List.mem_singleton.mp z]; exact hp
          · show (locs2 ++ [p])[S1.length]? = some p
            rw [show S1.length = locs2.length from rs2.len]
            simp
        · rw [if_neg hl] at q; exact q.elim
    | exc c fs S1 => rw [hv] at q; exact q.elim
    | bad => rw [hv] at q; exact q.elim
end
end L2.PF

set_option Elab.async false
set_option linter.all false
set_option maxRecDepth 100000
set_option maxHeartbeats 4000000
/-! PFL: every part that is translated keeps its promise; statements. -/
namespace L2.PF
open PySem PySem.Spec PyProof.Rows
section
variable {XR : XRel} {B : Tab} {cf : Nat → List PV → Store → R PV} {N : List Str} {sc so : Scope} {k : Nat} {W : St → WP} {X : Cx} {K : PySem.W.Frag}
theorem snd_it {rec : Expr → Option PF.X} (hr : ∀ e x, rec e = some x → Snd XR B cf N k sc e x) {tg iter : Expr} {ik : IK} {its : List PF.X} (h : trIt B sc rec tg iter = some (ik, its)) : SndI XR B cf N k sc tg iter ik its := by
  have seq : ∀ {e : Expr}, (rec e).map (fun y => (IK.seq, [y])) = some (ik, its) → SndI XR B cf N k sc tg e ik its := by
    intro e h
    obtain ⟨y, hy, e2⟩ := map_some h
    cases e2
    exact sndI_seq (hr _ _ hy)
  cases iter with
  | Call f as ks pos =>
    cases f with
    | Name x p =>
      cases ks with
      | nil =>
        rw [trIt] at h
        by_cases h1 : (isB B sc x && decide (x = ("range" : Str))) = true
        · rw [if_pos h1] at h
          rw [Bool.and_eq_true] at h1
          have ex : x = ("range" : Str) := of_decide_eq_true h1.2
          subst ex
          by_cases h2 : (as.all noStar && decide (as.length = 1)) = true
          · rw [if_pos h2] at h
            obtain ⟨xs, hx, e2⟩ := map_some h
            cases e2
            rw [Bool.and_eq_true] at h2
            match as, h2, hx with
            | [a], h2, hx =>
              have hl := snd_list hr hx
              cases hl with
              | cons ha t =>
                cases t
                exact sndI_rng1 h1.1 (by simpa using h2.1) ha
            | [], h2, _ => exact absurd (of_decide_eq_true h2.2) (by simp)
            | _ :: _ :: _, h2, _ => exact absurd (of_decide_eq_true h2.2) (by simp)
          · rw [if_neg h2] at h
            by_cases h3 : (as.all noStar && decide (as.length = 2)) = true
            · rw [if_pos h3] at h
              obtain ⟨xs, hx, e2⟩ := map_some h
              cases e2
              rw [Bool.and_eq_true] at h3
              match as, h3, hx with
              | [a, b], h3, hx =>
                have hl := snd_list hr hx
                cases hl with
                | cons ha t =>
                  cases t with
                  | cons hb t =>
                    cases t
                    have hs : noStar a = true ∧ noStar b = true := by simpa using h3.1
                    exact sndI_rng2 h1.1 hs.1 hs.2 ha hb
              | [], h3, _ => exact absurd (of_decide_eq_true h3.2) (by simp)
              | [_], h3, _ => exact absurd (of_decide_eq_true h3.2) (by simp)
              | _ :: _ :: _ :: _, h3, _ => exact absurd (of_decide_eq_true h3.2) (by simp)
            · rw [if_neg h3] at h; cases h
        · rw [if_neg h1] at h
          by_cases h1 : (isB B sc x && decide (x = ("enumerate" : Str))) = true
          · rw [if_pos h1] at h
            rw [Bool.and_eq_true] at h1
            have ex : x = ("enumerate" : Str) := of_decide_eq_true h1.2
            subst ex
            obtain ⟨h2, h⟩ := ite_some h
            obtain ⟨xs, hx, e2⟩ := map_some h
            cases e2
            simp only [Bool.and_eq_true] at h2
            match as, h2, hx with
            | [a], h2, hx =>
              have hl := snd_list hr hx
              cases hl with
              | cons ha t =>
                cases t
                cases tg with
                | Tuple es j p => exact sndI_enum h1.1 (by simpa using h2.1.2) ha
                | _ => cases h2.1.1
            | [], h2, _ => exact absurd (of_decide_eq_true h2.2) (by simp)
            | _ :: _ :: _, h2, _ => exact absurd (of_decide_eq_true h2.2) (by simp)
          · rw [if_neg h1] at h
            by_cases h1 : (isB B sc x && decide (x = ("zip" : Str))) = true
            · rw [if_pos h1] at h
              rw [Bool.and_eq_true] at h1
              have ex : x = ("zip" : Str) := of_decide_eq_true h1.2
              subst ex
              obtain ⟨h2, h⟩ := ite_some h
              obtain ⟨xs, hx, e2⟩ := map_some h
              cases e2
              simp only [Bool.and_eq_true] at h2
              match as, h2, hx with
              | [a, b], h2, hx =>
                have hl := snd_list hr hx
                cases hl with
                | cons ha t =>
                  cases t with
                  | cons hb t =>
                    cases t
                    have hs : noStar a = true ∧ noStar b = true := by simpa using h2.1.2
                    cases tg with
                    | Tuple es j p => exact sndI_zip h1.1 hs.1 hs.2 ha hb
                    | _ => cases h2.1.1
              | [], h2, _ => exact absurd (of_decide_eq_true h2.2) (by simp)
              | [_], h2, _ => exact absurd (of_decide_eq_true h2.2) (by simp)
              | _ :: _ :: _ :: _, h2, _ => exact absurd (of_decide_eq_true h2.2) (by simp)
            · rw [if_neg h1] at h
              exact seq h
      | cons _ _ =>
        rw [trIt] at h
        · obtain ⟨_, h⟩ := ite_some h
          exact seq h
        · exact fun _ _ _ _ z => by cases z
    | _ =>
      rw [trIt] at h
      · obtain ⟨_, h⟩ := ite_some h
        exact seq h
      · exact fun _ _ _ _ z => by cases z
  | _ =>
    rw [trIt] at h
    · obtain ⟨_, h⟩ := ite_some h
      exact seq h
    · exact fun _ _ _ _ z => by cases z
theorem bltOf_zero {l : Bool} {y : Str} : bltOf l y ([] : List Expr).length = none := by
  unfold bltOf
  simp only [List.length_nil, Nat.zero_ne_one, if_false, (by decide : ¬ (0 : Nat) = 2)]
  repeat (first | rfl | split)
theorem snd_call {rec : Expr → Option PF.X} (hr : ∀ e x, rec e = some x → Snd XR B cf N k sc e x) {y : Str} {p pos : Pos} {as : List Expr} {x : PF.X} (h : trCall B sc rec y as pos = some x) : Snd XR B cf N k sc (.Call (.Name y p) as [] pos) x := by
  unfold trCall at h
  by_cases h0 : (oddName y || !isGlobal sc y || !as.all noStar) = true
  · rw [if_pos h0] at h; cases h
  rw [if_neg h0] at h
  simp only [Bool.not_eq_true, Bool.or_eq_false_iff, Bool.not_eq_false'] at h0
  obtain ⟨⟨ho, hg⟩, hs⟩ := h0
  cases hf : B.fns.lookup y with
  | some p2 =>
    obtain ⟨f, np⟩ := p2
    rw [hf] at h
    obtain ⟨hl, h⟩ := ite_some h
    obtain ⟨xs, hx, rfl⟩ := map_some h
    simp only [Bool.and_eq_true, decide_eq_true_eq] at hl
    cases as with
    | nil => simp at hl; omega
    | cons a as => exact snd_fn ho hg hs hf hl.1 (snd_list hr hx)
  | none =>
    rw [hf] at h
    simp only at h
    by_cases hb : (!B.bls.contains y) = true
    · rw [if_pos hb] at h; cases h
    rw [if_neg hb] at h
    have hb : B.bls.contains y = true := by simpa using hb
    by_cases hi : y = ("isinstance" : Str)
    · rw [if_pos hi] at h
      subst hi
      match as, h, hs with
      | [a, t], h, hs =>
        have hn : noStar a = true := by
          rw [List.all_cons, Bool.and_eq_true] at hs
          exact hs.1
        cases t with
        | Tuple ts j tp =>
          simp only at h
          cases h1 : rec a with
          | none => rw [h1] at h; cases h
          | some z =>
            cases h2 : trL (trType B sc) ts with
            | none => rw [h1, h2] at h; cases h
            | some cs =>
              rw [h1, h2] at h
              obtain ⟨hl, h⟩ := ite_some h
              cases h
              exact snd_isiT hn hg hb (hr _ _ h1) hl h2
        | Name x p =>
          simp only at h
          cases h1 : rec a with
          | none => rw [h1] at h; cases h
          | some z =>
            cases h2 : trType B sc (.Name x p) with
            | none => rw [h1, h2] at h; cases h
            | some c => rw [h1, h2] at h; cases h; exact snd_isi1 hn hg hb (hr _ _ h1) h2
        | _ =>
          simp only [trType] at h
          cases h1 : rec a <;> (rw [h1] at h; cases h)
      | [], h, _ => cases h
      | [_], h, _ => cases h
      | _ :: t :: _ :: _, h, _ => cases t <;> cases h
    · rw [if_neg hi] at h
      cases h1 : bltOf (lays B pos) y as.length with
      | none => rw [h1] at h; cases h
      | some b =>
        rw [h1] at h
        obtain ⟨xs, hx, rfl⟩ := map_some h
        cases as with
        | nil =>
          rw [bltOf_zero] at h1
          cases h1
        | cons a as => exact snd_blt ho hg hs hb h1 (snd_list hr hx)
theorem snd_meth {rec : Expr → Option PF.X} (hr : ∀ e x, rec e = some x → Snd XR B cf N k sc e x) {o : Expr} {m : Str} {apos cpos : Pos} {as : List Expr} {x : PF.X} (h : trMeth B rec o m apos as cpos = some x) : Snd XR B cf N k sc (.Call (.Attribute o m apos) as [] cpos) x := by
  unfold trMeth at h
  obtain ⟨h0, h⟩ := ite_some h
  simp only [Bool.and_eq_true] at h0
  cases h1 : mthOf m as.length with
  | none => rw [h1] at h; cases h
  | some b =>
    cases h2 : rec o with
    | none => rw [h1, h2] at h; cases h
    | some y =>
      cases h3 : trL rec as with
      | none => rw [h1, h2, h3] at h; cases h
      | some xs =>
        rw [h1, h2, h3] at h
        cases h
        exact snd_mth h0.1.1.1 h0.1.1.2 h0.1.2 (of_decide_eq_true h0.2) h1 (hr _ _ h2) (snd_list hr h3)
theorem snd_opt {rec : Expr → Option PF.X} (hr : ∀ e x, rec e = some x → Snd XR B cf N k sc e x) {o : Option Expr} {x : PF.X} (h : optX rec o = some x) : SndO XR B cf N k sc o x := by
  cases o with
  | none => cases h; exact .none
  | some e =>
    obtain ⟨y, hy, rfl⟩ := map_some (show (rec e).map .num = some x from h)
    exact .some (hr _ _ hy)
theorem two_some {α β γ : Type} {o : Option α} {u : Option β} {f : α → β → γ} {c : γ} (h : (match o, u with | some x, some y => some (f x y) | _, _ => none) = some c) : ∃ x y, o = some x ∧ u = some y ∧ f x y = c := by
  cases o with
  | none => cases h
  | some x =>
    cases u with
    | none => cases h
    | some y => exact ⟨x, y, rfl, rfl, Option.some.inj h⟩
theorem three_some {α β γ δ : Type} {o : Option α} {u : Option β} {w : Option δ} {f : α → β → δ → γ} {c : γ} (h : (match o, u, w with | some x, some y, some z => some (f x y z) | _, _, _ => none) = some c) : ∃ x y z, o = some x ∧ u = some y ∧ w = some z ∧ f x y z = c := by
  cases o with
  | none => cases h
  | some x =>
    cases u with
    | none => cases h
    | some y =>
      cases w with
      | none => cases h
      | some z => exact ⟨x, y, z, rfl, rfl, rfl, Option.some.inj h⟩
theorem comp_some {own : List Nat} {l : Bool} {a : Option (IK × List PF.X)} {b : Option Tg} {c : Option (List PF.X)} {d : Option PF.X} {x : PF.X} (h : trComp own l a b c d = some x) :
    ∃ ik its t cs y, a = some (ik, its) ∧ b = some t ∧ c = some cs ∧ d = some y ∧ tgIn own t = true ∧ x = .comp l y own t ik its cs := by
  cases a with
  | none => cases h
  | some a =>
    obtain ⟨ik, its⟩ := a
    cases b with
    | none => cases h
    | some t =>
      cases c with
      | none => cases h
      | some cs =>
        cases d with
        | none => cases h
        | some y =>
          obtain ⟨hc, h⟩ := ite_some (show (if tgIn own t = true then some (PF.X.comp l y own t ik its cs) else none) = some x from h)
          cases h
          exact ⟨ik, its, t, cs, y, rfl, rfl, rfl, rfl, hc, rfl⟩
/-- the parts of a comprehension that is translated -/
theorem sndC_of {n : Nat} (ih : ∀ sc e x, tr B N n sc e = some x → Snd XR B cf N k sc e x) {elt tg iter : Expr} {ifs : List Expr} {scope : Scope} {pos : Pos} {x : PF.X} (h : tr B N (n + 1) sc (.ListComp elt [⟨tg, iter, ifs, 0⟩] scope pos) = some x) :
    ∃ y t ik its cs, SndC XR B cf N k sc scope elt tg iter ifs y t ik its cs ∧ x = .comp (lays B pos) y ((ownOf N scope).map (·.2)) t ik its cs := by
  rw [tr] at h
  obtain ⟨h0, h⟩ := ite_some h
  simp only [Bool.and_eq_true, decide_eq_true_eq] at h0
  obtain ⟨ik, its, t, cs, y, e1, e2, e3, e4, e5, rfl⟩ := comp_some h
  exact ⟨y, t, ik, its, cs, ⟨h0.1.1, h0.1.2, h0.2, snd_it (fun e x hx => ih sc e x hx) e1, e2, e5, snd_list (fun e x hx => ih _ e x hx) e3, ih _ _ _ e4⟩, rfl⟩
theorem kv_of {rec : Expr → Option PF.X} (hr : ∀ e x, rec e = some x → Snd XR B cf N k sc e x) : ∀ {ks : List (Option Expr)} {vs : List Expr} {xs : List PF.X}, trKV rec ks vs = some xs → SndP XR B cf N k sc ks vs xs
  | [], [], _, h => by cases h; exact .nil
  | [], _ :: _, _, h => by cases h
  | none :: _, vs, _, h => by cases vs <;> cases h
  | some _ :: _, [], _, h => by cases h
  | some a :: ks, b :: vs, xs, h => by
    rw [trKV] at h
    cases h1 : rec a with
    | none => rw [h1] at h; cases h
    | some x =>
      cases h2 : rec b with
      | none => rw [h1, h2] at h; cases h
      | some y =>
        cases h3 : trKV rec ks vs with
        | none => rw [h1, h2, h3] at h; cases h
        | some r => rw [h1, h2, h3] at h; cases h; exact .cons (hr _ _ h1) (hr _ _ h2) (kv_of hr h3)
theorem snd_tr : ∀ (n : Nat) (sc : Scope) (e : Expr) (x : PF.X), tr B N n sc e = some x → Snd XR B cf N k sc e x
  | 0, _, _, _, h => by rw [tr] at h; cases h
  | n + 1, sc, e, x, h => by
    have ih := snd_tr n
    have ihs := fun e x => ih sc e x
    rw [tr.eq_def] at h
    simp only at h
    split at h
    · exact snd_const h
    · exact snd_name h
    · exact snd_one (ihs _ _ h)
    · rename_i op a b r pos
      cases h1 : tr B N n sc a with
      | none => rw [h1] at h; cases h
      | some y =>
        cases h2 : tr B N n sc (.BoolOp op (b :: r) pos) with
        | none => rw [h1, h2] at h; cases h
        | some z =>
          rw [h1, h2] at h
          cases op with
          | And => cases h; exact snd_and (ihs _ _ h1) (ihs _ _ h2)
          | Or => cases h; exact snd_or (ihs _ _ h1) (ihs _ _ h2)
    · obtain ⟨y, hy, rfl⟩ := map_some h
      exact snd_not (ihs _ _ hy)
    · obtain ⟨y, hy, rfl⟩ := map_some h
      exact snd_neg (ihs _ _ hy)
    · rename_i a op b pos
      cases h1 : tr B N n sc a with
      | none => rw [h1] at h; cases h
      | some y =>
        cases h2 : tr B N n sc b with
        | none => rw [h1, h2] at h; cases h
        | some z =>
          rw [h1, h2] at h
          cases h
          exact snd_bin (ihs _ _ h1) (ihs _ _ h2)
    · rename_i c a b pos
      cases h0 : tr B N n sc c with
      | none => rw [h0] at h; cases h
      | some c' =>
        cases h1 : tr B N n sc a with
        | none => rw [h0, h1] at h; cases h
        | some y =>
          cases h2 : tr B N n sc b with
          | none => rw [h0, h1, h2] at h; cases h
          | some z =>
            rw [h0, h1, h2] at h
            cases h
            exact snd_ite (ihs _ _ h0) (ihs _ _ h1) (ihs _ _ h2)
    · rename_i a op b pos
      obtain ⟨hs, h⟩ := ite_some h
      cases h1 : tr B N n sc a with
      | none => rw [h1] at h; cases h
      | some y =>
        cases h2 : tr B N n sc b with
        | none => rw [h1, h2] at h; cases h
        | some z =>
          rw [h1, h2] at h
          cases h
          exact snd_cmp hs (ihs _ _ h1) (ihs _ _ h2)
    · rename_i a o1 o2 b c pos
      obtain ⟨hs, h⟩ := ite_some h
      rw [Bool.and_eq_true] at hs
      cases h0 : tr B N n sc a with
      | none => rw [h0] at h; cases h
      | some c' =>
        cases h1 : tr B N n sc b with
        | none => rw [h0, h1] at h; cases h
        | some y =>
          cases h2 : tr B N n sc c with
          | none => rw [h0, h1, h2] at h; cases h
          | some z =>
            rw [h0, h1, h2] at h
            cases h
            exact snd_chn hs.2 (ihs _ _ h0) (ihs _ _ h1) (ihs _ _ h2)
    · obtain ⟨hs, h⟩ := ite_some h
      obtain ⟨y, hy, rfl⟩ := map_some h
      exact snd_tup hs (snd_list ihs hy)
    · obtain ⟨hs, h⟩ := ite_some h
      obtain ⟨y, hy, rfl⟩ := map_some h
      exact snd_lst hs (snd_list ihs hy)
    · rename_i ks vs pos
      by_cases he : (ks.isEmpty && vs.isEmpty) = true
      · rw [if_pos he] at h
        cases h
        rw [Bool.and_eq_true] at he
        obtain rfl := List.isEmpty_iff.mp he.1
        obtain rfl := List.isEmpty_iff.mp he.2
        exact snd_dic0
      · rw [if_neg he] at h
        obtain ⟨hl, h⟩ := ite_some h
        obtain ⟨xs, hx, rfl⟩ := map_some h
        refine snd_dic (kv_of ihs hx) (fun z => ?_) (of_decide_eq_true hl)
        subst z
        cases vs with
        | nil => exact he rfl
        | cons _ _ => cases hx
    · rename_i a lo hi p2 pos
      cases h0 : tr B N n sc a with
      | none => rw [h0] at h; cases h
      | some c' =>
        cases h1 : optX (tr B N n sc) lo with
        | none => rw [h0, h1] at h; cases h
        | some y =>
          cases h2 : optX (tr B N n sc) hi with
          | none => rw [h0, h1, h2] at h; cases h
          | some z =>
            rw [h0, h1, h2] at h
            cases h
            exact snd_sl (ihs _ _ h0) (snd_opt ihs h1) (snd_opt ihs h2)
    · rename_i a b pos hno
      obtain ⟨hs, h⟩ := ite_some h
      cases h1 : tr B N n sc a with
      | none => rw [h1] at h; cases h
      | some y =>
        cases h2 : tr B N n sc b with
        | none => rw [h1, h2] at h; cases h
        | some z =>
          rw [h1, h2] at h
          cases h
          exact snd_ix hs (ihs _ _ h1) (ihs _ _ h2)
    · exact snd_call ihs h
    · exact snd_meth ihs h
    · rename_i elt tg iter ifs scope pos
      have h' : tr B N (n + 1) sc (.ListComp elt [⟨tg, iter, ifs, 0⟩] scope pos) = some x := by rw [tr]; exact h
      obtain ⟨y, t, ik, its, cs, hc, rfl⟩ := sndC_of ih h'
      exact snd_comp hc
    · cases h
end
end L2.PF

set_option Elab.async false
set_option linter.all false
set_option maxRecDepth 100000
set_option maxHeartbeats 4000000
/-! PFM: statements. -/
namespace L2.PF
open PySem PySem.Spec PyProof.Rows
/-! ### the translation -/
def isLocal (sc : Scope) (x : Str) : Bool := match sc.names.lookup x with
  | some .local => true
  | _ => false
/-- name = [..] on one line -/
def swC (sc : Scope) (y : Str) (py : Pos) : Expr → Bool
  | .ListComp _ [⟨_, _, _, 0⟩] scope pos => (sc.kind == .function) && isLocal sc y && (py.line == pos.line) && !(scope.names.any fun (n, k) => n == y && (k == .local || k == .cell))
  | _ => false
def isStr : Expr → Bool
  | .Constant (.str _) _ _ => true
  | _ => false
/-- x, y = a, b -/
def parOk (sc : Scope) (x y : Str) (px py : Pos) (a b : Expr) : Bool :=
  (sc.kind == .function) && noStar a && noStar b && isLocal sc x && isLocal sc y && (py.line == px.line) && !(x == y) && !(foldedForSure 8 a && foldedForSure 8 b) && !(constantsAlone 8 a && constantsAlone 8 b)
def two {α β γ : Type} (f : α → β → γ) : Option α → Option β → Option γ
  | some a, some b => some (f a b)
  | _, _ => none
def three {α β δ γ : Type} (f : α → β → δ → γ) : Option α → Option β → Option δ → Option γ
  | some a, some b, some c => some (f a b c)
  | _, _, _ => none
def four {α β δ ε γ : Type} (f : α → β → δ → ε → γ) : Option α → Option β → Option δ → Option ε → Option γ
  | some a, some b, some c, some d => some (f a b c d)
  | _, _, _, _ => none
theorem two_ok {α β γ : Type} {f : α → β → γ} {a : Option α} {b : Option β} {c : γ} (h : two f a b = some c) : ∃ x y, a = some x ∧ b = some y ∧ c = f x y := by
  cases a with
  | none => cases h
  | some x =>
    cases b with
    | none => cases h
    | some y => cases h; exact ⟨x, y, rfl, rfl, rfl⟩
theorem three_ok {α β δ γ : Type} {f : α → β → δ → γ} {a : Option α} {b : Option β} {d : Option δ} {c : γ} (h : three f a b d = some c) : ∃ x y z, a = some x ∧ b = some y ∧ d = some z ∧ c = f x y z := by
  cases a with
  | none => cases h
  | some x =>
    cases b with
    | none => cases h
    | some y =>
      cases d with
      | none => cases h
      | some z => cases h; exact ⟨x, y, z, rfl, rfl, rfl, rfl⟩
theorem four_ok {α β δ ε γ : Type} {f : α → β → δ → ε → γ} {a : Option α} {b : Option β} {d : Option δ} {e : Option ε} {c : γ} (h : four f a b d e = some c) : ∃ x y z u, a = some x ∧ b = some y ∧ d = some z ∧ e = some u ∧ c = f x y z u := by
  cases a with
  | none => cases h
  | some x =>
    cases b with
    | none => cases h
    | some y =>
      cases d with
      | none => cases h
      | some z =>
        cases e with
        | none => cases h
        | some u => cases h; exact ⟨x, y, z, u, rfl, rfl, rfl, rfl, rfl⟩
def trPar (N : List Str) (sc : Scope) (rec : Expr → Option X) : List Expr → Expr → Option Sm
  | [.Name x px, .Name y py], .Tuple [a, b] _ _ => if parOk sc x y px py a b then four (fun i j a b => .par i j a b) (slotOf N x) (slotOf N y) (rec a) (rec b) else none
  | _, _ => none
def trAsg (N : List Str) (sc : Scope) (rec : Expr → Option X) (e : Expr) : Expr → Option Sm
  | .Name y py => if ownName sc y && (noComp e || swC sc y py e) then two (fun i x => .set (.n i) x) (slotOf N y) (rec e) else none
  | .Tuple es k p => if isTuple e then trPar N sc rec es e else if noComp e then two .set (trTg N sc (.Tuple es k p)) (rec e) else none
  | .Subscript o i _ => if noSlice i then three .setix (rec o) (rec i) (rec e) else none
  | _ => none
def augOk : Operator → Bool
  | .Add => true
  | .Sub => true
  | _ => false
def trS (B : Tab) (N : List Str) (sc : Scope) : Nat → Stmt → Option Sm
  | 0, _ => none
  | n + 1, st => match st with
    | .Pass _ => some .pass
    | .Break _ => some .brk
    | .Continue _ => some .cnt
    | .Expr e _ => if isStr e then some .pass else if noComp e then (tr B N n sc e).map .ex else none
    | .Return none _ => some (.ret (.c .non))
    | .Return (some e) _ => (tr B N n sc e).map .ret
    | .If c a b _ => three .ite (tr B N n sc c) (trL (trS B N sc n) a) (trL (trS B N sc n) b)
    | .While c b [] _ => two .whl (tr B N n sc c) (trL (trS B N sc n) b)
    | .For tg it b [] _ => if noSet it then three (fun t ki b => .forS t ki.1 ki.2 b) (trTg N sc tg) (trIt B sc (tr B N n sc) tg it) (trL (trS B N sc n) b) else none
    | .Assign [tg] e _ => trAsg N sc (tr B N n sc) e tg
    | .AugAssign (.Name x _) op e _ => if ownName sc x && augOk op then two (fun i x => .aug i op x) (slotOf N x) (tr B N n sc e) else none
    | _ => none

/-! ### what a statement promises -/
def PostS (K : PySem.W.Frag) (W : St → WP) (m : Mp) (H : Hp) (r : SR) (D : Ends) : Prop :=
  match r with
  | .nx e S => ∀ σ m' H', Ext m H m' H' → Rel K S m' H' → RE K m' H' e σ → D.nx σ H'
  | .bk e S => ∀ σ m' H', Ext m H m' H' → Rel K S m' H' → RE K m' H' e σ → D.bk σ H'
  | .ct e S => ∀ σ m' H', Ext m H m' H' → Rel K S m' H' → RE K m' H' e σ → D.ct σ H'
  | .rt v S => ∀ x m' H', Ext m H m' H' → Rel K S m' H' → RV K m' H' v x → D.rt x H'
  | .exc c fs e S => ∀ σ m' H', Ext m H m' H' → Rel K S m' H' → RE K m' H' e σ → W σ c fs m' H'
  | .bad => False
def canS (K : PySem.W.Frag) (W : St → WP) (f : Env → Store → SR) : TS := fun D σ H => ∃ m e S, RE K m H e σ ∧ Rel K S m H ∧ PostS K W m H (f e S) D
section
variable {K : PySem.W.Frag} {W : St → WP} {m m' : Mp} {H H' : Hp} {D D' : Ends} {r : SR}
theorem PostS.up (x : Ext m H m' H') (h : PostS K W m H r D) : PostS K W m' H' r D := by
  cases r with
  | bad => exact h
  | _ => exact fun a m2 H2 f q v => h a m2 H2 (x.trans f) q v
theorem PostS.step {α β : Type} {rel : Mp → Hp → α → β → Prop} {r : R α} {e : Env} {σ : St} {f : α → Store → SR} {Q1 : β → Hp → Prop} (re : RE K m H e σ) (h : PostS K W m H (r.toS e f) D)
    (k : ∀ a S1 x m1 H1, Ext m H m1 H1 → Rel K S1 m1 H1 → rel m1 H1 a x → PostS K W m1 H1 (f a S1) D → Q1 x H1) : Post K rel m H r Q1 (W σ) := by
  cases r with
  | ok a S => exact fun x m1 H1 e q v => k a S x m1 H1 e q v (PostS.up e h)
  | exc c fs S => exact fun m1 H1 x q => h σ m1 H1 x q (re.up x)
  | bad => exact h
theorem PostS.pass {α : Type} {o : Option α} {S : Store} {e : Env} {f : α → Store → SR} (h : PostS K W m H ((R.ofO o S).toS e f) D) : ∃ a, o = some a ∧ PostS K W m H (f a S) D := by
  cases o with
  | none => exact h.elim
  | some a => exact ⟨a, rfl, h⟩
theorem PostS.seq {f : Env → Store → SR} (h : PostS K W m H (r.then f) D) : PostS K W m H r { D with nx := canS K W f D } := by
  cases r with
  | nx e S => exact fun σ m1 H1 x q re => ⟨m1, e, S, re, q, PostS.up x h⟩
  | _ => exact h
theorem PostS.nxt {e : Env} {S : Store} {σ : St} (h : PostS K W m H (.nx e S) D) (rs : Rel K S m H) (re : RE K m H e σ) : D.nx σ H := h σ m H Ext.refl rs re
end
section
variable {XR : XRel} {B : Tab} {cf : Nat → List PV → Store → R PV} {N : List Str} {sc : Scope} {k : Nat} {W : St → WP} {X : Cx}
/-- a statement's promise -/
def SndS (XR : XRel) (B : Tab) (cf : Nat → List PV → Store → R PV) (N : List Str) (k : Nat) (sc : Scope) (st : Stmt) (x : Sm) : Prop :=
  ∀ (W : St → WP) (X : Cx), Cok XR B cf N sc k W X → Tok sc X → PS X st (canS X.K W (PF.ex cf x))
inductive SndSs (XR : XRel) (B : Tab) (cf : Nat → List PV → Store → R PV) (N : List Str) (k : Nat) (sc : Scope) : List Stmt → List Sm → Prop
  | nil : SndSs XR B cf N k sc [] []
  | cons {e : Stmt} {x : Sm} {es : List Stmt} {xs : List Sm} (h : SndS XR B cf N k sc e x) (t : SndSs XR B cf N k sc es xs) : SndSs XR B cf N k sc (e :: es) (x :: xs)
theorem snds_list {f : Stmt → Option Sm} (hf : ∀ e x, f e = some x → SndS XR B cf N k sc e x) : ∀ {es : List Stmt} {xs : List Sm}, trL f es = some xs → SndSs XR B cf N k sc es xs
  | [], xs, h => by cases h; exact .nil
  | e :: es, xs, h => by
    rw [trL] at h
    cases h1 : f e with
    | none => rw [h1] at h; cases h
    | some y =>
      rw [h1] at h
      cases h2 : trL f es with
      | none => rw [h2] at h; cases h
      | some ys => rw [h2] at h; cases h; exact .cons (hf e y h1) (snds_list hf h2)
theorem pss_of (C : Cok XR B cf N sc k W X) (T : Tok sc X) : ∀ {es : List Stmt} {xs : List Sm}, SndSs XR B cf N k sc es xs → PSs X es (canS X.K W (exs cf xs))
  | _, _, .nil => pss_imp pss_nil fun D σ H ⟨m, e, S, re, rs, q⟩ => by
    rw [exs] at q
    exact q.nxt rs re
  | e :: es, _, .cons (x := x) (xs := xs) h t => by
    refine pss_imp (pss_cons (h W X C T) (pss_of C T t)) fun D σ H ⟨m, e, S, re, rs, q⟩ => ?_
    rw [exs] at q
    exact ⟨m, e, S, re, rs, q.seq⟩
/-! ### each -/
theorem sp_pass {p : Pos} : SndS XR B cf N k sc (.Pass p) .pass := fun W X C T => ps_imp ps_pass fun D σ H ⟨m, e, S, re, rs, q⟩ => by
  rw [PF.ex] at q
  exact q.nxt rs re
theorem sp_brk {p : Pos} : SndS XR B cf N k sc (.Break p) .brk := fun W X C T => ps_imp ps_break fun D σ H ⟨m, e, S, re, rs, q⟩ => by
  rw [PF.ex] at q
  exact q σ m H Ext.refl rs re
theorem sp_cnt {p : Pos} : SndS XR B cf N k sc (.Continue p) .cnt := fun W X C T => ps_imp ps_continue fun D σ H ⟨m, e, S, re, rs, q⟩ => by
  rw [PF.ex] at q
  exact q σ m H Ext.refl rs re
theorem sp_doc {e : Expr} {p : Pos} (h : isStr e = true) : SndS XR B cf N k sc (.Expr e p) .pass := fun W X C T => by
  cases e with
  | Constant c j p =>
    cases c with
    | str x =>
      exact ps_imp ps_doc fun D σ H ⟨m, e, S, re, rs, q⟩ => by
        rw [PF.ex] at q
        exact q.nxt rs re
    | _ => cases h
  | _ => cases h
theorem sp_ex {e : Expr} {x : PF.X} {p : Pos} (hs : noComp e = true) (h : Snd XR B cf N k sc e x) : SndS XR B cf N k sc (.Expr e p) (.ex x) := fun W X C T =>
  ps_imp (ps_expr (h W X C).1 (swaps_plain hs _ _)) fun D σ H ⟨m, e, S, re, rs, q⟩ => by
    rw [PF.ex] at q
    exact ⟨m, e, S, re, rs, q.step re fun v S1 z m1 H1 e1 rs1 r1 q1 => q1.nxt rs1 (re.up e1)⟩
theorem sp_retN {p : Pos} : SndS XR B cf N k sc (.Return none p) (.ret (.c .non)) := fun W X C T => ps_imp ps_retN fun D σ H ⟨m, e, S, re, rs, q⟩ => by
  simp only [PF.ex, ev, R.toS_ok] at q
  exact q .non m H Ext.refl rs .non
theorem sp_ret {e : Expr} {x : PF.X} {p : Pos} (h : Snd XR B cf N k sc e x) : SndS XR B cf N k sc (.Return (some e) p) (.ret x) := fun W X C T =>
  ps_imp (ps_ret (h W X C).1) fun D σ H ⟨m, e, S, re, rs, q⟩ => by
    rw [PF.ex] at q
    exact ⟨m, e, S, re, rs, q.step re fun v S1 z m1 H1 e1 rs1 r1 q1 => q1 z m1 H1 Ext.refl rs1 r1⟩
theorem sp_if {c : Expr} {x : PF.X} {a b : List Stmt} {u v : List Sm} {p : Pos} (h : Snd XR B cf N k sc c x) (ha : SndSs XR B cf N k sc a u) (hb : SndSs XR B cf N k sc b v) : SndS XR B cf N k sc (.If c a b p) (.ite x u v) := fun W X C T =>
  ps_imp (ps_if (h W X C).2.1 (pss_of C T ha) (pss_of C T hb)) fun D σ H ⟨m, e, S, re, rs, q⟩ => by
    have q : PostS X.K W m H ((evT cf x e S).toS e fun k S => if k = true then exs cf u e S else exs cf v e S) D := by
      rw [PF.ex] at q
      unfold evT
      cases hv : ev cf x e S with
      | ok v S1 =>
        rw [hv] at q
        simp only [R.bind_ok]
        exact q
      | _ => rw [hv] at q; exact q
    refine ⟨m, e, S, re, rs, q.step re fun d S1 z m1 H1 e1 rs1 r1 q1 => ?_⟩
    cases r1
    cases d with
    | true => exact ⟨m1, e, S1, re.up e1, rs1, q1⟩
    | false => exact ⟨m1, e, S1, re.up e1, rs1, q1⟩
theorem sp_set {y : Str} {py p : Pos} {i : Nat} {e : Expr} {x : PF.X} (ho : ownName sc y = true) (hi : slotOf N y = some i) (hs : noComp e = true) (h : Snd XR B cf N k sc e x) : SndS XR B cf N k sc (.Assign [.Name y py] e p) (.set (.n i) x) := fun W X C T =>
  ps_imp (ps_set (i := i) (by rw [C.names]; exact C.nd) (by rw [C.names]; exact slot_get hi) (T y ho).1 (h W X C).1 (swaps_plain hs _ _) (T y ho).2) fun D σ H ⟨m, e, S, re, rs, q⟩ => by
    rw [PF.ex] at q
    exact ⟨m, e, S, re, rs, q.step re fun v S1 z m1 H1 e1 rs1 r1 q1 => q1.nxt rs1 ((re.up e1).set r1 i)⟩
theorem sp_tup {es : List Expr} {kk : Nat} {tp p : Pos} {t : Tg} {e : Expr} {x : PF.X} (ht : trTg N sc (.Tuple es kk tp) = some t) (hs : noComp e = true) (hn : isTuple e = false) (h : Snd XR B cf N k sc e x) : SndS XR B cf N k sc (.Assign [.Tuple es kk tp] e p) (.set t x) := fun W X C T =>
  ps_imp (ps_asg (h W X C).1 (pg_of C T ht) (show swapsWith e (some (.Tuple es kk tp)) p.line X.env = _ from swaps_plain hs _ _) (by cases e <;> first | rfl | cases hn) rfl) fun D σ H ⟨m, e, S, re, rs, q⟩ => by
    rw [PF.ex] at q
    refine ⟨m, e, S, re, rs, q.step re fun v S1 z m1 H1 e1 rs1 r1 q1 => ?_⟩
    cases hp : putT t v e with
    | none => rw [hp] at q1; exact q1.elim
    | some e' =>
      rw [hp] at q1
      exact tgG_read t m1 H1 e e' σ v z _ (re.up e1) r1 hp fun σ' re' _ => q1.nxt rs1 re'
theorem swaps_sub {e o i : Expr} {sp : Pos} {l : Nat} {env : PySem.Env} : swapsWithSole [.Subscript o i sp] e l env = pure false := by
  show swapsWith e (some (.Subscript o i sp)) l env = _
  cases e <;> rfl
theorem sub_plain {o i : Expr} {sp : Pos} {env : PySem.Env} (h : noSlice i = true) : ∀ v, assign (.Subscript o i sp) env v = (do
      let ov ← holding [v] (eval o env)
      let iv ← holding [v, ov] (eval i env)
      standAt sp
      holding [v, ov, iv] (setItem ov iv v)
      release [v, ov, iv] []) := by
  cases i <;> first | (intro _; rfl) | cases h
/-- o[k] = v -/
def rSet : TSet := fun o i v H Q => rSetL o i v H Q ∨ rSetD o i v H Q
theorem set_any {X : Cx} (hu : X.A.units + 1 < cLine) : PSet X rSet := by
  intro pins s σ H o i v ov iv u Q I r1 r2 r3 h
  rcases h with h | h
  · exact set_list pins s σ H o i v ov iv u Q I r1 r2 r3 h
  · exact set_dict hu pins s σ H o i v ov iv u Q I r1 r2 r3 h
theorem setix_ok {K : PySem.W.Frag} {m : Mp} {H : Hp} {S S' : Store} {o k v : PV} {zo zk zv : V} {Q : Hp → Prop} (rs : Rel K S m H) (ro : RV K m H o zo) (rk : RV K m H k zk) (rv : RV K m H v zv) (h : setixV S o k v = some S')
    (q : ∀ H', Ext m H m H' → Rel K S' m H' → Q H') : rSet zo zk zv H Q := by
  cases o with
  | loc n =>
    cases ro with
    | loc hn =>
      rename_i a
      unfold setixV at h
      simp only at h
      cases hs : S[n]? with
      | none => rw [hs] at h; cases h
      | some u =>
        rw [hs] at h
        cases u with
        | lst xs =>
          simp only at h
          cases k with
          | int i =>
            cases rk
            simp only at h
            cases hj : ixN xs.length i with
            | none => rw [hj] at h; cases h
            | some j =>
              rw [hj] at h
              cases h
              obtain ⟨hl, vs, e1, e2⟩ := rs.at hs hn
              have xt : Ext m H m (upd H a (.lst (vs.set j zv))) := Ext.changed (mem_of_get hn)
              refine .inl ⟨a, vs, i, j, rfl, rfl, e1, by rw [← e2.length]; exact hj, q _ xt ?_⟩
              refine rs.change hn ⟨by simpa using hl, _, upd_same, (e2.set rv j).up xt⟩
          | _ => cases h
        | dic kvs =>
          simp only at h
          cases hk : keyOf k with
          | none => rw [hk] at h; cases h
          | some key =>
            rw [hk] at h
            simp only at h
            obtain ⟨hc, h⟩ := ite_some h
            cases h
            obtain ⟨vs, e1, e2⟩ := rs.at hs hn
            obtain rfl : zk = kV key := keyOf_rv rk hk
            have xt : Ext m H m (upd H a (.dK (putK vs key zv))) := Ext.changed (mem_of_get hn)
            refine .inr ⟨a, _, rfl, .k e1 (by rw [← e2.length]; exact hc), q _ xt ?_⟩
            exact rs.change hn ⟨_, upd_same, KVr.mono xt (KVr.put rv e2)⟩
        | _ => cases h
  | _ => cases h
theorem sp_sub {o i e : Expr} {spos p : Pos} {xo xi x : PF.X} (hs : noSlice i = true) (ho : Snd XR B cf N k sc o xo) (hi : Snd XR B cf N k sc i xi) (h : Snd XR B cf N k sc e x) : SndS XR B cf N k sc (.Assign [.Subscript o i spos] e p) (.setix xo xi x) := fun W X C T =>
  ps_imp (ps_asg (h W X C).1 (pg_sub (ho W X C).1 (hi W X C).1 (set_any (by have := C.hu; omega)) (sub_plain hs)) swaps_sub rfl rfl) fun D σ H ⟨m, e, S, re, rs, q⟩ => by
    rw [PF.ex] at q
    refine ⟨m, e, S, re, rs, q.step re fun v S1 z m1 H1 e1 rs1 r1 q1 => ⟨m1, e, S1, re.up e1, rs1, q1.step (re.up e1) fun o S2 z2 m2 H2 e2 rs2 r2 q2 => ⟨m2, e, S2, (re.up e1).up e2, rs2, q2.step ((re.up e1).up e2) fun i S3 z3 m3 H3 e3 rs3 r3 q3 => ?_⟩⟩⟩
    cases hp : setixV S3 o i v with
    | none => rw [hp] at q3; exact q3.elim
    | some S' =>
      rw [hp] at q3
      exact setix_ok rs3 (r2.up e3) r3 ((r1.up e2).up e3) hp fun H' xt rs' => q3 σ m3 H' xt rs' ((((re.up e1).up e2).up e3).up xt)
theorem local_ok {sc : Scope} {y : Str} (h : isLocal sc y = true) : sc.names.lookup y = some .local := by
  unfold isLocal at h
  cases e : sc.names.lookup y with
  | none => rw [e] at h; cases h
  | some u => rw [e] at h; cases u <;> first | rfl | cases h
theorem kind_ok {a : ScopeKind} (h : (a == .function) = true) : a = .function := by cases a <;> first | rfl | cases h
theorem sp_comp {y : Str} {py p pos : Pos} {i : Nat} {l : Bool} {elt tg iter : Expr} {ifs : List Expr} {scope : Scope} {x : PF.X} {t : Tg} {ik : IK} {its cs : List PF.X} (h : SndC XR B cf N k sc scope elt tg iter ifs x t ik its cs) (hi : slotOf N y = some i)
    (hs : swC sc y py (.ListComp elt [⟨tg, iter, ifs, 0⟩] scope pos) = true) :
    SndS XR B cf N k sc (.Assign [.Name y py] (.ListComp elt [⟨tg, iter, ifs, 0⟩] scope pos) p) (.set (.n i) (.comp l x ((ownOf N scope).map (·.2)) t ik its cs)) := fun W X C T => by
  have hs : ((sc.kind == .function) && isLocal sc y && (py.line == pos.line) && !(scope.names.any fun (n, k) => n == y && (k == .local || k == .cell))) = true := hs
  simp only [Bool.and_eq_true, Bool.not_eq_true'] at hs
  have hk : X.env.scope.kind = .function := by rw [C.scope]; exact kind_ok hs.1.1.1
  have hy : sc.names.lookup y = some .local := local_ok hs.1.1.2
  refine ps_imp (ps_comp (l := l) C h hi hy (sw_true hk (by rw [C.scope]; exact hy) hs.1.2 hs.2)) fun D σ H ⟨m, e, S, re, rs, q⟩ => ?_
  rw [PF.ex] at q
  exact ⟨m, e, S, re, rs, q.step re fun v S1 z m1 H1 e1 rs1 r1 q1 => q1.nxt rs1 ((re.up e1).set r1 i)⟩
theorem par_swap {sc : Scope} {env : PySem.Env} {x y : Str} {px py pt pt2 : Pos} {kt k2 : Nat} {a b : Expr} (hsc : env.scope = sc) (h : parOk sc x y px py a b = true) :
    swappedStores [.Tuple [.Name x px, .Name y py] kt pt] (.Tuple [a, b] k2 pt2) env = pure (some [x, y]) := by
  unfold parOk at h
  simp only [Bool.and_eq_true, Bool.not_eq_true', Bool.and_eq_false_imp] at h
  obtain ⟨⟨⟨⟨⟨⟨⟨⟨h1, h2⟩, h3⟩, h4⟩, h5⟩, h6⟩, h7⟩, h8⟩, h9⟩ := h
  have hb : env.blockKind = .function := by
    unfold PySem.Env.blockKind
    rw [hsc, kind_ok h1]
    rfl
  have kx : env.kindOf x = some .local := by
    show env.scope.names.lookup x = _
    rw [hsc]; exact local_ok h4
  have ky : env.kindOf y = some .local := by
    show env.scope.names.lookup y = _
    rw [hsc]; exact local_ok h5
  have hl : (px.line == px.line) = true := by simp
  have hxy : x ≠ y := fun z => by
    rw [z] at h7
    simp at h7
  have he : [x, y].eraseDups.length = 2 := by simp [List.eraseDups_cons, List.filter_cons, hxy, Ne.symm hxy]
  unfold swappedStores
  simp only [hb, kx, ky, Expr.pos, List.length_cons, List.length_nil, List.any_cons, List.any_nil, List.head?_cons, Option.map_some, Option.getD_some, List.filterMap_cons, List.filterMap_nil, h6, hl]
  refine (if_neg (by decide)).trans ?_
  refine (if_neg ?_).trans ?_
  · intro z
    rw [Bool.or_false] at z
    rcases Bool.or_eq_true _ _ ▸ z with z | z
    · cases a <;> first | (cases h2; done) | (cases z; done)
    · cases b <;> first | (cases h3; done) | (cases z; done)
  refine (if_neg ?_).trans ?_
  · intro z
    have z : ([x, y].length != 0 + 1 + 1 || [x, y].eraseDups.length != [x, y].length) = true := z
    rw [he] at z
    cases z
  refine (if_neg ?_).trans ?_
  · intro z
    simp only [List.all_cons, List.all_nil, Bool.and_true, Bool.and_eq_true] at z
    rw [h8 z.1] at z
    cases z.2
  refine (if_neg ?_).trans ?_
  · intro z
    simp only [List.all_cons, List.all_nil, Bool.and_true, Bool.and_eq_true] at z
    rw [h9 z.1] at z
    cases z.2
  rfl
theorem sp_par {x y : Str} {px py pt pt2 p : Pos} {kt k2 : Nat} {a b : Expr} {i j : Nat} {u v : PF.X} (h : parOk sc x y px py a b = true) (hi : slotOf N x = some i) (hj : slotOf N y = some j) (ha : Snd XR B cf N k sc a u) (hb : Snd XR B cf N k sc b v) :
    SndS XR B cf N k sc (.Assign [.Tuple [.Name x px, .Name y py] kt pt] (.Tuple [a, b] k2 pt2) p) (.par i j u v) := fun W X C T => by
  have h' := h
  unfold parOk at h'
  simp only [Bool.and_eq_true, Bool.not_eq_true'] at h'
  obtain ⟨⟨⟨⟨⟨⟨⟨⟨h1, h2⟩, h3⟩, h4⟩, h5⟩, h6⟩, h7⟩, h8⟩, h9⟩ := h'
  have hij : i ≠ j := fun z => by
    have a := slot_get hi
    have b := slot_get hj
    rw [z, b] at a
    cases a
    simp at h7
  refine ps_imp (ps_par (i := i) (j := j) C.calm (by rw [C.names]; exact C.nd) (by rw [C.names]; exact slot_get hi) (by rw [C.names]; exact slot_get hj) hij (by rw [C.scope]; exact local_ok h4) (by rw [C.scope]; exact local_ok h5)
    (pa_of C (.cons ha (.cons hb .nil)) (by rw [List.all_cons, List.all_cons, h2, h3]; rfl)) (par_swap C.scope h) rfl) fun D σ H ⟨m, e, S, re, rs, q⟩ => ?_
  have q : PostS X.K W m H ((evs cf [u, v] e S).toS e fun vs S => match vs with | [v, u] => .nx ((e.set i (some v)).set j (some u)) S | _ => .bad) D := by
    rw [PF.ex] at q
    simp only [evs, R.bind_ok]
    cases h1 : ev cf u e S with
    | ok v1 S1 =>
      rw [h1] at q
      simp only [R.toS_ok, R.bind_ok] at q ⊢
      cases h2 : ev cf v e S1 with
      | ok v2 S2 => rw [h2] at q; exact q
      | _ => rw [h2] at q; exact q
    | _ => rw [h1] at q; exact q
  refine ⟨m, e, S, re, rs, q.step re fun vs S1 z m1 H1 e1 rs1 r1 q1 => ?_⟩
  match vs, r1, q1 with
  | [], _, q1 => exact q1.elim
  | [_], _, q1 => exact q1.elim
  | _ :: _ :: _ :: _, _, q1 => exact q1.elim
  | [v1, v2], r1, q1 =>
    obtain ⟨z1, z2, rfl, r2, r3⟩ := rvs2 r1
    exact ⟨z1, z2, rfl, q1.nxt rs1 (((re.up e1).set r2 i).set r3 j)⟩
/-! ### x += e -/
def ipOf : Operator → TIp
  | .Add => ipI fun i j => i + j
  | .Sub => ipI fun i j => i - j
  | _ => fun _ _ _ _ => False
theorem sp_aug {y : Str} {py p : Pos} {i : Nat} {op : Operator} {e : Expr} {x : PF.X} (ho : ownName sc y = true) (hop : augOk op = true) (hi : slotOf N y = some i) (h : Snd XR B cf N k sc e x) : SndS XR B cf N k sc (.AugAssign (.Name y py) op e p) (.aug i op x) := fun W X C T => by
  have ip : PIp X op (ipOf op) := by
    cases op <;> first | exact ip_add | exact ip_sub | cases hop
  refine ps_imp (ps_aug (i := i) (by rw [C.names]; exact C.nd) (by rw [C.names]; exact slot_get hi) (T y ho).1 (h W X C).1 ip (T y ho).2) fun D σ H ⟨m, e, S, re, rs, q⟩ => ?_
  rw [PF.ex] at q
  cases hg : e[i]? with
  | none => rw [hg] at q; exact q.elim
  | some o =>
    cases o with
    | none => rw [hg] at q; exact q.elim
    | some v =>
      rw [hg] at q
      obtain ⟨z, g1, g2⟩ := re.get hg
      refine ⟨z, g1, m, e, S, re, rs, PostS.step re q fun u S1 z2 m1 H1 e1 rs1 r1 q1 => ?_⟩
      cases ha : augV op S1 v u with
      | none => rw [ha] at q1; exact q1.elim
      | some w =>
        rw [ha] at q1
        have g2' := g2.up e1
        cases op <;> first | (cases hop; done) | skip
        all_goals
          cases v <;> cases u <;> first | (cases ha; done) | skip
          cases ha
          cases g2'
          cases r1
          exact ⟨_, _, rfl, rfl, q1.nxt rs1 ((re.up e1).set (.int _) i)⟩
/-! ### loops -/
theorem sp_for {tg iter : Expr} {b : List Stmt} {p : Pos} {t : Tg} {ik : IK} {its : List PF.X} {ys : List Sm} (ht : trTg N sc tg = some t) (hn : noSet iter = true) (hi : SndI XR B cf N k sc tg iter ik its) (hb : SndSs XR B cf N k sc b ys) :
    SndS XR B cf N k sc (.For tg iter b [] p) (.forS t ik its ys) := fun W X C T => by
  refine ps_imp (ps_for C.own C.calm (hi W X C) (pg_of C T ht) (pss_of C T hb) (folded_plain hn)) fun D σ H ⟨m, e, S, re, rs, q⟩ => ?_
  have q : PostS X.K W m H ((evI cf ik its e S).toS e fun p S => forL p.2 (fun x e S => match putT t x e with | some e' => exs cf ys e' S | none => .bad) p.1 e S) D := by
    rw [PF.ex] at q
    unfold evI
    cases hv : evs cf its e S with
    | ok v S1 =>
      rw [hv] at q
      simp only [R.bind_ok]
      exact q
    | _ => rw [hv] at q; exact q
  refine ⟨m, e, S, re, rs, q.step re fun pr S1 J m1 H1 e1 rs1 wl q1 => ?_⟩
  refine ⟨fun i n σ' H' => i ≤ pr.1.length ∧ n = pr.1.length - i ∧ ∃ m' e' S', Ext m1 H1 m' H' ∧ Rel X.K S' m' H' ∧ RE X.K m' H' e' σ' ∧
      PostS X.K W m' H' (forL pr.2 (fun x e S => match putT t x e with | some e' => exs cf ys e' S | none => .bad) (pr.1.drop i) e' S') D,
    ⟨pr.1.length, Nat.zero_le _, by simp, m1, e, S1, Ext.refl, rs1, re.up e1, q1⟩, ?_⟩
  rintro i n σ' H' ⟨hi, hn, m', e', S', ex, rs', re', hq⟩
  cases hx : pr.1[i]? with
  | none =>
    have hd : pr.1.drop i = [] := List.drop_eq_nil_of_le (List.getElem?_eq_none_iff.mp hx)
    rw [hd, forL] at hq
    by_cases hg : grdOk pr.2 S' = true
    · rw [if_pos hg] at hq
      exact .inl ⟨(wl.2 i _ S' H' ex.lat rs' hg).2 hx, hq.nxt rs' re'⟩
    · rw [if_neg hg] at hq; exact hq.elim
  | some y =>
    rw [drop_get hx, forL] at hq
    by_cases hg : grdOk pr.2 S' = true
    · rw [if_pos hg] at hq
      obtain ⟨go, yl⟩ := (wl.2 i _ S' H' ex.lat rs' hg).1 y hx
      have hlt : i < pr.1.length := (List.getElem?_eq_some_iff.mp hx).1
      refine .inr ⟨go, fun σ2 H2 => (i + 1 ≤ pr.1.length ∧ pr.1.length - (i + 1) = pr.1.length - (i + 1) ∧ ∃ m' e' S', Ext m1 H1 m' H2 ∧ Rel X.K S' m' H2 ∧ RE X.K m' H2 e' σ2 ∧
          PostS X.K W m' H2 (forL pr.2 (fun x e S => match putT t x e with | some e' => exs cf ys e' S | none => .bad) (pr.1.drop (i + 1)) e' S') D), fun σ2 H2 z => ⟨_, by omega, z⟩, fun v H2 hy => ?_⟩
      obtain ⟨e2, rs2, rv⟩ := yl v H2 hy
      cases hp : putT t y e' with
      | none => rw [hp] at hq; exact hq.elim
      | some e3 =>
        rw [hp] at hq
        simp only at hq
        refine tgG_read t m' H2 e' e3 σ' y v _ (re'.up e2) rv hp fun σ3 re3 _ => ⟨m', e3, S', re3, rs2, ?_⟩
        have hq := PostS.up e2 hq
        cases hr : exs cf ys e3 S' with
        | nx e4 S4 =>
          rw [hr] at hq
          exact fun σ4 m4 H4 x4 rs4 re4 => ⟨hlt, rfl, m4, e4, S4, (ex.trans e2).trans x4, rs4, re4, PostS.up x4 hq⟩
        | ct e4 S4 =>
          rw [hr] at hq
          exact fun σ4 m4 H4 x4 rs4 re4 => ⟨hlt, rfl, m4, e4, S4, (ex.trans e2).trans x4, rs4, re4, PostS.up x4 hq⟩
        | bk e4 S4 => rw [hr] at hq; exact hq
        | rt v4 S4 => rw [hr] at hq; exact hq
        | exc c4 fs4 e4 S4 => rw [hr] at hq; exact hq
        | bad => rw [hr] at hq; exact hq
    · rw [if_neg hg] at hq; exact hq.elim
theorem sp_whl {c : Expr} {b : List Stmt} {p : Pos} {x : PF.X} {ys : List Sm} (hc : Snd XR B cf N k sc c x) (hb : SndSs XR B cf N k sc b ys) : SndS XR B cf N k sc (.While c b [] p) (.whl x ys) := fun W X C T => by
  refine ps_imp (ps_while C.own (hc W X C).2.1 (pss_of C T hb)) fun D σ H ⟨m, e, S, re, rs, q⟩ => ?_
  rw [PF.ex] at q
  refine ⟨fun n σ' H' => ∃ m' e' S', Rel X.K S' m' H' ∧ RE X.K m' H' e' σ' ∧ PostS X.K W m' H' (whlL (evT cf x) (fun e S => exs cf ys e S) n e' S') D, ⟨whlMost, m, e, S, rs, re, q⟩, ?_⟩
  rintro n σ' H' ⟨m', e', S', rs', re', hq⟩
  cases n with
  | zero => rw [whlL] at hq; exact hq.elim
  | succ n =>
    rw [whlL] at hq
    refine ⟨m', e', S', re', rs', hq.step re' fun d S1 z m1 H1 e1 rs1 r1 q1 => ?_⟩
    cases r1
    cases d with
    | false => exact PostS.nxt q1 rs1 (re'.up e1)
    | true =>
      refine ⟨fun σ2 H2 => ∃ m' e' S', Rel X.K S' m' H2 ∧ RE X.K m' H2 e' σ2 ∧ PostS X.K W m' H2 (whlL (evT cf x) (fun e S => exs cf ys e S) n e' S') D, fun σ2 H2 z => ⟨n, Nat.lt_succ_self n, z⟩, m1, e', S1, re'.up e1, rs1, ?_⟩
      rw [if_pos rfl] at q1
      cases hr : exs cf ys e' S1 with
      | nx e4 S4 =>
        rw [hr] at q1
        exact fun σ4 m4 H4 x4 rs4 re4 => ⟨m4, e4, S4, rs4, re4, PostS.up x4 q1⟩
      | ct e4 S4 =>
        rw [hr] at q1
        exact fun σ4 m4 H4 x4 rs4 re4 => ⟨m4, e4, S4, rs4, re4, PostS.up x4 q1⟩
      | bk e4 S4 => rw [hr] at q1; exact q1
      | rt v4 S4 => rw [hr] at q1; exact q1
      | exc c4 fs4 e4 S4 => rw [hr] at q1; exact q1
      | bad => rw [hr] at q1; exact q1
/-! ### the whole -/
theorem comp_form {n : Nat} {elt : Expr} {gs : List Comprehension} {scope : Scope} {pos : Pos} {x : PF.X} (h : tr B N (n + 1) sc (.ListComp elt gs scope pos) = some x) : ∃ tg iter ifs, gs = [⟨tg, iter, ifs, 0⟩] := by
  rw [tr.eq_def] at h
  simp only at h
  split at h
  all_goals first
    | (rename_i heq; cases heq; exact ⟨_, _, _, rfl⟩)
    | (rename_i heq; cases heq; done)
    | cases h
theorem par_ok {rec : Expr → Option PF.X} (hr : ∀ e x, rec e = some x → Snd XR B cf N k sc e x) {es : List Expr} {kk : Nat} {tp p : Pos} {e : Expr} {x : Sm} (h : trPar N sc rec es e = some x) : SndS XR B cf N k sc (.Assign [.Tuple es kk tp] e p) x := by
  unfold trPar at h
  split at h
  · obtain ⟨hc, h⟩ := ite_some h
    obtain ⟨i, j, u, v, h1, h2, h3, h4, rfl⟩ := four_ok h
    exact sp_par hc h1 h2 (hr _ _ h3) (hr _ _ h4)
  · cases h
theorem snd_asg {n : Nat} {e tg : Expr} {p : Pos} {x : Sm} (h : trAsg N sc (tr B N n sc) e tg = some x) : SndS XR B cf N k sc (.Assign [tg] e p) x := by
  cases tg with
  | Name y py =>
    rw [trAsg] at h
    obtain ⟨hc, h⟩ := ite_some h
    obtain ⟨i, z, h1, h2, rfl⟩ := two_ok h
    simp only [Bool.and_eq_true, Bool.or_eq_true] at hc
    rcases hc.2 with hs | hs
    · exact sp_set hc.1 h1 hs (snd_tr n sc _ _ h2)
    · cases n with
      | zero => rw [tr] at h2; cases h2
      | succ n =>
        cases e with
        | ListComp elt gs scope pos =>
          obtain ⟨tg, iter, ifs, rfl⟩ := comp_form h2
          obtain ⟨y', t, ik, its, cs, hC, rfl⟩ := sndC_of (fun sc e x hx => snd_tr n sc e x hx) h2
          exact sp_comp hC h1 hs
        | _ => cases hs
  | Tuple es kk tp =>
    rw [trAsg] at h
    cases ht : isTuple e with
    | true =>
      rw [ht, if_pos rfl] at h
      exact par_ok (snd_tr n sc) h
    | false =>
      rw [ht] at h
      simp only [Bool.false_eq_true, if_false] at h
      obtain ⟨hc, h⟩ := ite_some h
      obtain ⟨t, y, h1, h2, rfl⟩ := two_ok h
      exact sp_tup h1 hc ht (snd_tr n sc _ _ h2)
  | Subscript o i sp =>
    rw [trAsg] at h
    obtain ⟨hc, h⟩ := ite_some h
    obtain ⟨a, b, c, h1, h2, h3, rfl⟩ := three_ok h
    exact sp_sub hc (snd_tr n sc _ _ h1) (snd_tr n sc _ _ h2) (snd_tr n sc _ _ h3)
  | _ => cases h
theorem snd_trS : ∀ (n : Nat) (st : Stmt) (x : Sm), trS B N sc n st = some x → SndS XR B cf N k sc st x
  | 0, _, _, h => by rw [trS] at h; cases h
  | n + 1, st, x, h => by
    have ih := snd_trS n
    have ie := snd_tr (XR := XR) (B := B) (cf := cf) (N := N) (k := k) n sc
    rw [trS.eq_def] at h
    simp only at h
    split at h
    · cases h; exact sp_pass
    · cases h; exact sp_brk
    · cases h; exact sp_cnt
    · rename_i e p
      by_cases hs : isStr e = true
      · rw [if_pos hs] at h; cases h; exact sp_doc hs
      · rw [if_neg hs] at h
        obtain ⟨hc, h⟩ := ite_some h
        obtain ⟨y, hy, rfl⟩ := map_some h
        exact sp_ex hc (ie _ _ hy)
    · cases h; exact sp_retN
    · obtain ⟨y, hy, rfl⟩ := map_some h
      exact sp_ret (ie _ _ hy)
    · obtain ⟨c, a, b, h1, h2, h3, rfl⟩ := three_ok h
      exact sp_if (ie _ _ h1) (snds_list ih h2) (snds_list ih h3)
    · obtain ⟨c, b, h1, h2, rfl⟩ := two_ok h
      exact sp_whl (ie _ _ h1) (snds_list ih h2)
    · obtain ⟨hc, h⟩ := ite_some h
      obtain ⟨t, ⟨ik, its⟩, b, h1, h2, h3, rfl⟩ := three_ok h
      exact sp_for h1 hc (snd_it (fun e x hx => ie e x hx) h2) (snds_list ih h3)
    · exact snd_asg h
    · obtain ⟨hc, h⟩ := ite_some h
      rw [Bool.and_eq_true] at hc
      obtain ⟨i, y, h1, h2, rfl⟩ := two_ok h
      exact sp_aug hc.1 hc.2 h1 (ie _ _ h2)
    · cases h
end
end L2.PF

set_option Elab.async false
set_option linter.all false
set_option maxRecDepth 100000
set_option maxHeartbeats 4000000
/-! PFN: defs, the law's end. -/
namespace L2.PF
open PySem PySem.Spec PyProof.Rows
/-! ### what a call forgets -/
section
variable {K : PySem.W.Frag} {m m' : Mp} {H H' : Hp}
mutual
theorem RV.und : ∀ (x : PV) (v : V), RV K m H x v → PV.und m.locs.length x = true
  | _, _, .non => rfl
  | _, _, .bl _ => rfl
  | _, _, .int _ => rfl
  | _, _, .str _ _ => rfl
  | .tup xs, _, .tup _ _ r => by rw [PV.und]; exact RVs.und _ _ r
  | .lv xs, _, .lv _ _ _ r => by rw [PV.und]; exact RVs.und _ _ r
  | .fz xs, _, .fz _ _ r => by rw [PV.und]; exact RVs.und _ _ r
  | .dv ks xs, _, .dv _ _ _ r => by rw [PV.und]; exact RVs.und _ _ r
  | .iv c ns xs, _, .iv _ _ _ _ r => by rw [PV.und]; exact RVs.und _ _ r
  | .loc n, _, .loc h => by rw [PV.und]; exact decide_eq_true (List.getElem?_eq_some_iff.mp h).1
theorem RVs.und : ∀ (x : List PV) (v : List V), RVs K m H x v → PV.undL m.locs.length x = true
  | _, _, .nil => rfl
  | _, _, .cons r t => by rw [PV.undL, RV.und _ _ r, RVs.und _ _ t]; rfl
end
theorem out_cut {a : Addr} (hp : ∃ more, m'.locs = m.locs ++ more) (hr : m'.res = m.res) (h : a ∉ m') : a ∉ m := fun z => h (by
  obtain ⟨more, hm⟩ := hp
  rcases Mp.mem.mp z with z | z
  · exact Mp.mem.mpr (.inl (by rw [hm]; exact List.mem_append_left _ z))
  · exact Mp.mem.mpr (.inr (by rw [hr]; exact z)))
mutual
theorem RV.cut (hp : ∃ more, m'.locs = m.locs ++ more) (hr : m'.res = m.res) : ∀ (x : PV) (v : V), RV K m' H' x v → PV.und m.locs.length x = true → RV K m H' x v
  | _, _, .non, _ => .non
  | _, _, .bl b, _ => .bl b
  | _, _, .int i, _ => .int i
  | _, _, .str x h, _ => .str x h
  | .tup xs, _, .tup hl (.inl ⟨n, h⟩) r, u => .tup hl (.inl ⟨out_cut hp hr n, h⟩) (RVs.cut hp hr _ _ r (by rw [PV.und] at u; exact u))
  | .tup xs, _, .tup hl (.inr h) r, u => .tup hl (.inr h) (RVs.cut hp hr _ _ r (by rw [PV.und] at u; exact u))
  | .lv xs, _, .lv hl n h r, u => .lv hl (out_cut hp hr n) h (RVs.cut hp hr _ _ r (by rw [PV.und] at u; exact u))
  | .fz xs, _, .fz hl (.inl ⟨n, h⟩) r, u => .fz hl (.inl ⟨out_cut hp hr n, h⟩) (RVs.cut hp hr _ _ r (by rw [PV.und] at u; exact u))
  | .fz xs, _, .fz hl (.inr h) r, u => .fz hl (.inr h) (RVs.cut hp hr _ _ r (by rw [PV.und] at u; exact u))
  | .dv ks xs, _, .dv hl n h r, u => .dv hl (out_cut hp hr n) h (RVs.cut hp hr _ _ r (by rw [PV.und] at u; exact u))
  | .iv c ns xs, _, .iv hl n h hC r, u => .iv hl (out_cut hp hr n) h hC (RVs.cut hp hr _ _ r (by rw [PV.und] at u; exact u))
  | .loc n, _, .loc h, u => .loc (by
    rw [PV.und] at u
    obtain ⟨more, hm⟩ := hp
    rw [hm, List.getElem?_append_left (of_decide_eq_true u)] at h
    exact h)
theorem RVs.cut (hp : ∃ more, m'.locs = m.locs ++ more) (hr : m'.res = m.res) : ∀ (x : List PV) (v : List V), RVs K m' H' x v → PV.undL m.locs.length x = true → RVs K m H' x v
  | _, _, .nil, _ => .nil
  | _, _, .cons r t, u => by
    rw [PV.undL, Bool.and_eq_true] at u
    exact .cons (RV.cut hp hr _ _ r u.1) (RVs.cut hp hr _ _ t u.2)
end
theorem KVr.cut (hp : ∃ more, m'.locs = m.locs ++ more) (hr : m'.res = m.res) {κ : Type} : ∀ {x : List (κ × PV)} {v : List (κ × V)}, KVr K m' H' x v → PV.undL m.locs.length (x.map (·.2)) = true → KVr K m H' x v
  | _, _, .nil, _ => .nil
  | _, _, .cons r t, u => by
    rw [List.map_cons, PV.undL, Bool.and_eq_true] at u
    exact .cons (RV.cut hp hr _ _ r u.1) (KVr.cut hp hr t u.2)
theorem KVr.und {κ : Type} : ∀ {x : List (κ × PV)} {v : List (κ × V)}, KVr K m H x v → PV.undL m.locs.length (x.map (·.2)) = true
  | _, _, .nil => rfl
  | _, _, .cons r t => by rw [List.map_cons, PV.undL, RV.und _ _ r, KVr.und t]; rfl
theorem RO.und {o : PO} {a : Addr} (r : RO K m H o a) : PO.und m.locs.length o = true := by
  cases o with
  | lst xs => obtain ⟨_, vs, _, h⟩ := r; exact RVs.und _ _ h
  | dic kvs => obtain ⟨vs, _, h⟩ := r; exact KVr.und h
  | ins c fs => obtain ⟨C, dx, vs, _, _, h⟩ := r; exact KVr.und h
theorem RO.cut (hp : ∃ more, m'.locs = m.locs ++ more) (hr : m'.res = m.res) {o : PO} {a : Addr} (r : RO K m' H' o a) (u : PO.und m.locs.length o = true) : RO K m H' o a := by
  cases o with
  | lst xs => obtain ⟨hl, vs, h1, h2⟩ := r; exact ⟨hl, vs, h1, RVs.cut hp hr _ _ h2 u⟩
  | dic kvs => obtain ⟨vs, h1, h2⟩ := r; exact ⟨vs, h1, KVr.cut hp hr h2 u⟩
  | ins c fs => obtain ⟨C, dx, vs, h1, h2, h3⟩ := r; exact ⟨C, dx, vs, h1, h2, KVr.cut hp hr h3 u⟩
theorem zip_at {α β : Type} {xs : List α} {ys : List β} {i : Nat} {x : α} {y : β} (h1 : xs[i]? = some x) (h2 : ys[i]? = some y) : (x, y) ∈ xs.zip ys := by
  refine List.mem_of_getElem? (i := i) ?_
  rw [List.getElem?_zip_eq_some]
  exact ⟨h1, h2⟩
/-- an object that was laid since -/
theorem fresh_out {S0 S : Store} (r0 : Rel K S0 m H) (e : Ext m H m' H') (rs : Rel K S m' H') {n : Nat} {a : Addr} (hn : m.locs.length ≤ n) (h : m'.locs[n]? = some a) : a ∉ m := fun z => by
  obtain ⟨more, hm⟩ := e.pre
  have hnl : a ∉ m.locs := fun z => by
    obtain ⟨i, hi, he⟩ := List.mem_iff_getElem.mp z
    have h1 : m'.locs[i]? = some a := by rw [hm, List.getElem?_append_left hi, List.getElem?_eq_getElem hi, he]
    have := (List.getElem?_inj (List.getElem?_eq_some_iff.mp h1).1 rs.nd).mp (h1.trans h.symm)
    omega
  rcases Mp.mem.mp z with z | z
  · exact hnl z
  · obtain ⟨u, hu⟩ := r0.aside a z
    rw [e.new a (List.mem_of_getElem? h) hnl] at hu
    cases hu
section
variable {S0 S : Store}
theorem frz_get (r0 : Rel K S0 m H) (e : Ext m H m' H') (rs : Rel K S m' H') : ∀ (k : Nat) (v u : PV) (x : V), frz m.locs.length S k v = some u → RV K m' H' v x → RV K m H' u x
  | 0, v, u, x, h, _ => by rw [frz] at h; cases h
  | k + 1, v, u, x, h, r => by
    have all : ∀ (xs us : List PV) (ws : List V), mapO (frz m.locs.length S k) xs = some us → RVs K m' H' xs ws → RVs K m H' us ws := by
      intro xs
      induction xs with
      | nil => intro us ws h r; rw [mapO] at h; cases h; cases r; exact .nil
      | cons y ys ih =>
        intro us ws h r
        rw [mapO] at h
        cases h1 : frz m.locs.length S k y with
        | none => rw [h1] at h; cases h
        | some z =>
          rw [h1] at h
          cases h2 : mapO (frz m.locs.length S k) ys with
          | none => rw [h2] at h; cases h
          | some zs =>
            rw [h2] at h
            cases h
            cases r with
            | cons r t => exact .cons (frz_get r0 e rs k y z _ h1 r) (ih _ _ h2 t)
    have len : ∀ (xs us : List PV), mapO (frz m.locs.length S k) xs = some us → xs.length = us.length := by
      intro xs
      induction xs with
      | nil => intro us h; rw [mapO] at h; cases h; rfl
      | cons y ys ih =>
        intro us h
        rw [mapO] at h
        cases h1 : frz m.locs.length S k y with
        | none => rw [h1] at h; cases h
        | some z =>
          rw [h1] at h
          cases h2 : mapO (frz m.locs.length S k) ys with
          | none => rw [h2] at h; cases h
          | some zs => rw [h2] at h; cases h; rw [List.length_cons, List.length_cons, ih _ h2]
    have hp := e.pre
    rw [frz] at h
    by_cases hu : PV.und m.locs.length v = true
    · rw [if_pos hu] at h
      cases h
      exact RV.cut hp e.res _ _ r hu
    · rw [if_neg hu] at h
      cases r with
      | tup hl ht r =>
        obtain ⟨us, h1, rfl⟩ := map_some h
        have hl' : us.length ≤ sizeLine := by rw [← len _ _ h1]; exact hl
        rcases ht with ⟨n, ht⟩ | ht
        · exact .tup hl' (.inl ⟨out_cut hp e.res n, ht⟩) (all _ _ _ h1 r)
        · exact .tup hl' (.inr ht) (all _ _ _ h1 r)
      | lv hl n ht r =>
        obtain ⟨us, h1, rfl⟩ := map_some h
        exact .lv (by rw [← len _ _ h1]; exact hl) (out_cut hp e.res n) ht (all _ _ _ h1 r)
      | dv hl n ht r =>
        obtain ⟨us, h1, rfl⟩ := map_some h
        exact .dv (by rw [← len _ _ h1]; exact hl) (out_cut hp e.res n) ht (all _ _ _ h1 r)
      | iv hl n ht hC r =>
        obtain ⟨us, h1, rfl⟩ := map_some h
        exact .iv (by rw [← len _ _ h1]; exact hl) (out_cut hp e.res n) ht hC (all _ _ _ h1 r)
      | @loc n a hn =>
        have hge : m.locs.length ≤ n := by
          rw [PV.und] at hu
          simpa using hu
        have ha := fresh_out r0 e rs hge hn
        rw [frzB] at h
        cases g : S[n]? with
        | none => rw [g] at h; cases h
        | some o =>
          rw [g] at h
          have ro := rs.at g hn
          cases o with
          | lst xs =>
            obtain ⟨us, h1, rfl⟩ := map_some h
            obtain ⟨hl, vs, g1, g2⟩ := ro
            exact .lv (by rw [← len _ _ h1]; exact hl) ha g1 (all _ _ _ h1 g2)
          | dic kvs =>
            obtain ⟨us, h1, rfl⟩ := map_some h
            obtain ⟨vs, g1, g2⟩ := ro
            obtain ⟨w1, w2⟩ := g2.vals
            exact .dv (by rw [← len _ _ h1]; simp) ha (by rw [← w2]; exact g1) (all _ _ _ h1 w1)
          | ins c fs =>
            obtain ⟨us, h1, rfl⟩ := map_some h
            obtain ⟨C, dx, vs, g1, gC, g2⟩ := ro
            obtain ⟨w1, w2⟩ := g2.vals
            exact .iv (by rw [← len _ _ h1]; simp) ha (by rw [← w2]; exact g1) gC (all _ _ _ h1 w1)
      | _ => cases h
theorem keep_rel (r0 : Rel K S0 m H) (e : Ext m H m' H') (rs : Rel K S m' H') (hd : keepOk S0 S = true) : Ext m H m H' ∧ Rel K (S.take S0.length) m H' := by
  unfold keepOk at hd
  simp only [Bool.and_eq_true, decide_eq_true_eq, List.all_eq_true, Bool.or_eq_true] at hd
  obtain ⟨h1, h3⟩ := hd
  have hp := e.pre
  refine ⟨⟨⟨[], by simp⟩, rfl, fun a o n h => e.keep a o n h, fun a h n => absurd h n⟩, ⟨?_, r0.nd, fun i o a hs ha => ?_, fun a ha => rs.aside a (by rw [e.res]; exact ha)⟩⟩
  · rw [List.length_take, ← r0.len]
    omega
  · have hi : i < S0.length := by rw [r0.len]; exact (List.getElem?_eq_some_iff.mp ha).1
    have hs' : S[i]? = some o := by
      rw [List.getElem?_take] at hs
      rw [if_pos hi] at hs
      exact hs
    have ro := rs.obj i o a hs' (e.get ha)
    refine ro.cut hp e.res ?_
    have hz := h3 (o, S0[i]) (zip_at hs (List.getElem?_eq_getElem hi))
    rcases hz with hz | hz
    · have hz : o = S0[i] := hz
      rw [hz]
      exact (r0.obj i _ a (List.getElem?_eq_getElem hi) ha).und
    · rw [r0.len] at hz
      exact hz
end
theorem done_get {f : Bool} {S0 S : Store} {v : PV} {Q : VK} {W : WP} (r0 : Rel K S0 m H) (q : Post K (RV K) m H (done f S0 v S) Q W) {x : V} (e : Ext m H m' H') (rs : Rel K S m' H') (rv : RV K m' H' v x) : Q x H' := by
  unfold done at q
  cases f with
  | false =>
    rw [if_neg (by decide)] at q
    by_cases hd : dropOk S0 v S = true
    · rw [if_pos hd] at q
      unfold dropOk at hd
      simp only [Bool.and_eq_true] at hd
      have hk : keepOk S0 S = true := by
        unfold keepOk
        rw [hd.1.1, hd.2]
        rfl
      obtain ⟨e2, rs2⟩ := keep_rel r0 e rs hk
      exact q x m H' e2 rs2 (RV.cut e.pre e.res _ _ rv (by rw [← r0.len]; exact hd.1.2))
    · rw [if_neg hd] at q
      exact q x m' H' e rs rv
  | true =>
    rw [if_pos rfl] at q
    cases hf : frz S0.length S 9 v with
    | none => rw [hf] at q; exact q x m' H' e rs rv
    | some u =>
      rw [hf] at q
      simp only at q
      by_cases hk : keepOk S0 S = true
      · rw [if_pos hk] at q
        obtain ⟨e2, rs2⟩ := keep_rel r0 e rs hk
        exact q x m H' e2 rs2 (frz_get r0 e rs 9 v u x (by rw [← r0.len]; exact hf) rv)
      · rw [if_neg hk] at q
        exact q x m' H' e rs rv
end
/-! ### a def -/
def trDef (B : Tab) (n : Nat) (N ps : List Str) (fz : Bool) (st : Stmt) : Option Fn := (trL (trS B N (defScope st) n) (defBody st)).map fun b => ⟨N.length, ps.length, b, fz⟩
structure DefAt (K : PySem.W.Frag) (mg : Str → Option Value) (B : Tab) (T : List Fn) (x : Str) (f : Nat) (a : Addr) (fd : FuncData) (ps : List Str) : Prop where
  mg : mg x = some (.ref a)
  binds : Binds K fd ps []
  ex : ∃ (st : Stmt) (N : List Str) (F : Fn) (n : Nat) (fz : Bool), L2.Fun K x x st a fd ∧ FnScope N ps (defScope st) ∧ T[f]? = some F ∧ trDef B n N ps fz st = some F
structure ModOk (K : PySem.W.Frag) (mg : Str → Option Value) (B : Tab) (T : List Fn) : Prop where
  fns : ∀ (x : Str) (f np : Nat), B.fns.lookup x = some (f, np) → ∃ a fd ps, DefAt K mg B T x f a fd ps ∧ ps.length = np
  gls : ∀ (x : Str) (v : PV), B.gls.lookup x = some v → ∃ (u : Value) (w : V), mg x = some u ∧ RelV w u ∧ ∀ m H, RV K m H v w
  bls : ∀ x : Str, B.bls.contains x = true → mg x = none
theorem post_false {α β : Type} {K : PySem.W.Frag} {rel : Mp → Hp → α → β → Prop} {m : Mp} {H : Hp} {Q : β → Hp → Prop} {W : WP} (h : Post K rel m H (.bad : R α) Q W) : False := h
theorem start_re {K : PySem.W.Frag} {m : Mp} {H : Hp} {ps : List PV} {vs : List V} {N : List Str} (r : RVs K m H ps vs) : RE K m H (startE N.length ps) (start N vs) := by
  unfold startE L2.start
  rw [r.length]
  exact RE.start _ r
theorem def_ok {P : Program} {w : World} {K : PySem.W.Frag} {mg : Str → Option Value} {base : Heap} {XR : XRel} {B : Tab} {T : List Fn} (M : ModOk K mg B T) : ∀ (d : Nat) (x : Str) (f : Nat) (a : Addr) (fd : FuncData) (ps : List Str), DefAt K mg B T x f a fd ps →
    FnOk P w K mg base (L2.CX P w) d a fd ps (spOf K XR (call T d f) ps.length)
  | 0, x, f, a, fd, ps, D => by
    refine ⟨fun vs H Q E h => h.1, fun A outer s H args us vs Q E hr he hb hv hs => ?_⟩
    obtain ⟨_, m, S, ps', rs, rv, _, q⟩ := hs
    rw [call] at q
    exact (post_false q).elim
  | d + 1, x, f, a, fd, ps, D => by
    have ih := def_ok (P := P) (w := w) (base := base) (XR := XR) M d
    obtain ⟨st, N, F, n, fz, h2, h4, h5, h7⟩ := D.ex
    refine Fun.okX h2 h4 (fun vs H Q E h => h.1) fun cdv A outer s H vs Q E hr hsp => ?_
    obtain ⟨hl, m, St, ps', rs, rv, hl2, q⟩ := hsp
    obtain ⟨b, hb, rfl⟩ := map_some h7
    have C : Cok XR B (call T d) N (defScope st) d (fun _ c fs m' H' => ∀ cls d, XR c fs m' H' cls d → E cls d H') (cxOf (L2.CX P w) P w K mg base N x (defScope st) a cdv A outer s H E) := {
      calm := rfl
      names := rfl
      nd := h4.nd
      scope := rfl
      room := hr
      fns := fun y g ng hy => by
        obtain ⟨a', fd', ps', D', hl'⟩ := M.fns y g ng hy
        obtain ⟨st', N', F', n', fz', h2', _⟩ := D'.ex
        refine ⟨a', fd', ps', D'.mg, h2'.kp, hl', D'.binds, ?_⟩
        rw [← hl']
        exact ih y g a' fd' ps' D'
      gls := M.gls
      bls := M.bls
      tk := (takes_of rfl rfl rfl rfl).imp fun cls d σ H ⟨c, fs, m, xr, w⟩ => w cls d xr
      own := passes_of rfl }
    have Tk : Tok (defScope st) (cxOf (L2.CX P w) P w K mg base N x (defScope st) a cdv A outer s H E) := fun y hy => by
      refine ⟨?_, .inl rfl⟩
      unfold ownName at hy
      show (defScope st).names.lookup y = some .local ∨ (defScope st).names.lookup y = some .cell
      cases e : (defScope st).names.lookup y with
      | none => rw [e] at hy; cases hy
      | some k => rw [e] at hy; cases k <;> first | exact .inl rfl | exact .inr rfl | cases hy
    refine ⟨_, pss_of C Tk (snds_list (snd_trS n) hb), m, startE N.length ps', St, start_re rv, rs, ?_⟩
    have q : Post K (RV K) m H (fin fz St (exs (call T d) b (startE N.length ps') St)) Q fun c fs m' H' => ∀ cls d, XR c fs m' H' cls d → E cls d H' := by
      rw [call, h5] at q
      simp only at q
      rw [if_pos (show ps'.length = ps.length from hl2)] at q
      exact q
    cases hr : exs (call T d) b (startE N.length ps') St with
    | nx e1 S1 =>
      rw [hr] at q
      exact fun σ m1 H1 x1 rs1 re1 => done_get rs q x1 rs1 .non
    | rt v1 S1 =>
      rw [hr] at q
      exact fun z m1 H1 x1 rs1 rv1 => done_get rs q x1 rs1 rv1
    | bk e1 S1 => rw [hr] at q; exact q.elim
    | ct e1 S1 => rw [hr] at q; exact q.elim
    | exc c fs e1 S1 =>
      rw [hr] at q
      exact fun σ m1 H1 x1 rs1 re1 => q m1 H1 x1 rs1
    | bad => rw [hr] at q; exact q.elim
/-! ### the law -/
theorem vints {K : PySem.W.Frag} {m : Mp} {H : Hp} : ∀ ns : List Int, RVs K m H (ns.map PV.int) (ns.map V.int)
  | [] => .nil
  | n :: ns => .cons (.int n) (vints ns)
/-- what the script lies as -/
theorem script_fz {K : PySem.W.Frag} {H : Hp} {a : Addr} {ns : List Int} {n : Nat} (hn : ns.length ≤ n) (hn2 : n ≤ sizeLine) (hO : Only H) (h : SqL K H a (ns.map V.int)) : RV K ⟨[], []⟩ H (.fz (ns.map PV.int)) (.ref a) := by
  refine .fz (by rw [List.length_map]; omega) ?_ (vints ns)
  rcases h with (h | ⟨o, h⟩) | h
  · rcases hO a with z | ⟨o, xs, z⟩
    · rw [h] at z; cases z
    · rw [h] at z; cases z
  · exact .inl ⟨(fun z => (nomatch (show a ∈ ([] : List Addr) from z))), o, h⟩
  · exact .inr h
def XR0 : XRel := fun _ _ _ _ _ _ => False
/-- the law's promise -/
theorem law_sp {K : PySem.W.Frag} {XR : XRel} {T : List Fn} {d f n : Nat} (hn2 : n ≤ sizeLine) (h : ∀ ns : List Int, ns.length ≤ n → ∃ S, call T d f [.fz (ns.map PV.int)] [] = .ok (.bl true) S) {H : Hp} {a : Addr} {ns : List Int} (hl : ns.length ≤ n) (hO : Only H) (hS : SqL K H a (ns.map V.int)) :
    spOf K XR (call T d f) 1 [.ref a] H (fun v _ => v = .bl true) fun _ _ _ => False := by
  obtain ⟨S, e⟩ := h ns hl
  refine ⟨rfl, ⟨[], []⟩, [], [.fz (ns.map PV.int)], ⟨rfl, .nil, fun i o a h => by simp at h, fun a h => by cases h⟩, .cons (script_fz hl hn2 hO hS) .nil, rfl, ?_⟩
  rw [e]
  intro x m' H' _ _ r
  cases r
  rfl
theorem cx_no {P : Program} {w : World} {H : Hp} {s : Shared} {e : Value} {s' : Shared} (h : L2.CX P w [] H s (fun _ _ _ => False) e s') : False := by
  obtain ⟨_, _, _, _, _, _, _, _, _, _, _, _, z⟩ := h
  exact z
/-- a law by its defs' readings -/
theorem law_end {l : PySem.W.OpenLaw} {n k f : Nat} {q : Program} {loose : List Str} {XP : (Str → Option Value) → Heap → Prop} {YP : World → Heap → Prop} {d : DefRec} {K : Params → PySem.W.Frag} {x : Str} {B : Tab} {T : List Fn} (XR : XRel)
    (hn : l.most = some n) (hn2 : n ≤ sizeLine) (hdf : d.params.defaults = []) (hr : Room k callerA) (hY : ∀ (w : World) (h : Heap), YP w h → (K w.params).In h)
    (hM : ∀ (w : World) (mg : Str → Option Value) (h : Heap), (K w.params).In h → h.Ns mainGlobals mg → ModOk (K w.params) mg B T ∧ ∃ (a : Addr) (fd : FuncData), DefAt (K w.params) mg B T d.name f a fd [x] ∧ ∀ (s : Shared) (u : Value), BindsTo s fd ⟨[u], []⟩ [(x, u)])
    (h : ∀ ns : List Int, ns.length ≤ n → ∃ S, call T k f [.fz (ns.map PV.int)] [] = .ok (.bl true) S) :
    PySem.W.WalkO q loose XP YP l.row.toRowW d [] (fun f vs => PySem.call f vs) := by
  refine L2.walk_of (x := x) (CX := fun w => L2.CX l.prog w) (sp := fun w => spOf (K w.params) XR (call T k f) 1) hn hn2 hdf hr hY ?_ (fun w H a ns h1 h2 h3 => law_sp hn2 h h1 h2 h3) fun w H s e s' hc => cx_no hc
  intro w mg fa hp hK hN hfa
  obtain ⟨M, a, fd, D, hb⟩ := hM w mg hp hK hN
  have e := D.mg.symm.trans hfa
  cases e
  refine ⟨fd, hb, fun base hKb hNb => ?_⟩
  exact def_ok M k d.name f _ fd [x] D
end L2.PF

set_option Elab.async false
set_option linter.all false
set_option maxRecDepth 100000
set_option maxHeartbeats 4000000
/-! PFO: what a law's top has written. -/
namespace L2.PF
open PySem PySem.Spec PyProof.Rows
abbrev S (s : String) : Str := Str.ofString s
section
variable {K : PySem.W.Frag} {mg : Str → Option Value} {B : Tab} {T : List Fn} {h : Heap}
theorem defAt_mk {x : Str} {st : Stmt} {N ps : List Str} {F : Fn} {n i np : Nat} {fz : Bool} {f : Addr} {oc : Value} {od an : Option Addr} {osl : Array (Option Value)} {kV doc pm cdv ct : Value} (X : K.In h) (G : h.Ns mainGlobals mg)
    (a1 : PySem.W.nsIn K mainGlobals x = some (some (.ref f))) (l1 : K.lookup f = some ⟨oc, od, .func (PySem.W.fnOf x x (defArgs st) (defBody st) (defScope st) .none kV doc pm an cdv ct), osl⟩)
    (c1 : PySem.W.codeIn K cdv x = true) (k1 : PySem.W.keepIn K (.ref f) = true) (sc : FnScope N ps (defScope st)) (tr : trDef B n N ps fz st = some F) (hT : T[i]? = some F) (hn : ps.length = np)
    (hb : ∀ (kV doc pm : Value) (an : Option Addr) (cdv ct : Value) (us : List Value), us.length = ps.length → bindArgs (PySem.W.fnOf x x (defArgs st) (defBody st) (defScope st) .none kV doc pm an cdv ct) ⟨us, []⟩ = pure (ps.zip us)) :
    ∃ a fd ps, DefAt K mg B T x i a fd ps ∧ ps.length = np :=
  ⟨f, _, ps, ⟨PySem.W.mg_of X G a1, (fun_mk l1 c1 k1).binds hb, st, N, F, n, fz, fun_mk l1 c1 k1, sc, hT, tr⟩, hn⟩
/-- the law's own def -/
theorem lawAt_mk {x y : Str} {st : Stmt} {N : List Str} {F : Fn} {n i : Nat} {fz : Bool} {f : Addr} {oc : Value} {od an : Option Addr} {osl : Array (Option Value)} {kV doc pm cdv ct : Value} (X : K.In h) (G : h.Ns mainGlobals mg)
    (a1 : PySem.W.nsIn K mainGlobals x = some (some (.ref f))) (l1 : K.lookup f = some ⟨oc, od, .func (PySem.W.fnOf x x (defArgs st) (defBody st) (defScope st) .none kV doc pm an cdv ct), osl⟩)
    (c1 : PySem.W.codeIn K cdv x = true) (k1 : PySem.W.keepIn K (.ref f) = true) (sc : FnScope N [y] (defScope st)) (tr : trDef B n N [y] fz st = some F) (hT : T[i]? = some F)
    (hb : ∀ (kV doc pm : Value) (an : Option Addr) (cdv ct : Value) (u : Value), bindArgs (PySem.W.fnOf x x (defArgs st) (defBody st) (defScope st) .none kV doc pm an cdv ct) ⟨[u], []⟩ = pure [(y, u)]) :
    ∃ a fd, DefAt K mg B T x i a fd [y] ∧ ∀ (s : Shared) (u : Value), BindsTo s fd ⟨[u], []⟩ [(y, u)] :=
  ⟨f, _, ⟨PySem.W.mg_of X G a1, (fun_mk l1 c1 k1).binds fun kV doc pm an cdv ct us hl => (match us, hl with | [u], _ => hb kV doc pm an cdv ct u), st, N, F, n, fz, fun_mk l1 c1 k1, sc, hT, tr⟩, fun s u => .of_eq (hb _ _ _ _ _ _ u)⟩
def FnsOk (K : PySem.W.Frag) (mg : Str → Option Value) (B : Tab) (T : List Fn) (l : List (Str × Nat × Nat)) : Prop := ∀ (x : Str) (f np : Nat), l.lookup x = some (f, np) → ∃ a fd ps, DefAt K mg B T x f a fd ps ∧ ps.length = np
theorem fns_nil : FnsOk K mg B T [] := fun x f np h => by cases h
theorem fns_cons {y : Str} {g ng : Nat} {l : List (Str × Nat × Nat)} (h : ∃ a fd ps, DefAt K mg B T y g a fd ps ∧ ps.length = ng) (t : FnsOk K mg B T l) : FnsOk K mg B T ((y, g, ng) :: l) := fun x f np e => by
  rw [List.lookup_cons] at e
  cases hb : x == y with
  | true =>
    rw [hb] at e
    cases e
    rw [eq_of_beq hb]
    exact h
  | false => rw [hb] at e; exact t x f np e
def GlsOk (K : PySem.W.Frag) (mg : Str → Option Value) (l : List (Str × PV)) : Prop := ∀ (x : Str) (v : PV), l.lookup x = some v → ∃ (u : Value) (w : V), mg x = some u ∧ RelV w u ∧ ∀ m H, RV K m H v w
theorem gls_nil : GlsOk K mg [] := fun x v h => by cases h
theorem gls_cons {y : Str} {v : PV} {l : List (Str × PV)} (h : ∃ (u : Value) (w : V), mg y = some u ∧ RelV w u ∧ ∀ m H, RV K m H v w) (t : GlsOk K mg l) : GlsOk K mg ((y, v) :: l) := fun x f e => by
  rw [List.lookup_cons] at e
  cases hb : x == y with
  | true =>
    rw [hb] at e
    cases e
    rw [eq_of_beq hb]
    exact h
  | false => rw [hb] at e; exact t x f e
theorem gl_int {y : Str} {i : Int} {t : PySem.Tok} (X : K.In h) (G : h.Ns mainGlobals mg) (a : PySem.W.nsIn K mainGlobals y = some (some (.int i t))) : ∃ (u : Value) (w : V), mg y = some u ∧ RelV w u ∧ ∀ m H, RV K m H (.int i) w :=
  ⟨.int i t, .int i, PySem.W.mg_of X G a, ⟨t, rfl⟩, fun _ _ => .int i⟩
theorem gl_str {y z : Str} {t : PySem.Tok} (X : K.In h) (G : h.Ns mainGlobals mg) (a : PySem.W.nsIn K mainGlobals y = some (some (.str z t))) (hz : okB z = true) : ∃ (u : Value) (w : V), mg y = some u ∧ RelV w u ∧ ∀ m H, RV K m H (.str z) w :=
  ⟨.str z t, .str z, PySem.W.mg_of X G a, ⟨t, rfl⟩, fun _ _ => .str z (okB_ok hz)⟩
def BlsOk (mg : Str → Option Value) (l : List Str) : Prop := ∀ x : Str, l.contains x = true → mg x = none
theorem bls_nil : BlsOk mg [] := fun x h => by cases h
theorem bls_cons {y : Str} {l : List Str} (h : mg y = none) (t : BlsOk mg l) : BlsOk mg (y :: l) := fun x e => by
  rw [List.contains_cons, Bool.or_eq_true] at e
  rcases e with e | e
  · rw [eq_of_beq e]; exact h
  · exact t x e
end
end L2.PF

set_option Elab.async false
set_option linter.all false
set_option maxRecDepth 100000
set_option maxHeartbeats 4000000
/-! PFP: reasoning about what a def comes to. -/
namespace L2.PF
open PySem PySem.Spec PyProof.Rows
def okR {α : Type} (r : R α) (Q : α → Store → Prop) : Prop := match r with
  | .ok a S => Q a S
  | _ => False
structure En where
  nx : Env → Store → Prop
  rt : PV → Store → Prop
  bk : Env → Store → Prop := fun _ _ => False
  ct : Env → Store → Prop := fun _ _ => False
def okS (r : SR) (D : En) : Prop := match r with
  | .nx e S => D.nx e S
  | .rt v S => D.rt v S
  | .bk e S => D.bk e S
  | .ct e S => D.ct e S
  | _ => False
section
variable {α β : Type} {r : R α} {Q Q' : α → Store → Prop} {S S0 : Store} {D : En} {e : Env}
theorem okR_ok {a : α} : okR (.ok a S) Q = Q a S := rfl
theorem okR_bad : okR (.bad : R α) Q = False := rfl
theorem okR_bind {f : α → Store → R β} {Q : β → Store → Prop} : okR (r.bind f) Q = okR r fun a S => okR (f a S) Q := by cases r <;> rfl
theorem okR_some {a : α} : okR (R.ofO (some a) S) Q = Q a S := rfl
theorem okR_none : okR (R.ofO (none : Option α) S) Q = False := rfl
theorem okR_ite {c : Prop} [Decidable c] {a b : R α} : okR (if c then a else b) Q = if c then okR a Q else okR b Q := by split <;> rfl
theorem okR_mono (h : okR r Q) (k : ∀ a S, Q a S → Q' a S) : okR r Q' := by
  cases r with
  | ok a S => exact k a S h
  | exc _ _ _ => exact h
  | bad => exact h
theorem okR_eq (h : okR r Q) : ∃ a S, r = .ok a S ∧ Q a S := by
  cases r with
  | ok a S => exact ⟨a, S, rfl, h⟩
  | exc _ _ _ => exact h.elim
  | bad => exact h.elim
theorem okR_only : okR r.only Q = okR r Q := by cases r <;> rfl
theorem okS_nx : okS (.nx e S) D = D.nx e S := rfl
theorem okS_rt {v : PV} : okS (.rt v S) D = D.rt v S := rfl
theorem okS_bk : okS (.bk e S) D = D.bk e S := rfl
theorem okS_ct : okS (.ct e S) D = D.ct e S := rfl
theorem okS_bad : okS .bad D = False := rfl
theorem okS_then {r : SR} {f : Env → Store → SR} : okS (r.then f) D = okS r { D with nx := fun e S => okS (f e S) D } := by cases r <;> rfl
theorem okS_toS {f : α → Store → SR} : okS (r.toS e f) D = okR r fun a S => okS (f a S) D := by cases r <;> rfl
theorem okS_ite {c : Prop} [Decidable c] {a b : SR} : okS (if c then a else b) D = if c then okS a D else okS b D := by split <;> rfl
theorem okS_mono {r : SR} {D D' : En} (h : okS r D) (k1 : ∀ e S, D.nx e S → D'.nx e S) (k2 : ∀ v S, D.rt v S → D'.rt v S) (k3 : ∀ e S, D.bk e S → D'.bk e S) (k4 : ∀ e S, D.ct e S → D'.ct e S) : okS r D' := by
  cases r with
  | nx e S => exact k1 _ _ h
  | rt v S => exact k2 _ _ h
  | bk e S => exact k3 _ _ h
  | ct e S => exact k4 _ _ h
  | exc _ _ _ _ => exact h
  | bad => exact h
/-! ### calls -/
theorem done_f {v : PV} : done false S0 v S = if dropOk S0 v S = true then .ok v (S.take S0.length) else .ok v S := rfl
theorem done_ok {v : PV} {Q : PV → Store → Prop} (h1 : Q v S) (h2 : S0.length ≤ S.length → Q v (S.take S0.length)) : okR (done false S0 v S) Q := by
  rw [done_f]
  split
  · rename_i h
    unfold dropOk at h
    simp only [Bool.and_eq_true, decide_eq_true_eq] at h
    exact h2 h.1.1
  · exact h1
theorem frz_und {n0 : Nat} {v : PV} {k : Nat} (h : PV.und n0 v = true) : frz n0 S (k + 1) v = some v := by rw [frz, if_pos h]
/-- where nothing was laid -/
theorem done_len {f : Bool} {v : PV} {Q : PV → Store → Prop} (h : S.length = S0.length) (h1 : Q v S) (hv : f = true → PV.und S0.length v = true := by first | (intro h; cases h; done) | exact fun _ => rfl) : okR (done f S0 v S) Q := by
  cases f with
  | false => exact done_ok h1 fun _ => by rw [← h, List.take_length]; exact h1
  | true =>
    unfold done
    rw [if_pos rfl, frz_und (hv rfl)]
    simp only
    split
    · show Q v (S.take S0.length)
      rw [← h, List.take_length]
      exact h1
    · exact h1
theorem okR_call {T : List Fn} {d f : Nat} {vs : List PV} {F : Fn} {Q : PV → Store → Prop} (hT : T[f]? = some F) (hl : vs.length = F.np)
    (h : okS (exs (call T d) F.body (startE F.nN vs) S) { nx := fun _ S1 => okR (done F.frz S .non S1) Q, rt := fun v S1 => okR (done F.frz S v S1) Q }) : okR (call T (d + 1) f vs S) Q := by
  rw [call, hT]
  simp only
  rw [if_pos hl]
  cases hr : exs (call T d) F.body (startE F.nN vs) S with
  | nx e S => rw [hr] at h; exact h
  | rt v S => rw [hr] at h; exact h
  | _ => rw [hr] at h; exact h.elim
/-! ### loops -/
theorem forL_ok {g : Grd} {body : PV → Env → Store → SR} {xs : List PV} (I : Nat → Env → Store → Prop) (h0 : I 0 e S) (hg : ∀ i e S, i ≤ xs.length → I i e S → grdOk g S = true)
    (hs : ∀ i x e S, xs[i]? = some x → I i e S → okS (body x e S) { nx := I (i + 1), rt := D.rt, bk := D.nx, ct := I (i + 1) }) (hd : ∀ e S, I xs.length e S → D.nx e S) : okS (forL g body xs e S) D := by
  have : ∀ (n i : Nat) (e : Env) (S : Store), n = xs.length - i → i ≤ xs.length → I i e S → okS (forL g body (xs.drop i) e S) D := by
    intro n
    induction n with
    | zero =>
      intro i e S hn hi hI
      have : i = xs.length := by omega
      subst this
      rw [List.drop_length, forL, if_pos (hg _ _ _ hi hI)]
      exact hd e S hI
    | succ n ih =>
      intro i e S hn hi hI
      have hlt : i < xs.length := by omega
      rw [List.drop_eq_getElem_cons hlt, forL, if_pos (hg _ _ _ hi hI)]
      have := hs i xs[i] e S (List.getElem?_eq_getElem hlt) hI
      cases hr : body xs[i] e S with
      | nx e1 S1 => rw [hr] at this; exact ih (i + 1) e1 S1 (by omega) hlt this
      | ct e1 S1 => rw [hr] at this; exact ih (i + 1) e1 S1 (by omega) hlt this
      | bk e1 S1 => rw [hr] at this; exact this
      | rt v S1 => rw [hr] at this; exact this
      | exc _ _ _ _ => rw [hr] at this; exact this.elim
      | bad => rw [hr] at this; exact this.elim
  exact this _ 0 e S rfl (Nat.zero_le _) h0
theorem compL_ok {g : Grd} {turn : PV → Store → R (Option PV)} {xs : List PV} {Q : List PV → Store → Prop} (I : Nat → List PV → Store → Prop) (h0 : I 0 [] S) (hg : ∀ i a S, i ≤ xs.length → I i a S → grdOk g S = true)
    (hs : ∀ i x a S, xs[i]? = some x → I i a S → okR (turn x S) fun o S => match o with | some y => I (i + 1) (a ++ [y]) S | none => I (i + 1) a S) (hd : ∀ a S, I xs.length a S → Q a S) : okR (compL g turn xs [] S) Q := by
  have : ∀ (n i : Nat) (a : List PV) (S : Store), n = xs.length - i → i ≤ xs.length → I i a S → okR (compL g turn (xs.drop i) a S) Q := by
    intro n
    induction n with
    | zero =>
      intro i a S hn hi hI
      have : i = xs.length := by omega
      subst this
      rw [List.drop_length, compL, if_pos (hg _ _ _ hi hI)]
      exact hd a S hI
    | succ n ih =>
      intro i a S hn hi hI
      have hlt : i < xs.length := by omega
      rw [List.drop_eq_getElem_cons hlt, compL, if_pos (hg _ _ _ hi hI)]
      have := hs i xs[i] a S (List.getElem?_eq_getElem hlt) hI
      cases hr : turn xs[i] S with
      | ok o S1 =>
        rw [hr] at this
        cases o with
        | some y => exact ih (i + 1) (a ++ [y]) S1 (by omega) hlt this
        | none => exact ih (i + 1) a S1 (by omega) hlt this
      | exc _ _ _ => rw [hr] at this; exact this.elim
      | bad => rw [hr] at this; exact this.elim
  exact this _ 0 [] S rfl (Nat.zero_le _) h0
end
/-! ### numbers -/
theorem log2_lt {n k : Nat} (h : n < 2 ^ (k + 1)) : n.log2 ≤ k := by
  by_cases h0 : n = 0
  · subst h0; simp
  · have := (Nat.log2_lt h0).mpr h
    omega
theorem mulOk_of {i j : Int} (hi : i.natAbs < 2 ^ 200) (hj : j.natAbs < 2 ^ 200) : mulOk i j = true := by
  unfold mulOk
  have h1 : i.natAbs.log2 ≤ 199 := log2_lt hi
  have h2 : j.natAbs.log2 ≤ 199 := log2_lt hj
  exact decide_eq_true (by omega)
theorem divOk_of {j : Int} (h0 : 0 < j) (h : j.natAbs < 2 ^ 200) : divOk j = true := by
  unfold divOk
  have h1 : j.natAbs.log2 ≤ 199 := log2_lt h
  exact decide_eq_true ⟨h0, by omega⟩
/-! ### the operators at values -/
section
variable {S : Store} {Q : PV → Store → Prop} {i j : Int} {a b : Bool} {x y : Str}
theorem o_add : okR (R.ofO (binV .Add S (.int i) (.int j)) S) Q = Q (.int (i + j)) S := rfl
theorem o_sub : okR (R.ofO (binV .Sub S (.int i) (.int j)) S) Q = Q (.int (i - j)) S := rfl
theorem o_mul : okR (R.ofO (binV .Mult S (.int i) (.int j)) S) Q = (mulOk i j = true ∧ Q (.int (i * j)) S) := by
  show okR (R.ofO (if mulOk i j = true then some (.int (i * j)) else none) S) Q = _
  by_cases h : mulOk i j = true
  · rw [if_pos h]; exact propext ⟨fun z => ⟨h, z⟩, fun z => z.2⟩
  · rw [if_neg h]; exact propext ⟨fun z => z.elim, fun z => absurd z.1 h⟩
theorem o_div : okR (R.ofO (binV .FloorDiv S (.int i) (.int j)) S) Q = (divOk j = true ∧ Q (.int (i / j)) S) := by
  show okR (R.ofO (if divOk j = true then some (.int (i / j)) else none) S) Q = _
  by_cases h : divOk j = true
  · rw [if_pos h]; exact propext ⟨fun z => ⟨h, z⟩, fun z => z.2⟩
  · rw [if_neg h]; exact propext ⟨fun z => z.elim, fun z => absurd z.1 h⟩
theorem o_mod : okR (R.ofO (binV .Mod S (.int i) (.int j)) S) Q = (0 < j ∧ Q (.int (i % j)) S) := by
  show okR (R.ofO (if 0 < j then some (.int (i % j)) else none) S) Q = _
  by_cases h : 0 < j
  · rw [if_pos h]; exact propext ⟨fun z => ⟨h, z⟩, fun z => z.2⟩
  · rw [if_neg h]; exact propext ⟨fun z => z.elim, fun z => absurd z.1 h⟩
theorem o_pow : okR (R.ofO (binV .Pow S (.int i) (.int j)) S) Q = (powOk i j = true ∧ Q (.int (i ^ j.toNat)) S) := by
  show okR (R.ofO (if powOk i j = true then some (.int (i ^ j.toNat)) else none) S) Q = _
  by_cases h : powOk i j = true
  · rw [if_pos h]; exact propext ⟨fun z => ⟨h, z⟩, fun z => z.2⟩
  · rw [if_neg h]; exact propext ⟨fun z => z.elim, fun z => absurd z.1 h⟩
theorem o_cat : okR (R.ofO (binV .Add S (.str x) (.str y)) S) Q = (x.length + y.length ≤ sizeLine ∧ Q (.str (x ++ y)) S) := by
  show okR (R.ofO (if x.length + y.length ≤ sizeLine then some (.str (x ++ y)) else none) S) Q = _
  by_cases h : x.length + y.length ≤ sizeLine
  · rw [if_pos h]; exact propext ⟨fun z => ⟨h, z⟩, fun z => z.2⟩
  · rw [if_neg h]; exact propext ⟨fun z => z.elim, fun z => absurd z.1 h⟩
theorem c_lt : cmpV .Lt S (.int i) (.int j) = some (decide (i < j)) := rfl
theorem c_le : cmpV .LtE S (.int i) (.int j) = some (decide (i ≤ j)) := rfl
theorem c_gt : cmpV .Gt S (.int i) (.int j) = some (decide (j < i)) := rfl
theorem c_ge : cmpV .GtE S (.int i) (.int j) = some (decide (j ≤ i)) := rfl
theorem eqD_flat {S : Store} {v u : PV} (h : flatP v = true) (h' : flatP u = true) : eqD S v u = some (eqP v u) := by
  show eqG S (169 + 1) v u = _
  rw [eqG, if_pos h, if_pos h']
theorem inD_flat {S : Store} {x : PV} (h : flatP x = true) : ∀ {xs : List PV}, xs.all flatP = true → inD S x xs = some (xs.any fun z => eqP z x)
  | [], _ => rfl
  | z :: zs, hz => by
    rw [List.all_cons, Bool.and_eq_true] at hz
    have ih := inD_flat (S := S) h hz.2
    unfold inD at ih ⊢
    rw [mapO, eqD_flat hz.1 h]
    simp only
    cases e : mapO (fun z => eqD S z x) zs with
    | none => rw [e] at ih; cases ih
    | some bs =>
      rw [e] at ih
      simp only [Option.map_some, List.any_cons, id] at ih ⊢
      rw [Option.some.inj ih]
theorem eqX_r {v u : PV} (h : ditems S u = none) : cmpV .Eq S v u = eqD S v u := by
  show eqX S v u = _
  unfold eqX
  rw [h]
  split <;> rfl
theorem c_eq : cmpV .Eq S (.int i) (.int j) = some (decide (i = j)) := by
  show eqD S (.int i) (.int j) = _
  rw [eqD_flat rfl rfl]
  rfl
theorem c_ne : cmpV .NotEq S (.int i) (.int j) = some (!decide (i = j)) := by
  show (cmpV .Eq S (.int i) (.int j)).map (!·) = _
  rw [c_eq]; rfl
theorem t_bl : truth S (.bl a) = some a := rfl
theorem map_some' {α β : Type} {f : α → β} {a : α} : (some a).map f = some (f a) := rfl
end
section
variable {S : Store} {b : Nat} {xs : List PV} {v : PV} {i : Int}
theorem ix_l (h : S[b]? = some (.lst xs)) : ixV S (.loc b) (.int i) = atI xs i := by
  simp only [ixV, h]
theorem set_l {n : Nat} (h : S[b]? = some (.lst xs)) (hn : ixN xs.length i = some n) : setixV S (.loc b) (.int i) v = some (S.set b (.lst (xs.set n v))) := by
  simp only [setixV, h, hn]
end
end L2.PF

set_option Elab.async false
set_option linter.all false
set_option maxRecDepth 100000
set_option maxHeartbeats 4000000
/-! PFQ: what many laws share: the box of digits, words, names, kinds. -/
namespace L2.PF
open PySem PySem.Spec PyProof.Rows
section
variable {S S0 : Store}
theorem len_fz {xs : List PV} : bltR .len S [.fz xs] = .ok (.int xs.length) S := rfl
theorem len_str {x : Str} : bltR .len S [.str x] = .ok (.int x.length) S := rfl
theorem len_lv {xs : List PV} : bltR .len S [.lv xs] = .ok (.int xs.length) S := rfl
theorem len_tup {xs : List PV} : bltR .len S [.tup xs] = .ok (.int xs.length) S := rfl
theorem tup_lv {xs : List PV} : bltR .tuple1 S [.lv xs] = .ok (.tup xs) S := rfl
theorem list_tup {xs : List PV} : bltR .list1 S [.tup xs] = .ok (.lv xs) S := rfl
theorem max_i {i j : Int} : bltR .max2 S [.int i, .int j] = .ok (.int (if j > i then j else i)) S := rfl
theorem min_i {i j : Int} : bltR .min2 S [.int i, .int j] = .ok (.int (if j < i then j else i)) S := rfl
theorem ix_fz {xs : List PV} {i : Int} : ixV S (.fz xs) (.int i) = atI xs i := rfl
theorem ix_lv {xs : List PV} {i : Int} : ixV S (.lv xs) (.int i) = atI xs i := rfl
theorem ix_tup {xs : List PV} {i : Int} : ixV S (.tup xs) (.int i) = atI xs i := rfl
theorem ix_str {x : Str} {i : Int} : ixV S (.str x) (.int i) = strAt x i := rfl
theorem atI_some {α : Type} {xs : List α} {i : Int} (h0 : 0 ≤ i) (h : i < xs.length) : ∃ x, atI xs i = some x ∧ x ∈ xs := by
  unfold atI
  have h1 : ixN xs.length i = some i.toNat := by unfold ixN; rw [if_pos h0, if_pos h]
  have h2 : i.toNat < xs.length := by omega
  rw [h1]
  refine ⟨xs[i.toNat], ?_, List.getElem_mem h2⟩
  show xs[i.toNat]? = _
  rw [List.getElem?_eq_getElem h2]
theorem atI0 {α : Type} {x : α} {xs : List α} : atI (x :: xs) 0 = some x := by
  unfold atI ixN
  rw [if_pos (by omega), if_pos (by simp only [List.length_cons]; omega)]
  rfl
theorem atI1 {α : Type} {x y : α} {xs : List α} : atI (x :: y :: xs) 1 = some y := by
  unfold atI ixN
  rw [if_pos (by omega), if_pos (by simp only [List.length_cons]; omega)]
  rfl
theorem atI2 {α : Type} {x y z : α} {xs : List α} : atI (x :: y :: z :: xs) 2 = some z := by
  unfold atI ixN
  rw [if_pos (by omega), if_pos (by simp only [List.length_cons]; omega)]
  rfl
theorem done_keep {v : PV} {Q : PV → Store → Prop} (h : PV.und S0.length v = false) (q : Q v S) : okR (done false S0 v S) Q := by
  rw [done_f]
  unfold dropOk
  rw [h, Bool.and_false, Bool.false_and, if_neg Bool.false_ne_true]
  exact q
/-- what was laid in the call is forgotten -/
theorem done_app {v : PV} {l : Store} {Q : PV → Store → Prop} (h : PV.und S0.length v = true) (q : Q v S0) : okR (done false S0 v (S0 ++ l)) Q := by
  have hz : ∀ (a b : Store), ((a ++ b).take a.length) = a := fun a b => by simp
  rw [done_f]
  unfold dropOk
  rw [h, hz, Bool.and_true]
  have e1 : decide (S0.length ≤ (S0 ++ l).length) = true := decide_eq_true (by simp)
  have e2 : ((S0.zip S0).all fun p => decide (p.1 = p.2) || PO.und S0.length p.1) = true := by
    rw [List.all_eq_true]
    intro p hp
    have : ∀ (a : Store) (p : PO × PO), p ∈ a.zip a → p.1 = p.2 := by
      intro a
      induction a with
      | nil => intro p hp; cases hp
      | cons x a ih =>
        intro p hp
        rw [List.zip_cons_cons] at hp
        rcases List.mem_cons.mp hp with e | e
        · rw [e]
        · exact ih p e
    rw [decide_eq_true (this S0 p hp)]
    rfl
  rw [e1, e2]
  exact q
theorem compL_map {α : Type} {turn : PV → Store → R (Option PV)} (g : α → PV) (f : α → Option PV) : ∀ (xs : List α) (acc : List PV), (∀ x ∈ xs, turn (g x) S = .ok (f x) S) → compL [] turn (xs.map g) acc S = .ok (acc ++ xs.filterMap f) S
  | [], acc, _ => by rw [List.map_nil, compL, if_pos (show grdOk [] S = true from rfl)]; simp
  | x :: xs, acc, h => by
    rw [List.map_cons, compL, if_pos (show grdOk [] S = true from rfl), h x List.mem_cons_self]
    have ih := fun acc => compL_map g f xs acc fun y hy => h y (List.mem_cons_of_mem _ hy)
    cases hx : f x with
    | none => simp only; rw [ih, List.filterMap_cons, hx]
    | some y => simp only; rw [ih, List.filterMap_cons, hx]; simp
theorem compR_f {turn : PV → Store → R (Option PV)} {p : List PV × Grd} : compR false turn p S = (compL p.2 turn p.1 [] S).bind fun ys S => .ok (.lv ys) S := rfl
theorem iter_str {x : Str} : iterV .seq S [.str x] = some (x.cps.toList.map fun c => .str ⟨#[c]⟩, []) := rfl
theorem iter_tup {xs : List PV} : iterV .seq S [.tup xs] = some (xs, []) := rfl
theorem iter_lv {xs : List PV} : iterV .seq S [.lv xs] = some (xs, []) := rfl
theorem ifs0 : ifsV S [] = some true := rfl
theorem ifs1 {v : PV} : ifsV S [v] = truth S v := rfl
theorem mk_f {vs : List PV} : mkList false vs S = .ok (.lv vs) S := rfl
theorem mk_t {vs : List PV} : mkList true vs S = .ok (.loc S.length) (S ++ [.lst vs]) := rfl
theorem intRow_at {lo : Int} {n i : Nat} {x : PV} (h : (intRow lo n)[i]? = some x) : x = .int (lo + i) ∧ i < n := by
  rw [intRow_get] at h
  by_cases hi : i < n
  · rw [if_pos hi] at h; cases h; exact ⟨rfl, hi⟩
  · rw [if_neg hi] at h; cases h
theorem iter_rng {j : Int} (h0 : 0 ≤ j) (h1 : j ≤ 100000) : iterV .rng1 S [.int j] = some (intRow 0 j.toNat, []) := by
  show (if (small j && decide (j.toNat ≤ sizeLine)) = true then some (intRow 0 j.toNat, ([] : Grd)) else none) = _
  have e1 : small j = true := decide_eq_true (by omega)
  have e2 : decide (j.toNat ≤ sizeLine) = true := decide_eq_true (by rw [sizeLine_eq]; omega)
  rw [e1, e2]
  rfl
theorem dic1 {x : Str} {v : PV} : dicNew true [.str x, v] S = .ok (.loc S.length) (S ++ [.dic (putP [] (.inr x) v)]) := rfl
theorem dic0 : dicNew true [] S = .ok (.loc S.length) (S ++ [.dic []]) := rfl
theorem dic0v : dicNew false [] S = .ok (.dv [] []) S := rfl
theorem okR_and {α : Type} {r : R α} {P Q : α → Store → Prop} (h : okR r P) (k : okR r Q) : okR r fun a S => P a S ∧ Q a S := by
  cases r with
  | ok a S => exact ⟨h, k⟩
  | exc _ _ _ => exact h
  | bad => exact h
end
theorem sz0 : (0 ≤ sizeLine) = True := by rw [sizeLine_eq]; exact eq_true (by decide)
theorem sz1 : (0 + 1 ≤ sizeLine) = True := by rw [sizeLine_eq]; exact eq_true (by decide)
theorem sz2 : (0 + 1 + 1 ≤ sizeLine) = True := by rw [sizeLine_eq]; exact eq_true (by decide)
theorem sz3 : (0 + 1 + 1 + 1 ≤ sizeLine) = True := by rw [sizeLine_eq]; exact eq_true (by decide)
theorem sz4 : (0 + 1 + 1 + 1 + 1 ≤ sizeLine) = True := by rw [sizeLine_eq]; exact eq_true (by decide)
theorem sz5 : (0 + 1 + 1 + 1 + 1 + 1 ≤ sizeLine) = True := by rw [sizeLine_eq]; exact eq_true (by decide)
theorem sz6 : (0 + 1 + 1 + 1 + 1 + 1 + 1 ≤ sizeLine) = True := by rw [sizeLine_eq]; exact eq_true (by decide)
theorem sz7 : (0 + 1 + 1 + 1 + 1 + 1 + 1 + 1 ≤ sizeLine) = True := by rw [sizeLine_eq]; exact eq_true (by decide)
theorem sz8 : (0 + 1 + 1 + 1 + 1 + 1 + 1 + 1 + 1 ≤ sizeLine) = True := by rw [sizeLine_eq]; exact eq_true (by decide)
theorem pow_ok : powOk 10 18 = true ∧ powOk 10 30 = true ∧ powOk 10 15 = true ∧ powOk 10 9 = true := by decide +kernel
/-! ### the box -/
def FCell : Fn := ⟨2, 2, [(.ite (.cmp .Lt (.v 1) (.blt .len [(.v 0)])) [(.ret (.ix (.v 0) (.v 1)))] []), (.ret (.bin .Add (.bin .Mult (.c (.int 7919)) (.v 1)) (.c (.int 13))))], false⟩
def FMix : Fn := ⟨3, 2, [(.set (.n 2) (.bin .Mod (.bin .Add (.bin .Add (.v 0) (.bin .Mult (.c (.int 7919)) (.v 1))) (.c (.int 12345))) (.c (.int 2147483629)))), (.set (.n 2) (.bin .Mod (.bin .Add (.bin .Mult (.v 2) (.v 2)) (.bin .Mult (.c (.int 48271)) (.v 1))) (.c (.int 2147483629)))), (.ret (.bin .Mod (.bin .Mult (.v 2) (.v 2)) (.c (.int 2147483587))))], false⟩
def FTake (im : Nat) : Fn := ⟨3, 2, [(.ite (.cmp .Gt (.ix (.v 0) (.c (.int 0))) (.c (.int 0))) [(.set (.n 2) (.bin .Mod (.ix (.v 0) (.c (.int 0))) (.v 1))), (.setix (.v 0) (.c (.int 0)) (.bin .FloorDiv (.ix (.v 0) (.c (.int 0))) (.v 1))), (.ret (.v 2))] []), (.setix (.v 0) (.c (.int 2)) (.bin .Add (.ix (.v 0) (.c (.int 2))) (.c (.int 1)))), (.ret (.bin .Mod (.fn im [(.ix (.v 0) (.c (.int 1))), (.ix (.v 0) (.c (.int 2)))]) (.v 1)))], false⟩
section
local macro_rules | `(tactic| trivial) => `(tactic| simp only [startE, exs, ex, ev, evs, okS_then, okS_toS, okR_bind, okS_nx, okS_rt, okR_ok, okS_ite, okR_ite, List.length_cons, List.length_nil, List.map_cons, List.map_nil, List.replicate, List.cons_append, List.nil_append, List.getElem?_cons_zero, List.getElem?_cons_succ, putT, List.set_cons_zero, List.set_cons_succ, okR_some, o_add, o_sub, o_mul, o_div, o_mod, o_pow, c_lt, c_le, c_gt, c_ge, c_eq, c_ne, t_bl, map_some', decide_eq_true_eq, R.bind_ok, R.ofO_some, ifs0, ifs1, compR_f, wipeE, mk_f, mk_t, sz0, sz1, sz2, sz3, sz4, sz5, sz6, if_true, dic0, dic1, len_str, len_fz, len_lv, len_tup, tup_lv, list_tup, max_i, min_i, okR_only])
variable {T : List Fn} {ic im it : Nat}
theorem cell_ok (hT : T[ic]? = some FCell) (d : Nat) (S : Store) (ns : List Int) (k : Int) (hk : 0 ≤ k) (hk2 : k < 2 ^ 60) : okR (call T (d + 1) ic [.fz (ns.map PV.int), .int k] S) fun v S' => S' = S ∧ ∃ i : Int, v = .int i := by
  refine okR_call (F := FCell) hT rfl ?_
  simp only [FCell]
  trivial
  by_cases h : k < (ns.map PV.int).length
  · rw [if_pos h, ix_fz]
    obtain ⟨x, h1, h2⟩ := atI_some hk h
    obtain ⟨i, hi, rfl⟩ := List.mem_map.mp h2
    rw [h1]
    exact done_len rfl ⟨rfl, i, rfl⟩
  · rw [if_neg h]
    exact ⟨mulOk_of (by omega) (by omega), done_len rfl ⟨rfl, _, rfl⟩⟩
theorem mixed_ok (hT : T[im]? = some FMix) (d : Nat) (S : Store) (c k : Int) (hc : 0 ≤ c) (hc2 : c < 2147483648) (hk : 0 ≤ k) (hk2 : k < 2 ^ 60) : okR (call T (d + 1) im [.int c, .int k] S) fun v S' => S' = S ∧ ∃ n : Int, v = .int n ∧ 0 ≤ n ∧ n < 2147483587 := by
  refine okR_call (F := FMix) hT rfl ?_
  simp only [FMix]
  trivial
  have h1 := Int.emod_nonneg (c + 7919 * k + 12345) (b := 2147483629) (by omega)
  have h2 := Int.emod_lt_of_pos (c + 7919 * k + 12345) (b := 2147483629) (by omega)
  generalize (c + 7919 * k + 12345) % 2147483629 = n at h1 h2 ⊢
  refine ⟨mulOk_of (by omega) (by omega), by omega, mulOk_of (by omega) (by omega), mulOk_of (by omega) (by omega), by omega, ?_⟩
  have h3 := Int.emod_nonneg (n * n + 48271 * k) (b := 2147483629) (by omega)
  have h4 := Int.emod_lt_of_pos (n * n + 48271 * k) (b := 2147483629) (by omega)
  generalize (n * n + 48271 * k) % 2147483629 = r at h3 h4 ⊢
  refine ⟨mulOk_of (by omega) (by omega), by omega, done_len rfl ⟨rfl, _, rfl, Int.emod_nonneg _ (by omega), Int.emod_lt_of_pos _ (by omega)⟩⟩
/-- the box at b, asked n times at most -/
def Bx (b n : Nat) (S : Store) : Prop := ∃ (x0 x1 x2 : Int) (r : List PV), S[b]? = some (.lst (.int x0 :: .int x1 :: .int x2 :: r)) ∧ 0 ≤ x1 ∧ x1 < 2147483648 ∧ 0 ≤ x2 ∧ x2 ≤ n
theorem Bx.lt {b n : Nat} {S : Store} (h : Bx b n S) : b < S.length := by
  obtain ⟨x0, x1, x2, r, g1, g2⟩ := h
  exact (List.getElem?_eq_some_iff.mp g1).1
theorem Bx.up {b n m : Nat} {S : Store} (h : Bx b n S) (k : n ≤ m) : Bx b m S := by
  obtain ⟨x0, x1, x2, r, g1, g2, g3, g4, g5⟩ := h
  exact ⟨x0, x1, x2, r, g1, g2, g3, g4, by omega⟩
theorem Bx.ext {b n : Nat} {S : Store} {l : Store} (h : Bx b n S) : Bx b n (S ++ l) := by
  obtain ⟨x0, x1, x2, r, g1, g2⟩ := h
  exact ⟨x0, x1, x2, r, by rw [List.getElem?_append_left (List.getElem?_eq_some_iff.mp g1).1]; exact g1, g2⟩
theorem Bx.take {b n m : Nat} {S : Store} (h : Bx b n S) (hm : b < m) : Bx b n (S.take m) := by
  obtain ⟨x0, x1, x2, r, g1, g2⟩ := h
  exact ⟨x0, x1, x2, r, by rw [List.getElem?_take, if_pos hm]; exact g1, g2⟩
/-- the store but for the box -/
def Fr (b : Nat) (S S' : Store) : Prop := S'.length = S.length ∧ ∀ j, j ≠ b → S'[j]? = S[j]?
theorem Fr.refl {b : Nat} {S : Store} : Fr b S S := ⟨rfl, fun _ _ => rfl⟩
theorem Fr.trans {b : Nat} {S S1 S2 : Store} (h : Fr b S S1) (k : Fr b S1 S2) : Fr b S S2 := ⟨k.1.trans h.1, fun j hj => (k.2 j hj).trans (h.2 j hj)⟩
/-- the box, its further cells being r -/
def Bxr (r : List PV) (b n : Nat) (S : Store) : Prop := ∃ x0 x1 x2 : Int, S[b]? = some (.lst (.int x0 :: .int x1 :: .int x2 :: r)) ∧ 0 ≤ x1 ∧ x1 < 2147483648 ∧ 0 ≤ x2 ∧ x2 ≤ n
theorem Bxr.bx {r : List PV} {b n : Nat} {S : Store} (h : Bxr r b n S) : Bx b n S := by
  obtain ⟨x0, x1, x2, g⟩ := h
  exact ⟨x0, x1, x2, r, g⟩
theorem take_r {r : List PV} (hm : T[im]? = some FMix) (ht : T[it]? = some (FTake im)) (d : Nat) (S : Store) (b n : Nat) (m : Int) (hb : Bxr r b n S) (hn : n < 2 ^ 50) (hm0 : 0 < m) (hm2 : m < 2 ^ 150) :
    okR (call T (d + 2) it [.loc b, .int m] S) fun v S' => Fr b S S' ∧ Bxr r b (n + 1) S' ∧ ∃ r : Int, v = .int r ∧ 0 ≤ r ∧ r < m := by
  obtain ⟨x0, x1, x2, h, h1, h2, h3, h4⟩ := hb
  have hlt : b < S.length := (List.getElem?_eq_some_iff.mp h).1
  refine okR_call (F := FTake im) ht rfl ?_
  simp only [FTake]
  trivial
  have fr : ∀ o, Fr b S (S.set b o) := fun o => ⟨by simp, fun j hj => List.getElem?_set_ne (Ne.symm hj)⟩
  have s0 : ∀ v, setixV S (.loc b) (.int 0) v = some (S.set b (.lst (v :: .int x1 :: .int x2 :: r))) := fun v => set_l (n := 0) h (by unfold ixN; rw [if_pos (by omega), if_pos (by simp only [List.length_cons]; omega)]; rfl)
  have s2 : ∀ v, setixV S (.loc b) (.int 2) v = some (S.set b (.lst (.int x0 :: .int x1 :: v :: r))) := fun v => set_l (n := 2) h (by unfold ixN; rw [if_pos (by omega), if_pos (by simp only [List.length_cons]; omega)]; rfl)
  repeat (simp only [ix_l h, atI0, atI2, s0, s2]; try trivial)
  by_cases hx : 0 < x0
  · rw [if_pos hx]
    refine ⟨hm0, divOk_of hm0 (by omega), ?_⟩
    refine done_len (by simp) ⟨fr _, ⟨x0 / m, x1, x2, by simp [hlt], h1, h2, h3, by omega⟩, _, rfl, Int.emod_nonneg _ (by omega), Int.emod_lt_of_pos _ hm0⟩
  · rw [if_neg hx]
    have h' : (S.set b (.lst (PV.int x0 :: .int x1 :: .int (x2 + 1) :: r)))[b]? = some (.lst (.int x0 :: .int x1 :: .int (x2 + 1) :: r)) := by simp [hlt]
    have hf := fr (.lst (PV.int x0 :: .int x1 :: .int (x2 + 1) :: r))
    generalize S.set b (.lst (PV.int x0 :: .int x1 :: .int (x2 + 1) :: r)) = S1 at h' hf ⊢
    repeat (simp only [ix_l h', atI1, atI2]; try trivial)
    refine okR_mono (mixed_ok hm d _ x1 (x2 + 1) h1 h2 (by omega) (by omega)) fun v S' ⟨hS, r', hv, hr, hr2⟩ => ?_
    subst hS hv
    try trivial
    exact ⟨hm0, done_len hf.1 ⟨hf, ⟨x0, x1, x2 + 1, h', h1, h2, by omega, by omega⟩, _, rfl, Int.emod_nonneg _ (by omega), Int.emod_lt_of_pos _ hm0⟩⟩
theorem take_ok (hm : T[im]? = some FMix) (ht : T[it]? = some (FTake im)) (d : Nat) (S : Store) (b n : Nat) (m : Int) (hb : Bx b n S) (hn : n < 2 ^ 50) (hm0 : 0 < m) (hm2 : m < 2 ^ 150) :
    okR (call T (d + 2) it [.loc b, .int m] S) fun v S' => Fr b S S' ∧ Bx b (n + 1) S' ∧ ∃ r : Int, v = .int r ∧ 0 ≤ r ∧ r < m := by
  obtain ⟨x0, x1, x2, r, g⟩ := hb
  exact okR_mono (take_r hm ht d S b n m ⟨x0, x1, x2, g⟩ hn hm0 hm2) fun v S' ⟨h1, h2, h3⟩ => ⟨h1, h2.bx, h3⟩
end
end L2.PF

set_option Elab.async false
set_option linter.all false
set_option maxRecDepth 100000
set_option maxHeartbeats 4000000
/-! PFR: words, names, kinds that a law draws. -/
namespace L2.PF
open PySem PySem.Spec PyProof.Rows
def LETS : Str := S "abcdefghijklmnopqrstuvwxyz"
/-- the def that draws a word -/
def FWord (it : Nat) : Fn := ⟨3, 1, [(.ret (.mth .join (.c (.str (S ""))) [(.comp false (.ix (.c (.str (S "abcdefghijklmnopqrstuvwxyz"))) (.fn it [(.v 0), (.c (.int 26))])) [1, 2] (.n 2) .rng1 [(.bin .Add (.c (.int 1)) (.fn it [(.v 0), (.c (.int 6))]))] [])]))], false⟩
def FName (it iw : Nat) : Fn := ⟨1, 1, [(.ite (.cmp .Eq (.fn it [(.v 0), (.c (.int 3))]) (.c (.int 0))) [(.ret (.bin .Add (.bin .Add (.fn iw [(.v 0)]) (.c (.str (S ".")))) (.fn iw [(.v 0)])))] []), (.ret (.fn iw [(.v 0)]))], false⟩
def low (c : Nat) : Bool := decide (97 ≤ c ∧ c ≤ 122)
/-- a word of small letters -/
def Wd (x : Str) : Prop := 1 ≤ x.length ∧ x.length ≤ 6 ∧ ∀ c ∈ x.cps.toList, low c = true
def Nm (x : Str) : Prop := Wd x ∨ ∃ a b, Wd a ∧ Wd b ∧ x = a ++ S "." ++ b
theorem lets_low : ∀ c ∈ (S "abcdefghijklmnopqrstuvwxyz").cps.toList, low c = true := by decide +kernel
theorem strAt_ok {x : Str} {i : Int} (h0 : 0 ≤ i) (h1 : i < x.length) : ∃ c, strAt x i = some (.str ⟨#[c]⟩) ∧ c ∈ x.cps.toList := by
  obtain ⟨c, h2, h3⟩ := atI_some (xs := x.cps.toList) h0 (by rw [← length_cps]; exact h1)
  exact ⟨c, by unfold strAt; rw [h2], h3⟩
theorem Wd.ok {x : Str} (h : Wd x) : PyData.strOk x = true := strOk_iff.mpr fun c hc => by
  have h := h.2.2 c hc
  have h := of_decide_eq_true h
  omega
/-- texts of one letter each, joined -/
theorem join_ones : ∀ cs : List Nat, (Str.join (S "") (cs.map fun c => (⟨#[c]⟩ : Str))).cps.toList = cs
  | [] => rfl
  | [c] => rfl
  | c :: d :: cs => by
    have ih := join_ones (d :: cs)
    have e : Str.join (S "") ((c :: d :: cs).map fun c => (⟨#[c]⟩ : Str)) = (⟨#[c]⟩ : Str) ++ S "" ++ Str.join (S "") ((d :: cs).map fun c => (⟨#[c]⟩ : Str)) := rfl
    rw [e, cps_append, cps_append, ih, show (S "").cps.toList = [] by decide +kernel]
    rfl
theorem strsOf_ones : ∀ cs : List Nat, strsOf (cs.map fun c => PV.str ⟨#[c]⟩) = some (cs.map fun c => (⟨#[c]⟩ : Str))
  | [] => rfl
  | c :: cs => by rw [List.map_cons, strsOf, strsOf_ones cs]; rfl
theorem sum_ones : ∀ cs : List Nat, ((cs.map fun c => (⟨#[c]⟩ : Str)).map (·.length)).sum = cs.length
  | [] => rfl
  | c :: cs => by
    rw [List.map_cons, List.map_cons, List.sum_cons, sum_ones cs, List.length_cons]
    show 1 + cs.length = _
    omega
section
local macro_rules | `(tactic| trivial) => `(tactic| simp only [startE, exs, ex, ev, evs, okS_then, okS_toS, okR_bind, okS_nx, okS_rt, okR_ok, okS_ite, okR_ite, List.length_cons, List.length_nil, List.map_cons, List.map_nil, List.replicate, List.cons_append, List.nil_append, List.getElem?_cons_zero, List.getElem?_cons_succ, putT, List.set_cons_zero, List.set_cons_succ, okR_some, o_add, o_sub, o_mul, o_div, o_mod, o_pow, c_lt, c_le, c_gt, c_ge, c_eq, c_ne, t_bl, map_some', decide_eq_true_eq, R.bind_ok, R.ofO_some, ifs0, ifs1, compR_f, wipeE, mk_f, mk_t, sz0, sz1, sz2, sz3, sz4, sz5, sz6, if_true, dic0, dic1, len_str, len_fz, len_lv, len_tup, tup_lv, list_tup, max_i, min_i, okR_only])
variable {T : List Fn} {ic im it iw iN : Nat}
theorem word_ok (hm : T[im]? = some FMix) (ht : T[it]? = some (FTake im)) (hw : T[iw]? = some (FWord it)) (d : Nat) (S : Store) (b n : Nat) (hb : Bx b n S) (hn : n < 2 ^ 49) :
    okR (call T (d + 3) iw [.loc b] S) fun v S' => Fr b S S' ∧ Bx b (n + 7) S' ∧ ∃ x, v = .str x ∧ Wd x := by
  refine okR_call (F := FWord it) hw rfl ?_
  simp only [FWord]
  trivial
  rw [show mthIs .join S (.str (PF.S "")) = true from rfl, if_pos rfl]
  refine okR_mono (take_ok hm ht d S b n 6 hb (by omega) (by omega) (by omega)) fun v S1 ⟨hf, hb1, r, hv, hr, hr2⟩ => ?_
  subst hv
  try trivial
  rw [iter_rng (by omega) (by omega)]
  try trivial
  refine compL_ok (fun (i : Nat) (a : List PV) (S' : Store) => Fr b S S' ∧ Bx b (n + 1 + i) S' ∧ ∃ cs : List Nat, a = (cs.map fun c => PV.str ⟨#[c]⟩) ∧ cs.length = i ∧ ∀ c ∈ cs, low c = true) ⟨hf, hb1, [], rfl, rfl, fun v h => by cases h⟩ (fun _ _ _ _ _ => rfl) ?_ ?_
  · rintro i x a S2 hx ⟨hf2, hb2, cs, rfl, ha, hall⟩
    obtain ⟨rfl, hi⟩ := intRow_at hx
    try trivial
    refine okR_mono (take_ok hm ht d S2 b _ 26 hb2 (by omega) (by omega) (by omega)) fun v S3 ⟨hf3, hb3, r2, hv, h0, h1⟩ => ?_
    subst hv
    obtain ⟨c, e1, e2⟩ := strAt_ok (x := PF.S "abcdefghijklmnopqrstuvwxyz") h0 h1
    rw [ix_str, e1]
    try trivial
    refine ⟨hf2.trans hf3, by rw [show n + 1 + (i + 1) = n + 1 + i + 1 by omega]; exact hb3, cs ++ [c], by simp, by simp [ha], fun z hz => ?_⟩
    rcases List.mem_append.mp hz with h | h
    · exact hall z h
    · rw [List.mem_singleton.mp h]; exact lets_low c e2
  · rintro a S2 ⟨hf2, hb2, cs, rfl, ha, hall⟩
    try trivial
    rw [intRow_length] at ha hb2
    have ej : mthV .join S2 (.str (PF.S "")) [.lv (cs.map fun c => PV.str ⟨#[c]⟩)] = .ok (.str (Txt.join (PF.S "") (cs.map fun c => (⟨#[c]⟩ : Str)))) S2 := by
      simp only [mthV, litems, strsOf_ones]
      rw [if_pos]
      rw [sum_ones, show (PF.S "").length = 0 by decide +kernel]
      omega
    rw [ej, TL.join_eq]
    refine done_len hf2.1 ⟨hf2, hb2.up (by omega), _, rfl, ?_, ?_, ?_⟩
    · rw [length_cps, join_ones]; omega
    · rw [length_cps, join_ones]; omega
    · rw [join_ones]; exact hall
theorem name_ok (hm : T[im]? = some FMix) (ht : T[it]? = some (FTake im)) (hw : T[iw]? = some (FWord it)) (hN : T[iN]? = some (FName it iw)) (d : Nat) (S : Store) (b n : Nat) (hb : Bx b n S) (hn : n < 2 ^ 48) :
    okR (call T (d + 4) iN [.loc b] S) fun v S' => Fr b S S' ∧ Bx b (n + 15) S' ∧ ∃ x, v = .str x ∧ Nm x := by
  refine okR_call (F := FName it iw) hN rfl ?_
  simp only [FName]
  trivial
  refine okR_mono (take_ok hm ht (d + 1) S b n 3 hb (by omega) (by omega) (by omega)) fun v S1 ⟨hf, hb1, r, hv, hr, hr2⟩ => ?_
  subst hv
  try trivial
  by_cases h0 : r = 0
  · rw [if_pos h0]
    refine okR_mono (word_ok hm ht hw d S1 b _ hb1 (by omega)) fun v S2 ⟨hf2, hb2, x, hv, hx⟩ => ?_
    subst hv
    rw [o_cat]
    have l1 : (PF.S ".").length = 1 := by decide +kernel
    refine ⟨by have := hx.2.1; rw [l1, sizeLine_eq]; omega, ?_⟩
    refine okR_mono (word_ok hm ht hw d S2 b _ hb2 (by omega)) fun v S3 ⟨hf3, hb3, y, hv, hy⟩ => ?_
    subst hv
    rw [o_cat]
    refine ⟨?_, ?_⟩
    · have h1 := hx.2.1
      have h2 := hy.2.1
      rw [show (x ++ PF.S ".").length = x.length + 1 by rw [length_cps, cps_append, List.length_append, ← length_cps, ← length_cps, l1], sizeLine_eq]
      omega
    · have hf4 := (hf.trans hf2).trans hf3
      exact done_len hf4.1 ⟨hf4, hb3.up (by omega), _, rfl, .inr ⟨x, y, hx, hy, rfl⟩⟩
  · rw [if_neg h0]
    refine okR_mono (word_ok hm ht hw d S1 b _ hb1 (by omega)) fun v S2 ⟨hf2, hb2, x, hv, hx⟩ => ?_
    subst hv
    have hf4 := hf.trans hf2
    exact done_len hf4.1 ⟨hf4, hb2.up (by omega), _, rfl, .inl hx⟩
end
end L2.PF

set_option Elab.async false
set_option linter.all false
set_option maxRecDepth 100000
set_option maxHeartbeats 4000000
/-! PFS: kinds that a law draws. -/
namespace L2.PF
open PySem PySem.Spec PyProof.Rows
def FKind (it ik : Nat) : Fn := ⟨8, 4, [(.set (.n 4) (.fn it [(.v 0), (.c (.int 8))])),
    (.ite (.or (.cmp .Lt (.v 3) (.c (.int 1))) (.cmp .Lt (.v 4) (.c (.int 2)))) [(.ret (.ix (.lst false [(.tup [(.c (.str (S "num")))]), (.tup [(.c (.str (S "open"))), (.fn it [(.v 0), (.v 2)])])]) (.bin .Mod (.v 4) (.c (.int 2)))))] []),
    (.ite (.cmp .Eq (.v 4) (.c (.int 2))) [(.ret (.tup [(.c (.str (S "open"))), (.fn it [(.v 0), (.v 2)])]))] []),
    (.ite (.cmp .Lt (.v 4) (.c (.int 5))) [(.ret (.tup [(.c (.str (S "fn"))), (.fn ik [(.v 0), (.v 1), (.v 2), (.bin .Sub (.v 3) (.c (.int 1)))]), (.fn ik [(.v 0), (.v 1), (.v 2), (.bin .Sub (.v 3) (.c (.int 1)))])]))] []),
    (.ite (.cmp .Eq (.v 4) (.c (.int 5))) [(.ret (.tup [(.c (.str (S "ref"))), (.fn ik [(.v 0), (.v 1), (.v 2), (.bin .Sub (.v 3) (.c (.int 1)))])]))] []),
    (.set (.n 5) (.ix (.v 1) (.fn it [(.v 0), (.blt .len [(.v 1)])]))),
    (.ret (.tup [(.c (.str (S "made"))), (.v 5), (.blt .tuple1 [(.comp false (.fn ik [(.v 0), (.v 1), (.v 2), (.bin .Sub (.v 3) (.c (.int 1)))]) [6, 7] (.n 7) .rng1 [(.fn it [(.v 0), (.c (.int 3))])] [])])]))], false⟩
/-- a kind, n within one another at most, its open names below m -/
def Kd (m : Int) : Nat → PV → Prop
  | 0, _ => False
  | n + 1, v => v = .tup [.str (S "num")] ∨ (∃ i : Int, 0 ≤ i ∧ i < m ∧ v = .tup [.str (S "open"), .int i]) ∨ (∃ a b, Kd m n a ∧ Kd m n b ∧ v = .tup [.str (S "fn"), a, b]) ∨ (∃ a, Kd m n a ∧ v = .tup [.str (S "ref"), a]) ∨
      ∃ (x : Str) (ks : List PV), Nm x ∧ ks.length ≤ 2 ∧ (∀ k ∈ ks, Kd m n k) ∧ v = .tup [.str (S "made"), .str x, .tup ks]
theorem Kd.up {m : Int} : ∀ {n k : Nat} {v : PV}, Kd m n v → n ≤ k → Kd m k v
  | 0, _, _, h, _ => h.elim
  | n + 1, 0, _, _, h => absurd h (by omega)
  | n + 1, k + 1, v, h, hk => by
    have hk : n ≤ k := by omega
    rcases h with h | h | ⟨a, b, h1, h2, h⟩ | ⟨a, h1, h⟩ | ⟨x, ks, h1, h2, h3, h⟩
    · exact .inl h
    · exact .inr (.inl h)
    · exact .inr (.inr (.inl ⟨a, b, h1.up hk, h2.up hk, h⟩))
    · exact .inr (.inr (.inr (.inl ⟨a, h1.up hk, h⟩)))
    · exact .inr (.inr (.inr (.inr ⟨x, ks, h1, h2, fun k' hk' => (h3 k' hk').up hk, h⟩)))
section
local macro_rules | `(tactic| trivial) => `(tactic| simp only [startE, exs, ex, ev, evs, okS_then, okS_toS, okR_bind, okS_nx, okS_rt, okR_ok, okS_ite, okR_ite, List.length_cons, List.length_nil, List.map_cons, List.map_nil, List.replicate, List.cons_append, List.nil_append, List.getElem?_cons_zero, List.getElem?_cons_succ, putT, List.set_cons_zero, List.set_cons_succ, okR_some, o_add, o_sub, o_mul, o_div, o_mod, o_pow, c_lt, c_le, c_gt, c_ge, c_eq, c_ne, t_bl, map_some', decide_eq_true_eq, R.bind_ok, R.ofO_some, ifs0, ifs1, compR_f, wipeE, mk_f, mk_t, sz0, sz1, sz2, sz3, sz4, sz5, sz6, if_true, dic0, dic1, len_str, len_fz, len_lv, len_tup, tup_lv, list_tup, max_i, min_i, okR_only])
variable {T : List Fn} {ic im it iw iN ik : Nat}
theorem pow4 (k : Nat) : 1 ≤ 4 ^ k := Nat.one_le_pow _ _ (by omega)
theorem knd_ok (hm : T[im]? = some FMix) (ht : T[it]? = some (FTake im)) (hk : T[ik]? = some (FKind it ik)) (b : Nat) (names : List PV) (hN : ∀ v ∈ names, ∃ x, v = .str x ∧ Nm x) (hN0 : names ≠ []) (hNl : names.length ≤ 100) (m : Int) (m0 : 0 < m) (m1 : m < 2 ^ 100) :
    ∀ (dp d n : Nat) (S : Store), Bx b n S → n + 8 ^ (dp + 1) < 2 ^ 48 → okR (call T (d + dp + 3) ik [.loc b, .lv names, .int m, .int dp] S) fun v S' => Fr b S S' ∧ Bx b (n + 8 ^ (dp + 1)) S' ∧ Kd m (dp + 1) v := by
  intro dp
  induction dp with
  | zero =>
    intro d n S hb hn
    refine okR_call (F := FKind it ik) hk rfl ?_
    simp only [FKind]
    trivial
    refine okR_mono (take_ok hm ht (d + 0) S b n 8 hb (by omega) (by omega) (by omega)) fun v S1 ⟨hf, hb1, r, hv, hr, hr2⟩ => ?_
    subst hv
    try trivial
    rw [if_pos (by omega)]
    refine okR_mono (take_ok hm ht (d + 0) S1 b _ m hb1 (by omega) m0 (by omega)) fun v S2 ⟨hf2, hb2, r2, hv, h0, h1⟩ => ?_
    subst hv
    try trivial
    refine ⟨by omega, ?_⟩
    obtain ⟨x, e1, e2⟩ := atI_some (xs := [PV.tup [.str (PF.S "num")], .tup [.str (PF.S "open"), .int r2]]) (i := r % 2) (by omega) (by simp only [List.length_cons, List.length_nil]; omega)
    rw [ix_lv, e1]
    have hf3 := hf.trans hf2
    refine done_len hf3.1 ⟨hf3, hb2.up (by omega), ?_⟩
    rcases List.mem_cons.mp e2 with e | e
    · exact .inl e
    · exact .inr (.inl ⟨r2, h0, h1, List.mem_singleton.mp e⟩)
  | succ dp ih =>
    intro d n S hb hn
    have hp : 8 ^ (dp + 1 + 1) = 8 * 8 ^ (dp + 1) := by rw [Nat.pow_succ]; omega
    have hp1 : 8 ≤ 8 ^ (dp + 1) := by
      have : 1 ≤ 8 ^ dp := Nat.one_le_pow _ _ (by omega)
      rw [Nat.pow_succ]; omega
    have rec_ : ∀ (n : Nat) (S : Store), Bx b n S → n + 8 ^ (dp + 1) < 2 ^ 48 → okR (call T (d + (dp + 1) + 2) ik [.loc b, .lv names, .int m, .int (((dp + 1 : Nat) : Int) - 1)] S) fun v S' => Fr b S S' ∧ Bx b (n + 8 ^ (dp + 1)) S' ∧ Kd m (dp + 1) v := fun n S h1 h2 => by
      have := ih d n S h1 h2
      rw [show (((dp + 1 : Nat) : Int) - 1) = (dp : Int) by omega]
      exact this
    refine okR_call (F := FKind it ik) hk rfl ?_
    simp only [FKind]
    trivial
    refine okR_mono (take_ok hm ht (d + dp + 1) S b n 8 hb (by omega) (by omega) (by omega)) fun v S1 ⟨hf, hb1, r, hv, hr, hr2⟩ => ?_
    subst hv
    try trivial
    rw [if_neg (by omega)]
    try trivial
    by_cases h2 : r < 2
    · rw [if_pos h2]
      refine okR_mono (take_ok hm ht (d + dp + 1) S1 b _ m hb1 (by omega) m0 (by omega)) fun v S2 ⟨hf2, hb2, r2, hv, h0, h1⟩ => ?_
      subst hv
      try trivial
      refine ⟨by omega, ?_⟩
      obtain ⟨x, e1, e2⟩ := atI_some (xs := [PV.tup [.str (PF.S "num")], .tup [.str (PF.S "open"), .int r2]]) (i := r % 2) (by omega) (by simp only [List.length_cons, List.length_nil]; omega)
      rw [ix_lv, e1]
      have hf3 := hf.trans hf2
      refine done_len hf3.1 ⟨hf3, hb2.up (by omega), ?_⟩
      rcases List.mem_cons.mp e2 with e | e
      · exact .inl e
      · exact .inr (.inl ⟨r2, h0, h1, List.mem_singleton.mp e⟩)
    rw [if_neg h2]
    by_cases h3 : r = 2
    · rw [if_pos h3]
      refine okR_mono (take_ok hm ht (d + dp + 1) S1 b _ m hb1 (by omega) m0 (by omega)) fun v S2 ⟨hf2, hb2, r2, hv, h0, h1⟩ => ?_
      subst hv
      try trivial
      have hf3 := hf.trans hf2
      exact done_len hf3.1 ⟨hf3, hb2.up (by omega), .inr (.inl ⟨r2, h0, h1, rfl⟩)⟩
    rw [if_neg h3]
    by_cases h5 : r < 5
    · rw [if_pos h5]
      refine okR_mono (rec_ _ S1 hb1 (by omega)) fun v S2 ⟨hf2, hb2, k1⟩ => ?_
      refine okR_mono (rec_ _ S2 hb2 (by omega)) fun u S3 ⟨hf3, hb3, k2⟩ => ?_
      try trivial
      have hf4 := (hf.trans hf2).trans hf3
      exact done_len hf4.1 ⟨hf4, hb3.up (by omega), .inr (.inr (.inl ⟨_, _, k1, k2, rfl⟩))⟩
    rw [if_neg h5]
    by_cases h6 : r = 5
    · rw [if_pos h6]
      refine okR_mono (rec_ _ S1 hb1 (by omega)) fun v S2 ⟨hf2, hb2, k1⟩ => ?_
      try trivial
      have hf4 := hf.trans hf2
      exact done_len hf4.1 ⟨hf4, hb2.up (by omega), .inr (.inr (.inr (.inl ⟨_, k1, rfl⟩)))⟩
    rw [if_neg h6]
    have hl0 : 0 < names.length := List.length_pos_iff.mpr hN0
    refine okR_mono (take_ok hm ht (d + dp + 1) S1 b _ (names.length : Int) hb1 (by omega) (by omega) (by omega)) fun v S2 ⟨hf2, hb2, r2, hv, h0, h1⟩ => ?_
    subst hv
    obtain ⟨x, e1, e2⟩ := atI_some (xs := names) h0 h1
    obtain ⟨y, rfl, hy⟩ := hN x e2
    rw [ix_lv, e1]
    try trivial
    refine okR_mono (take_ok hm ht (d + dp + 1) S2 b _ 3 hb2 (by omega) (by omega) (by omega)) fun v S3 ⟨hf3, hb3, r3, hv, h30, h31⟩ => ?_
    subst hv
    rw [iter_rng h30 (by omega)]
    try trivial
    have hf4 := (hf.trans hf2).trans hf3
    refine compL_ok (fun (i : Nat) (a : List PV) (S' : Store) => Fr b S S' ∧ Bx b (n + 3 + i * 8 ^ (dp + 1)) S' ∧ a.length = i ∧ ∀ k ∈ a, Kd m (dp + 1) k) ⟨hf4, hb3.up (by omega), rfl, fun v h => by cases h⟩ (fun _ _ _ _ _ => rfl) ?_ ?_
    · rintro i x a S4 hx ⟨hf5, hb5, ha, hall⟩
      obtain ⟨rfl, hi⟩ := intRow_at hx
      try trivial
      have hi2 : i * 8 ^ (dp + 1) ≤ 2 * 8 ^ (dp + 1) := Nat.mul_le_mul_right _ (by omega)
      refine okR_mono (rec_ _ S4 hb5 (by omega)) fun v S5 ⟨hf6, hb6, k1⟩ => ?_
      refine ⟨hf5.trans hf6, by rw [Nat.add_mul, Nat.one_mul]; exact hb6.up (by omega), by simp [ha], fun k hk => ?_⟩
      rcases List.mem_append.mp hk with h | h
      · exact hall k h
      · rw [List.mem_singleton.mp h]; exact k1
    · rintro a S4 ⟨hf5, hb5, ha, hall⟩
      rw [intRow_length] at ha hb5
      try trivial
      have hi2 : r3.toNat * 8 ^ (dp + 1) ≤ 2 * 8 ^ (dp + 1) := Nat.mul_le_mul_right _ (by omega)
      exact done_len hf5.1 ⟨hf5, hb5.up (by omega), .inr (.inr (.inr (.inr ⟨y, a, hy, by omega, hall, rfl⟩)))⟩
def FDeep (it : Nat) (n : Int) : Fn := ⟨7, 3, [(.set (.n 3) (.tup [(.c (.str (S "open"))), (.fn it [(.v 0), (.v 2)])])),
    (.set (.n 4) (.tup [(.c (.str (S "fn"))), (.tup [(.c (.str (S "num")))]), (.tup [(.c (.str (S "num")))])])),
    (.forS (.n 5) .rng1 [(.c (.int n))] [(.set (.n 6) (.fn it [(.v 0), (.c (.int 4))])),
    (.set (.n 3) (.ix (.lst false [(.tup [(.c (.str (S "fn"))), (.v 3), (.v 4)]), (.tup [(.c (.str (S "fn"))), (.v 4), (.v 3)]), (.tup [(.c (.str (S "ref"))), (.v 3)]), (.tup [(.c (.str (S "made"))), (.ix (.v 1) (.c (.int 0))), (.tup [(.v 4), (.v 3)])])]) (.v 6)))]),
    (.ret (.v 3))], false⟩
theorem deep_ok {idp : Nat} {cnt : Int} (hm : T[im]? = some FMix) (ht : T[it]? = some (FTake im)) (hd : T[idp]? = some (FDeep it cnt)) (c0 : 0 ≤ cnt) (c1 : cnt ≤ 1000) (b : Nat) (x0 : Str) (names : List PV) (hx0 : Nm x0) (m : Int) (m0 : 0 < m) (m1 : m < 2 ^ 100)
    (d n : Nat) (S : Store) (hb : Bx b n S) (hn : n < 2 ^ 48) : okR (call T (d + 3) idp [.loc b, .lv (.str x0 :: names), .int m] S) fun v S' => Fr b S S' ∧ Bx b (n + cnt.toNat + 1) S' ∧ Kd m (cnt.toNat + 2) v := by
  refine okR_call (F := FDeep it cnt) hd rfl ?_
  simp only [FDeep]
  trivial
  refine okR_mono (take_ok hm ht d S b n m hb (by omega) m0 (by omega)) fun v S1 ⟨hf, hb1, r, hv, hr, hr2⟩ => ?_
  subst hv
  try trivial
  rw [iter_rng c0 (by omega)]
  try trivial
  have hbs : ∀ k, Kd m (k + 2) (.tup [.str (PF.S "fn"), .tup [.str (PF.S "num")], .tup [.str (PF.S "num")]]) := fun k => .inr (.inr (.inl ⟨_, _, .inl rfl, .inl rfl, rfl⟩))
  refine forL_ok (fun (i : Nat) (e : Env) (S' : Store) => Fr b S S' ∧ Bx b (n + 1 + i) S' ∧ ∃ v o5 o6, e = [some (.loc b), some (.lv (.str x0 :: names)), some (.int m), some v, some (.tup [.str (PF.S "fn"), .tup [.str (PF.S "num")], .tup [.str (PF.S "num")]]), o5, o6] ∧ Kd m (i + 2) v)
    ⟨hf, hb1, _, _, _, rfl, .inr (.inl ⟨r, hr, hr2, rfl⟩)⟩ (fun _ _ _ _ _ => rfl) ?_ ?_
  · rintro i x e S2 hx ⟨hf2, hb2, v, o5, o6, rfl, hv⟩
    obtain ⟨rfl, hi⟩ := intRow_at hx
    try trivial
    refine okR_mono (take_ok hm ht d S2 b _ 4 hb2 (by omega) (by omega) (by omega)) fun u S3 ⟨hf3, hb3, r3, hu, h0, h1⟩ => ?_
    subst hu
    try trivial
    rw [ix_lv, atI0]
    try trivial
    obtain ⟨y, e1, e2⟩ := atI_some (xs := [PV.tup [.str (PF.S "fn"), v, .tup [.str (PF.S "fn"), .tup [.str (PF.S "num")], .tup [.str (PF.S "num")]]], .tup [.str (PF.S "fn"), .tup [.str (PF.S "fn"), .tup [.str (PF.S "num")], .tup [.str (PF.S "num")]], v], .tup [.str (PF.S "ref"), v],
      .tup [.str (PF.S "made"), .str x0, .tup [.tup [.str (PF.S "fn"), .tup [.str (PF.S "num")], .tup [.str (PF.S "num")]], v]]]) (i := r3) h0 (by simp only [List.length_cons, List.length_nil]; omega)
    rw [ix_lv, e1]
    try trivial
    refine ⟨hf2.trans hf3, by rw [show n + 1 + (i + 1) = n + 1 + i + 1 by omega]; exact hb3, y, _, _, rfl, ?_⟩
    simp only [List.mem_cons, List.not_mem_nil, or_false] at e2
    rcases e2 with e | e | e | e
    · exact .inr (.inr (.inl ⟨_, _, hv, hbs i, e⟩))
    · exact .inr (.inr (.inl ⟨_, _, hbs i, hv, e⟩))
    · exact .inr (.inr (.inr (.inl ⟨_, hv, e⟩)))
    · refine .inr (.inr (.inr (.inr ⟨x0, _, hx0, ?_, fun k hk => ?_, e⟩)))
      · simp
      · rcases List.mem_cons.mp hk with z | z
        · rw [z]; exact hbs i
        · rw [List.mem_singleton.mp z]; exact hv
  · rintro e S2 ⟨hf2, hb2, v, o5, o6, rfl, hv⟩
    rw [intRow_length] at hb2 hv
    try trivial
    exact done_len hf2.1 ⟨hf2, hb2.up (by omega), hv⟩
def FBox3 (ic : Nat) : Fn := ⟨3, 2, [(.set (.n 2) (.fn ic [(.v 0), (.v 1)])),
    (.ite (.cmp .GtE (.v 2) (.bin .Pow (.c (.int 10)) (.c (.int 18)))) [(.ret (.lst true [(.v 2), (.c (.int 0)), (.c (.int 0))]))] []),
    (.ret (.lst true [(.c (.int 0)), (.bin .Mod (.v 2) (.c (.int 2147483647))), (.c (.int 0))]))], false⟩
theorem box3_ok {ib : Nat} (hc : T[ic]? = some FCell) (hb : T[ib]? = some (FBox3 ic)) (d : Nat) (S : Store) (ns : List Int) (k : Int) (hk : 0 ≤ k) (hk2 : k < 2 ^ 60) :
    okR (call T (d + 2) ib [.fz (ns.map PV.int), .int k] S) fun v S' => v = .loc S.length ∧ (∃ o, S' = S ++ [o]) ∧ Bx S.length 0 S' := by
  refine okR_call (F := FBox3 ic) hb rfl ?_
  simp only [FBox3]
  trivial
  refine okR_mono (cell_ok hc d S ns k hk hk2) fun v S' ⟨hS, i, hv⟩ => ?_
  subst hS hv
  try trivial
  refine ⟨pow_ok.1, ?_⟩
  by_cases h : (10 : Int) ^ Int.toNat 18 ≤ i
  · rw [if_pos h]
    exact done_keep (by simp [PV.und]) ⟨rfl, ⟨_, rfl⟩, i, 0, 0, [], List.getElem?_concat_length, by omega, by omega, Int.le_refl _, Int.le_refl _⟩
  · rw [if_neg h]
    try trivial
    have h1 := Int.emod_nonneg i (b := 2147483647) (by omega)
    have h2 := Int.emod_lt_of_pos i (b := 2147483647) (by omega)
    first
      | exact ⟨by omega, done_keep (by simp [PV.und]) ⟨rfl, ⟨_, rfl⟩, 0, i % 2147483647, 0, [], List.getElem?_concat_length, h1, by omega, Int.le_refl _, Int.le_refl _⟩⟩
      | exact done_keep (by simp [PV.und]) ⟨rfl, ⟨_, rfl⟩, 0, i % 2147483647, 0, [], List.getElem?_concat_length, h1, by omega, Int.le_refl _, Int.le_refl _⟩
end
end L2.PF

set_option Elab.async false
set_option linter.all false
set_option maxRecDepth 100000
set_option maxHeartbeats 4000000
/-! PFT: what the package and a law ask of a kind. -/
namespace L2.PF
open PySem PySem.Spec PyProof.Rows
theorem c_eq_str {S : Store} {x y : Str} : cmpV .Eq S (.str x) (.str y) = some (decide (x = y)) := by
  show eqD S (.str x) (.str y) = _
  rw [eqD_flat rfl rfl]
  rfl
theorem c_ne_str {S : Store} {x y : Str} : cmpV .NotEq S (.str x) (.str y) = some (!decide (x = y)) := by
  show (cmpV .Eq S (.str x) (.str y)).map (!·) = _
  rw [c_eq_str]; rfl
def Tg5 (t : Str) : Prop := t = S "num" ∨ t = S "open" ∨ t = S "fn" ∨ t = S "ref" ∨ t = S "made"
theorem Tg5.ok {t : Str} (h : Tg5 t) : PyData.strOk t = true := by
  rcases h with h | h | h | h | h <;> (rw [h]; decide +kernel)
/-- a tag against a tag -/
theorem tg_eq {St : Store} : ∀ x ∈ ["num", "open", "fn", "ref", "made"], ∀ y ∈ ["num", "open", "fn", "ref", "made"], cmpV .Eq St (.str (S x)) (.str (S y)) = some (decide (x = y)) := by
  intro x hx y hy
  have h2 : ∀ x ∈ ["num", "open", "fn", "ref", "made"], ∀ y ∈ ["num", "open", "fn", "ref", "made"], decide (S x = S y) = decide (x = y) := by decide +kernel
  rw [c_eq_str, h2 x hx y hy]
theorem tmm {St : Store} : cmpV .Eq St (.str (S "made")) (.str (S "made")) = some true := tg_eq "made" (by simp) "made" (by simp)
theorem tnm {St : Store} : cmpV .Eq St (.str (S "num")) (.str (S "made")) = some false := tg_eq "num" (by simp) "made" (by simp)
theorem tom {St : Store} : cmpV .Eq St (.str (S "open")) (.str (S "made")) = some false := tg_eq "open" (by simp) "made" (by simp)
theorem tfm {St : Store} : cmpV .Eq St (.str (S "fn")) (.str (S "made")) = some false := tg_eq "fn" (by simp) "made" (by simp)
theorem trm {St : Store} : cmpV .Eq St (.str (S "ref")) (.str (S "made")) = some false := tg_eq "ref" (by simp) "made" (by simp)
theorem tnf {St : Store} : cmpV .Eq St (.str (S "num")) (.str (S "fn")) = some false := tg_eq "num" (by simp) "fn" (by simp)
theorem tof {St : Store} : cmpV .Eq St (.str (S "open")) (.str (S "fn")) = some false := tg_eq "open" (by simp) "fn" (by simp)
theorem tff {St : Store} : cmpV .Eq St (.str (S "fn")) (.str (S "fn")) = some true := tg_eq "fn" (by simp) "fn" (by simp)
theorem trf {St : Store} : cmpV .Eq St (.str (S "ref")) (.str (S "fn")) = some false := tg_eq "ref" (by simp) "fn" (by simp)
theorem tnr {St : Store} : cmpV .Eq St (.str (S "num")) (.str (S "ref")) = some false := tg_eq "num" (by simp) "ref" (by simp)
theorem tor {St : Store} : cmpV .Eq St (.str (S "open")) (.str (S "ref")) = some false := tg_eq "open" (by simp) "ref" (by simp)
theorem trr {St : Store} : cmpV .Eq St (.str (S "ref")) (.str (S "ref")) = some true := tg_eq "ref" (by simp) "ref" (by simp)
theorem tno {St : Store} : cmpV .Eq St (.str (S "num")) (.str (S "open")) = some false := tg_eq "num" (by simp) "open" (by simp)
theorem too {St : Store} : cmpV .Eq St (.str (S "open")) (.str (S "open")) = some true := tg_eq "open" (by simp) "open" (by simp)
theorem tfo {St : Store} : cmpV .Eq St (.str (S "fn")) (.str (S "open")) = some false := tg_eq "fn" (by simp) "open" (by simp)
theorem tro {St : Store} : cmpV .Eq St (.str (S "ref")) (.str (S "open")) = some false := tg_eq "ref" (by simp) "open" (by simp)
theorem tmo {St : Store} : cmpV .Eq St (.str (S "made")) (.str (S "open")) = some false := tg_eq "made" (by simp) "open" (by simp)
theorem tnn {St : Store} : cmpV .Eq St (.str (S "num")) (.str (S "num")) = some true := tg_eq "num" (by simp) "num" (by simp)
theorem tfn_ {St : Store} : cmpV .Eq St (.str (S "fn")) (.str (S "num")) = some false := tg_eq "fn" (by simp) "num" (by simp)
theorem trn {St : Store} : cmpV .Eq St (.str (S "ref")) (.str (S "num")) = some false := tg_eq "ref" (by simp) "num" (by simp)
theorem tmn {St : Store} : cmpV .Eq St (.str (S "made")) (.str (S "num")) = some false := tg_eq "made" (by simp) "num" (by simp)
theorem ton {St : Store} : cmpV .Eq St (.str (S "open")) (.str (S "num")) = some false := tg_eq "open" (by simp) "num" (by simp)
/-- t in ('fn', 'ref') -/
theorem in_fr {St : Store} : ∀ x ∈ ["num", "open", "fn", "ref", "made"], cmpV .In St (.str (S x)) (.tup [.str (S "fn"), .str (S "ref")]) = some (decide (x = "fn" ∨ x = "ref")) := by
  intro x hx
  have h2 : ∀ x ∈ ["num", "open", "fn", "ref", "made"], ([PV.str (S "fn"), .str (S "ref")].any fun z => eqP z (.str (S x))) = decide (x = "fn" ∨ x = "ref") := by decide +kernel
  rw [← h2 x hx]
  rfl
/-- what lies within a kind -/
def kids : PV → List PV
  | .tup [.str _, .str _, .tup ks] => ks
  | .tup [.str _, .int _] => []
  | .tup (.str _ :: r) => r
  | _ => []
theorem Kd.tup {m : Int} : ∀ {n : Nat} {v : PV}, Kd m n v → ∃ xs, v = .tup xs
  | 0, _, h => h.elim
  | n + 1, v, h => by
    rcases h with rfl | ⟨i, h1, h2, rfl⟩ | ⟨a, b, h1, h2, rfl⟩ | ⟨a, h1, rfl⟩ | ⟨x, ks, h1, h2, h3, rfl⟩ <;> exact ⟨_, rfl⟩
theorem kids_fn {m : Int} {n : Nat} {t : Str} {a b : PV} (h : Kd m n a) : kids (.tup [.str t, a, b]) = [a, b] := by
  obtain ⟨xs, rfl⟩ := h.tup
  rfl
theorem kids_ref {m : Int} {n : Nat} {t : Str} {a : PV} (h : Kd m n a) : kids (.tup [.str t, a]) = [a] := by
  obtain ⟨xs, rfl⟩ := h.tup
  rfl
theorem Kd.kids {m : Int} {n : Nat} {v : PV} (h : Kd m (n + 1) v) : ∀ k ∈ kids v, Kd m n k := by
  rcases h with rfl | ⟨i, h1, h2, rfl⟩ | ⟨a, b, h1, h2, rfl⟩ | ⟨a, h1, rfl⟩ | ⟨x, ks, h1, h2, h3, rfl⟩
  · intro k hk; cases hk
  · intro k hk; cases hk
  · rw [kids_fn h1]
    intro k hk
    rcases List.mem_cons.mp hk with e | e
    · rw [e]; exact h1
    · rw [List.mem_singleton.mp e]; exact h2
  · rw [kids_ref h1]
    intro k hk
    rw [List.mem_singleton.mp hk]; exact h1
  · exact h3
theorem Kd.kids_len {m : Int} {n : Nat} {v : PV} (h : Kd m (n + 1) v) : (PF.kids v).length ≤ 2 := by
  rcases h with rfl | ⟨i, h1, h2, rfl⟩ | ⟨a, b, h1, h2, rfl⟩ | ⟨a, h1, rfl⟩ | ⟨x, ks, h1, h2, h3, rfl⟩
  · exact Nat.zero_le _
  · exact Nat.zero_le _
  · rw [kids_fn h1]; simp
  · rw [kids_ref h1]; simp
  · exact h2
theorem sl1 {S : Store} {x : PV} {xs : List PV} : slV S (.tup (x :: xs)) (some 1) none = some (.tup xs) := by
  show some (PV.tup (cutP (x :: xs) (some 1) none)) = _
  unfold cutP
  rw [HT.sIx_none, show HT.sIx (x :: xs).length 0 (some 1) = 1 by
    rw [show (some (1 : Int)) = some ((1 : Nat) : Int) from rfl, HT.sIx_nat]
    simp only [List.length_cons]
    omega]
  simp
def FWithin : Fn := ⟨1, 1, [(.ite (.cmp .Eq (.ix (.v 0) (.c (.int 0))) (.c (.str (S "made")))) [(.ret (.ix (.v 0) (.c (.int 2))))] []),
    (.ite (.or (.cmp .Eq (.ix (.v 0) (.c (.int 0))) (.c (.str (S "fn")))) (.cmp .Eq (.ix (.v 0) (.c (.int 0))) (.c (.str (S "ref"))))) [(.ret (.sl (.v 0) (.num (.c (.int 1))) (.c .non)))] []),
    (.ret (.tup []))], false⟩
def FLWithin : Fn := ⟨1, 1, [(.ite (.cmp .Eq (.ix (.v 0) (.c (.int 0))) (.c (.str (S "made")))) [(.ret (.blt .list1m [(.ix (.v 0) (.c (.int 2)))]))] []),
    (.ite (.cmp .In (.ix (.v 0) (.c (.int 0))) (.tup [(.c (.str (S "fn"))), (.c (.str (S "ref")))])) [(.ret (.blt .list1m [(.sl (.v 0) (.num (.c (.int 1))) (.c .non))]))] []),
    (.ret (.lst true []))], false⟩
theorem list1m_tup {S : Store} {xs : List PV} : bltR .list1m S [.tup xs] = .ok (.loc S.length) (S ++ [.lst xs]) := rfl
theorem bound_n {S : Store} : bound .non = some none := rfl
theorem bound_i {S : Store} {i : Int} : bound (.int i) = some (some i) := rfl
section
local macro_rules | `(tactic| trivial) => `(tactic| simp only [startE, exs, ex, ev, evs, okS_then, okS_toS, okR_bind, okS_nx, okS_rt, okR_ok, okS_ite, okR_ite, List.length_cons, List.length_nil, List.map_cons, List.map_nil, List.replicate, List.cons_append, List.nil_append, List.getElem?_cons_zero, List.getElem?_cons_succ, putT, List.set_cons_zero, List.set_cons_succ, okR_some, o_add, o_sub, o_mul, o_div, o_mod, o_pow, c_lt, c_le, c_gt, c_ge, c_eq, c_ne, t_bl, map_some', decide_eq_true_eq, R.bind_ok, R.ofO_some, ifs0, ifs1, compR_f, wipeE, mk_f, mk_t, sz0, sz1, sz2, sz3, sz4, sz5, sz6, if_true, dic0, dic1, len_str, len_fz, len_lv, len_tup, tup_lv, list_tup, max_i, min_i, okR_only, ix_tup, atI0, atI1, atI2, sl1, bound, list1m_tup, Bool.false_eq_true, if_false, tmm, tnm, tom, tfm, trm, tnf, tof, tff, trf, tnr, tor, trr, tno, too, tfo, tro, tmo, tnn, tfn_, trn, tmn, ton])
variable {T : List Fn} {iw il : Nat}
theorem within_ok (hw : T[iw]? = some FWithin) (d : Nat) (S : Store) {m : Int} {n : Nat} {v : PV} (hv : Kd m (n + 1) v) : okR (call T (d + 1) iw [v] S) fun u S' => S' = S ∧ u = .tup (kids v) := by
  refine okR_call (F := FWithin) hw rfl ?_
  simp only [FWithin]
  rcases hv with rfl | ⟨i, h1, h2, rfl⟩ | ⟨a, b, h1, h2, rfl⟩ | ⟨a, h1, rfl⟩ | ⟨x, ks, h1, h2, h3, rfl⟩
  · trivial
    exact done_len rfl ⟨rfl, rfl⟩
  · trivial
    exact done_len rfl ⟨rfl, rfl⟩
  · trivial
    exact done_len rfl ⟨rfl, by rw [kids_fn h1]⟩
  · trivial
    exact done_len rfl ⟨rfl, by rw [kids_ref h1]⟩
  · trivial
    exact done_len rfl ⟨rfl, rfl⟩
theorem lwithin_ok (hw : T[il]? = some FLWithin) (d : Nat) (St : Store) {m : Int} {n : Nat} {v : PV} (hv : Kd m (n + 1) v) : okR (call T (d + 1) il [v] St) fun u S' => S' = St ++ [.lst (kids v)] ∧ u = .loc St.length := by
  refine okR_call (F := FLWithin) hw rfl ?_
  simp only [FLWithin]
  have keep : ∀ l : List PV, okR (done false St (.loc St.length) (St ++ [.lst l])) fun u S' => S' = St ++ [.lst l] ∧ u = .loc St.length := fun l => done_keep (by simp [PV.und]) ⟨rfl, rfl⟩
  rcases hv with rfl | ⟨i, h1, h2, rfl⟩ | ⟨a, b, h1, h2, rfl⟩ | ⟨a, h1, rfl⟩ | ⟨x, ks, h1, h2, h3, rfl⟩
  · trivial
    rw [in_fr "num" (by simp)]
    try trivial
    rw [if_neg (by decide)]
    try trivial
    exact keep []
  · trivial
    rw [in_fr "open" (by simp)]
    try trivial
    rw [if_neg (by decide)]
    try trivial
    exact keep []
  · trivial
    rw [in_fr "fn" (by simp)]
    try trivial
    rw [if_pos (by decide)]
    try trivial
    rw [kids_fn h1]
    exact keep _
  · trivial
    rw [in_fr "ref" (by simp)]
    try trivial
    rw [if_pos (by decide)]
    try trivial
    rw [kids_ref h1]
    exact keep _
  · trivial
    exact keep ks
end
/-! ### sizes, open names -/
/-- how many kinds, down to n within one another -/
def ksize : Nat → PV → Nat
  | 0, _ => 0
  | n + 1, v => 1 + ((kids v).map (ksize n)).sum
def kopens : Nat → PV → List PV
  | 0, _ => []
  | n + 1, v => match v with
    | .tup [.str _, .int i] => [.int i]
    | v => ((kids v).map (kopens n)).flatten
theorem okR_det {α : Type} {r : R α} {x : α} {S : Store} (h : okR r fun a S' => S' = S ∧ a = x) : r = .ok x S := by
  obtain ⟨a, S1, h1, h2, h3⟩ := okR_eq h
  rw [h1, h2, h3]
theorem compL_all {turn : PV → Store → R (Option PV)} {g : Grd} {S : Store} (f : PV → PV) (hg : grdOk g S = true) : ∀ (xs acc : List PV), (∀ x ∈ xs, turn x S = .ok (some (f x)) S) → compL g turn xs acc S = .ok (acc ++ xs.map f) S
  | [], acc, _ => by rw [compL, if_pos hg]; simp
  | x :: xs, acc, h => by
    rw [compL, if_pos hg, h x List.mem_cons_self]
    simp only
    rw [compL_all f hg xs _ fun y hy => h y (List.mem_cons_of_mem _ hy)]
    simp
theorem intsOf_map (f : PV → Nat) : ∀ xs : List PV, intsOf (xs.map fun x => .int (f x : Nat)) = some (xs.map fun x => ((f x : Nat) : Int))
  | [] => rfl
  | x :: xs => by rw [List.map_cons, intsOf, intsOf_map f xs]; rfl
theorem sum_cast (f : PV → Nat) : ∀ xs : List PV, (xs.map fun x => ((f x : Nat) : Int)).sum = (((xs.map f).sum : Nat) : Int)
  | [] => rfl
  | x :: xs => by rw [List.map_cons, List.map_cons, List.sum_cons, List.sum_cons, sum_cast f xs]; omega
theorem sum_ok {S : Store} (f : PV → Nat) (xs : List PV) : bltR .sum1 S [.lv (xs.map fun x => .int (f x : Nat))] = .ok (.int (((xs.map f).sum : Nat) : Int)) S := by
  show R.ofO ((intsOf (xs.map fun x => PV.int (f x : Nat))).map fun is => PV.int is.sum) S = _
  rw [intsOf_map]
  show R.ok (PV.int (xs.map fun x => ((f x : Nat) : Int)).sum) S = _
  rw [sum_cast]
def FParts (iw ip : Nat) : Fn := ⟨3, 1, [(.ret (.bin .Add (.c (.int 1)) (.blt .sum1 [(.comp false (.fn ip [(.v 2)]) [1, 2] (.n 2) .seq [(.fn iw [(.v 0)])] [])])))], false⟩
theorem iter_loc {S : Store} {n : Nat} {xs : List PV} (h : S[n]? = some (.lst xs)) : iterV .seq S [.loc n] = some (xs, [(n, .lst xs)]) := by
  show (items S (.loc n)).map (fun xs => (xs, grd S (.loc n))) = _
  simp only [items, grd, h]
  rfl
section
local macro_rules | `(tactic| trivial) => `(tactic| simp only [startE, exs, ex, ev, evs, okS_then, okS_toS, okR_bind, okS_nx, okS_rt, okR_ok, okS_ite, okR_ite, List.length_cons, List.length_nil, List.map_cons, List.map_nil, List.replicate, List.cons_append, List.nil_append, List.getElem?_cons_zero, List.getElem?_cons_succ, putT, List.set_cons_zero, List.set_cons_succ, okR_some, o_add, o_sub, o_mul, o_div, o_mod, o_pow, c_lt, c_le, c_gt, c_ge, c_eq, c_ne, t_bl, map_some', decide_eq_true_eq, R.bind_ok, R.ofO_some, ifs0, ifs1, compR_f, wipeE, mk_f, mk_t, sz0, sz1, sz2, sz3, sz4, sz5, sz6, if_true, dic0, dic1, len_str, len_fz, len_lv, len_tup, tup_lv, list_tup, max_i, min_i, okR_only, ix_tup, atI0, atI1, atI2, sl1, bound, list1m_tup, Bool.false_eq_true, if_false, tmm, tnm, tom, tfm, trm, tnf, tof, tff, trf, tnr, tor, trr, tno, too, tfo, tro, tmo, tnn, tfn_, trn, tmn, ton, iter_tup])
variable {T : List Fn} {iw il ip : Nat}
theorem parts_ok (hw : T[iw]? = some FWithin) (hp : T[ip]? = some (FParts iw ip)) {m : Int} : ∀ (n d : Nat) (S : Store) (v : PV), Kd m (n + 1) v → okR (call T (d + n + 2) ip [v] S) fun u S' => S' = S ∧ u = .int (ksize (n + 1) v : Nat) := by
  intro n
  induction n with
  | zero =>
    intro d S v hv
    refine okR_call (F := FParts iw ip) hp rfl ?_
    simp only [FParts]
    trivial
    refine okR_mono (within_ok hw d S hv) fun u S1 ⟨hS, hu⟩ => ?_
    subst hS hu
    try trivial
    have h0 : kids v = [] := by
      cases hk : kids v with
      | nil => rfl
      | cons k r => exact (hv.kids k (by rw [hk]; exact List.mem_cons_self)).elim
    rw [compL_all (fun _ => .non) rfl (kids v) [] (fun x hx => by rw [h0] at hx; cases hx), h0]
    try trivial
    rw [show bltR .sum1 S1 [.lv []] = .ok (.int 0) S1 from rfl]
    try trivial
    refine done_len rfl ⟨rfl, ?_⟩
    simp [ksize, h0]
  | succ n ih =>
    intro d S v hv
    refine okR_call (F := FParts iw ip) hp rfl ?_
    simp only [FParts]
    trivial
    refine okR_mono (within_ok hw (d + n + 1) S hv) fun u S1 ⟨hS, hu⟩ => ?_
    subst hS hu
    try trivial
    rw [compL_all (fun k => .int (ksize (n + 1) k : Nat)) rfl (kids v) []]
    · try trivial
      rw [sum_ok]
      try trivial
      refine done_len rfl ⟨rfl, ?_⟩
      rw [ksize]
      congr 1
    · intro x hx
      try trivial
      have := okR_det (ih d S1 x (hv.kids x hx))
      rw [show d + (n + 1) + 1 = d + n + 2 by omega, this]
      rfl
def FLSize (il is : Nat) : Fn := ⟨3, 1, [(.ret (.bin .Add (.c (.int 1)) (.blt .sum1 [(.comp false (.fn is [(.v 2)]) [1, 2] (.n 2) .seq [(.fn il [(.v 0)])] [])])))], false⟩
theorem lsize_ok (hw : T[il]? = some FLWithin) (hp : T[ip]? = some (FLSize il ip)) {m : Int} : ∀ (n d : Nat) (S : Store) (v : PV), Kd m (n + 1) v → okR (call T (d + n + 2) ip [v] S) fun u S' => S' = S ∧ u = .int (ksize (n + 1) v : Nat) := by
  intro n
  induction n with
  | zero =>
    intro d S v hv
    refine okR_call (F := FLSize il ip) hp rfl ?_
    simp only [FLSize]
    trivial
    refine okR_mono (lwithin_ok hw d S hv) fun u S1 ⟨hS, hu⟩ => ?_
    subst hS hu
    rw [iter_loc (List.getElem?_concat_length)]
    try trivial
    have h0 : kids v = [] := by
      cases hk : kids v with
      | nil => rfl
      | cons k r => exact (hv.kids k (by rw [hk]; exact List.mem_cons_self)).elim
    rw [compL_all (fun _ => .non) (by simp [grdOk]) (kids v) [] (fun x hx => by rw [h0] at hx; cases hx), h0]
    try trivial
    rw [show ∀ S1, bltR .sum1 S1 [.lv []] = .ok (.int 0) S1 from fun _ => rfl]
    try trivial
    refine done_app rfl ⟨rfl, ?_⟩
    simp [ksize, h0]
  | succ n ih =>
    intro d S v hv
    refine okR_call (F := FLSize il ip) hp rfl ?_
    simp only [FLSize]
    trivial
    refine okR_mono (lwithin_ok hw (d + n + 1) S hv) fun u S1 ⟨hS, hu⟩ => ?_
    subst hS hu
    rw [iter_loc (List.getElem?_concat_length)]
    try trivial
    rw [compL_all (fun k => .int (ksize (n + 1) k : Nat)) (by simp [grdOk]) (kids v) []]
    · try trivial
      rw [sum_ok]
      try trivial
      refine done_app rfl ⟨rfl, ?_⟩
      rw [ksize]
      congr 1
    · intro x hx
      try trivial
      have := okR_det (ih d (S ++ [.lst (kids v)]) x (hv.kids x hx))
      rw [show d + (n + 1) + 1 = d + n + 2 by omega, this]
      rfl
end
end L2.PF

set_option Elab.async false
set_option linter.all false
set_option maxRecDepth 100000
set_option maxHeartbeats 4000000
/-! PFU: open names of a kind. -/
namespace L2.PF
open PySem PySem.Spec PyProof.Rows
def kop : Nat → PV → List Int
  | 0, _ => []
  | n + 1, v => match v with
    | .tup [.str _, .int i] => [i]
    | v => ((kids v).map (kop n)).flatten
def addI (acc : List Int) (x : Int) : List Int := if x ∈ acc then acc else acc ++ [x]
/-- each once -/
def once (xs : List Int) : List Int := xs.foldl addI []
theorem mem_fold : ∀ (xs acc : List Int) (y : Int), y ∈ xs.foldl addI acc ↔ y ∈ acc ∨ y ∈ xs
  | [], acc, y => by simp
  | x :: xs, acc, y => by
    rw [List.foldl_cons, mem_fold xs, List.mem_cons]
    unfold addI
    by_cases h : x ∈ acc
    · rw [if_pos h]
      constructor
      · rintro (z | z)
        · exact .inl z
        · exact .inr (.inr z)
      · rintro (z | z | z)
        · exact .inl z
        · exact .inl (by rw [z]; exact h)
        · exact .inr z
    · rw [if_neg h, List.mem_append, List.mem_singleton]
      constructor
      · rintro ((z | z) | z)
        · exact .inl z
        · exact .inr (.inl z)
        · exact .inr (.inr z)
      · rintro (z | z | z)
        · exact .inl (.inl z)
        · exact .inl (.inr z)
        · exact .inr z
theorem mem_once {xs : List Int} {y : Int} : y ∈ once xs ↔ y ∈ xs := by
  unfold once
  rw [mem_fold]
  simp
/-- added to what is there: those of the list's own ones that are not there -/
theorem fold_once : ∀ (xs acc : List Int), xs.foldl addI acc = acc ++ (once xs).filter fun y => decide (y ∉ acc) := by
  intro xs
  suffices h : ∀ (ys acc : List Int), (ys.reverse).foldl addI acc = acc ++ (once ys.reverse).filter fun y => decide (y ∉ acc) by
    intro acc
    have := h xs.reverse acc
    rwa [List.reverse_reverse] at this
  intro ys
  induction ys with
  | nil => intro acc; simp [once]
  | cons y ys ih =>
    intro acc
    rw [List.reverse_cons, List.foldl_append, ih]
    have e : once (ys.reverse ++ [y]) = addI (once ys.reverse) y := by unfold once; rw [List.foldl_append]; rfl
    rw [e]
    show addI _ y = _
    unfold addI
    by_cases h1 : y ∈ once ys.reverse
    · rw [if_pos h1]
      by_cases h2 : y ∈ acc
      · rw [if_pos (List.mem_append_left _ h2)]
      · rw [if_pos (List.mem_append_right _ (List.mem_filter.mpr ⟨h1, decide_eq_true h2⟩))]
    · rw [if_neg h1]
      by_cases h2 : y ∈ acc
      · rw [if_pos (List.mem_append_left _ h2), List.filter_append]
        simp [h2]
      · rw [if_neg, List.filter_append]
        · simp [h2]
        · rw [List.mem_append, List.mem_filter]
          rintro (z | z)
          · exact h2 z
          · exact h1 z.1
theorem once_app (xs ys : List Int) : once (xs ++ ys) = once xs ++ (once ys).filter fun y => decide (y ∉ once xs) := by
  show (xs ++ ys).foldl addI [] = _
  rw [List.foldl_append, fold_once ys]
  rfl
theorem once_len : ∀ xs : List Int, (once xs).length ≤ xs.length := by
  have : ∀ (xs acc : List Int), (xs.foldl addI acc).length ≤ acc.length + xs.length := by
    intro xs
    induction xs with
    | nil => intro acc; simp
    | cons x xs ih =>
      intro acc
      rw [List.foldl_cons]
      refine Nat.le_trans (ih _) ?_
      unfold addI
      split <;> simp <;> omega
  intro xs
  have := this xs []
  simpa [once] using this
theorem kop_len : ∀ (n : Nat) (v : PV), (kop n v).length ≤ ksize n v
  | 0, _ => Nat.le_refl _
  | n + 1, v => by
    have gen : ∀ ks : List PV, ((ks.map (kop n)).flatten).length ≤ (ks.map (ksize n)).sum := by
      intro ks
      induction ks with
      | nil => simp
      | cons k ks ih =>
        rw [List.map_cons, List.map_cons, List.flatten_cons, List.length_append, List.sum_cons]
        have := kop_len n k
        omega
    rw [ksize]
    unfold kop
    split
    · simp
    · have := gen (kids v)
      omega
/-- x not in a list of ints in the store -/
theorem notin_l {S : Store} {n : Nat} {acc : List Int} {y : Int} (h : S[n]? = some (.lst (acc.map PV.int))) : cmpV .NotIn S (.int y) (.loc n) = some (decide (y ∉ acc)) := by
  show (isIn S (.int y) (.loc n)).map (!·) = _
  have hf : ((flatP (.int y)) && (acc.map PV.int).all flatP) = true := by
    rw [List.all_map]
    simp [flatP, Function.comp_def]
  have ha : ((acc.map PV.int).any fun z => eqP z (.int y)) = decide (y ∈ acc) := by
    rw [List.any_map]
    induction acc with
    | nil => rfl
    | cons a acc ih =>
      have h0 : ∀ l : List Int, (l.any ((fun z => eqP z (PV.int y)) ∘ PV.int)) = decide (y ∈ l) := by
        intro l
        induction l with
        | nil => rfl
        | cons a l ih =>
          rw [List.any_cons, ih]
          show ((a == y) || decide (y ∈ l)) = _
          by_cases e : a = y
          · subst e; simp
          · have e' : y ≠ a := fun z => e z.symm
            simp [e, e']
      exact h0 _
  have : isIn S (.int y) (.loc n) = some (decide (y ∈ acc)) := by
    simp only [isIn, items, h]
    rw [Bool.and_eq_true] at hf
    rw [inD_flat hf.1 hf.2, ha]
  rw [this]
  simp
def FOpens (iw io : Nat) : Fn := ⟨5, 1, [(.ite (.cmp .Eq (.ix (.v 0) (.c (.int 0))) (.c (.str (S "open")))) [(.ret (.tup [(.ix (.v 0) (.c (.int 1)))]))] []),
    (.set (.n 1) (.lst true [])),
    (.forS (.n 2) .seq [(.fn iw [(.v 0)])] [(.ex (.mth .extend (.v 1) [(.comp false (.v 4) [3, 4] (.n 4) .seq [(.fn io [(.v 2)])] [(.cmp .NotIn (.v 4) (.v 1))])]))]),
    (.ret (.blt .tuple1 [(.v 1)]))], false⟩
theorem ext_l {S : Store} {n : Nat} {xs ys : List PV} (h : S[n]? = some (.lst xs)) (hl : xs.length + ys.length ≤ sizeLine) : mthV .extend S (.loc n) [.lv ys] = .ok .non (S.set n (.lst (xs ++ ys))) := by
  simp only [mthV, mitems, h]
  rw [if_pos hl]
theorem filt_map (acc : List Int) : ∀ xs : List Int, xs.filterMap (fun y => if ¬ y ∈ acc then some (PV.int y) else none) = (xs.filter fun y => decide (y ∉ acc)).map PV.int
  | [] => rfl
  | x :: xs => by
    rw [List.filterMap_cons, List.filter_cons, filt_map acc xs]
    by_cases h : x ∈ acc <;> simp [h]
section
local macro_rules | `(tactic| trivial) => `(tactic| simp only [startE, exs, ex, ev, evs, okS_then, okS_toS, okR_bind, okS_nx, okS_rt, okR_ok, okS_ite, okR_ite, List.length_cons, List.length_nil, List.map_cons, List.map_nil, List.replicate, List.cons_append, List.nil_append, List.getElem?_cons_zero, List.getElem?_cons_succ, putT, List.set_cons_zero, List.set_cons_succ, okR_some, o_add, o_sub, o_mul, o_div, o_mod, o_pow, c_lt, c_le, c_gt, c_ge, c_eq, c_ne, t_bl, map_some', decide_eq_true_eq, R.bind_ok, R.ofO_some, ifs0, ifs1, compR_f, wipeE, mk_f, mk_t, sz0, sz1, sz2, sz3, sz4, sz5, sz6, if_true, dic0, dic1, len_str, len_fz, len_lv, len_tup, tup_lv, list_tup, max_i, min_i, okR_only, ix_tup, atI0, atI1, atI2, sl1, bound, list1m_tup, Bool.false_eq_true, if_false, tmm, tnm, tom, tfm, trm, tnf, tof, tff, trf, tnr, tor, trr, tno, too, tfo, tro, tmo, tnn, tfn_, trn, tmn, ton, iter_tup])
variable {T : List Fn} {iw il io : Nat}
theorem Kd.split {m : Int} {n : Nat} {v : PV} (h : Kd m (n + 1) v) : (∃ i : Int, 0 ≤ i ∧ i < m ∧ v = .tup [.str (PF.S "open"), .int i]) ∨
    ∃ (t : String) (r : List PV), v = .tup (.str (PF.S t) :: r) ∧ (∀ St, cmpV .Eq St (.str (PF.S t)) (.str (PF.S "open")) = some false) ∧ kop (n + 1) v = ((PF.kids v).map (kop n)).flatten := by
  rcases h with rfl | ⟨i, h1, h2, rfl⟩ | ⟨a, b, h1, h2, rfl⟩ | ⟨a, h1, rfl⟩ | ⟨x, ks, h1, h2, h3, rfl⟩
  · exact .inr ⟨"num", [], rfl, fun _ => tno, rfl⟩
  · exact .inl ⟨i, h1, h2, rfl⟩
  · refine .inr ⟨"fn", _, rfl, fun _ => tfo, ?_⟩
    obtain ⟨xs, rfl⟩ := h1.tup
    rfl
  · refine .inr ⟨"ref", _, rfl, fun _ => tro, ?_⟩
    obtain ⟨xs, rfl⟩ := h1.tup
    rfl
  · exact .inr ⟨"made", _, rfl, fun _ => tmo, rfl⟩
theorem set_last {S : Store} {a b : PO} : (S ++ [a]).set S.length b = S ++ [b] := by
  rw [List.set_append_right _ _ (Nat.le_refl _)]
  simp
theorem get_last {S : Store} {a : PO} : (S ++ [a])[S.length]? = some a := List.getElem?_concat_length
theorem tup_loc {S : Store} {n : Nat} {xs : List PV} (h : S[n]? = some (.lst xs)) : bltR .tuple1 S [.loc n] = .ok (.tup xs) S := by
  show R.ofO ((items S (.loc n)).map PV.tup) S = _
  simp only [items, h]
  rfl
theorem und_ints (n : Nat) : ∀ xs : List Int, PV.undL n (xs.map PV.int) = true
  | [] => rfl
  | x :: xs => by rw [List.map_cons, PV.undL, und_ints n xs]; rfl
theorem opens_step (hw : T[iw]? = some FWithin) (hp : T[io]? = some (FOpens iw io)) {m : Int} {n : Nat} (d : Nat) (S : Store) (v : PV) (hv : Kd m (n + 1) v) (hs : ksize (n + 1) v ≤ 1000000)
    (hrec : ∀ k ∈ kids v, ∀ S, okR (call T (d + 1) io [k] S) fun u S' => S' = S ∧ u = .tup ((once (kop n k)).map PV.int)) : okR (call T (d + 2) io [v] S) fun u S' => S' = S ∧ u = .tup ((once (kop (n + 1) v)).map PV.int) := by
  refine okR_call (F := FOpens iw io) hp rfl ?_
  simp only [FOpens]
  rcases hv.split with ⟨i, h1, h2, rfl⟩ | ⟨t, r, hvt, hne, hk⟩
  · trivial
    exact done_len rfl ⟨rfl, rfl⟩
  · subst hvt
    trivial
    rw [hne]
    try trivial
    refine okR_mono (within_ok hw d _ hv) fun u S1 ⟨hS, hu⟩ => ?_
    subst hS hu
    try trivial
    have hlen := kop_len (n + 1) (.tup (.str (PF.S t) :: r))
    rw [hk] at hlen ⊢
    refine forL_ok (fun (i : Nat) (e : Env) (S' : Store) => S' = S ++ [.lst ((once ((((kids (.tup (.str (PF.S t) :: r))).take i).map (kop n)).flatten)).map PV.int)] ∧ ∃ o2 o3 o4, e = [some (.tup (.str (PF.S t) :: r)), some (.loc S.length), o2, o3, o4])
      ⟨rfl, _, _, _, rfl⟩ (fun _ _ _ _ _ => rfl) ?_ ?_
    · rintro i x e S' hx ⟨rfl, o2, o3, o4, rfl⟩
      have hxm : x ∈ kids (.tup (.str (PF.S t) :: r)) := List.mem_of_getElem? hx
      try trivial
      rw [okR_det (hrec x hxm _)]
      try trivial
      rw [compL_map PV.int (fun y => if ¬ y ∈ once ((((kids (.tup (.str (PF.S t) :: r))).take i).map (kop n)).flatten) then some (.int y) else none)]
      · try trivial
        rw [if_pos (by simp only [mthIs, tyName, get_last]; rfl)]
        rw [filt_map]
        have ht : ((((kids (.tup (.str (PF.S t) :: r))).take (i + 1)).map (kop n)).flatten) = ((((kids (.tup (.str (PF.S t) :: r))).take i).map (kop n)).flatten) ++ kop n x := by
          rw [List.take_add_one, hx, List.map_append, List.flatten_append]
          simp
        have hb : ((((kids (.tup (.str (PF.S t) :: r))).take (i + 1)).map (kop n)).flatten).length ≤ ((kids (.tup (.str (PF.S t) :: r))).map (kop n)).flatten.length := by
          conv => rhs; rw [← List.take_append_drop (i + 1) (kids (.tup (.str (PF.S t) :: r))), List.map_append, List.flatten_append, List.length_append]
          omega
        have ho := once_len ((((kids (.tup (.str (PF.S t) :: r))).take (i + 1)).map (kop n)).flatten)
        rw [ht, once_app] at ho
        rw [ht] at hb ⊢
        rw [once_app]
        rw [ext_l get_last (by
          rw [List.length_map, List.length_map, ← List.length_append, sizeLine_eq]
          omega)]
        try trivial
        rw [set_last, ← List.map_append]
        exact ⟨rfl, _, _, _, rfl⟩
      · intro y hy
        try trivial
        rw [notin_l get_last]
        try trivial
        generalize once ((((kids (.tup (.str (PF.S t) :: r))).take i).map (kop n)).flatten) = acc
        by_cases h : y ∈ acc
        · simp [h]
        · simp [h]
    · rintro e S' ⟨rfl, o2, o3, o4, rfl⟩
      rw [List.take_length]
      try trivial
      rw [tup_loc get_last]
      try trivial
      refine done_app ?_ ⟨rfl, rfl⟩
      rw [PV.und]
      exact und_ints _ _
theorem opens_ok (hw : T[iw]? = some FWithin) (hp : T[io]? = some (FOpens iw io)) {m : Int} : ∀ (n d : Nat) (S : Store) (v : PV), Kd m (n + 1) v → ksize (n + 1) v ≤ 1000000 → okR (call T (d + n + 2) io [v] S) fun u S' => S' = S ∧ u = .tup ((once (kop (n + 1) v)).map PV.int)
  | 0, d, S, v, hv, hs => opens_step hw hp d S v hv hs fun k hk => (hv.kids k hk).elim
  | n + 1, d, S, v, hv, hs => opens_step hw hp (d + n + 1) S v hv hs fun k hk S => by
    have := opens_ok hw hp n d S k (hv.kids k hk) (by
      have : ∀ ks : List PV, k ∈ ks → ksize (n + 1) k ≤ (ks.map (ksize (n + 1))).sum := by
        intro ks
        induction ks with
        | nil => intro h; cases h
        | cons a ks ih =>
          intro h
          rw [List.map_cons, List.sum_cons]
          rcases List.mem_cons.mp h with e | e
          · rw [e]; omega
          · have := ih e; omega
      have := this _ hk
      rw [ksize] at hs
      omega)
    exact this
def FLOpens (il io : Nat) : Fn := ⟨3, 1, [(.ite (.cmp .Eq (.ix (.v 0) (.c (.int 0))) (.c (.str (S "open")))) [(.ret (.lst true [(.ix (.v 0) (.c (.int 1)))]))] []),
    (.set (.n 1) (.lst true [])),
    (.forS (.n 2) .seq [(.fn il [(.v 0)])] [(.ex (.mth .extend (.v 1) [(.fn io [(.v 2)])]))]),
    (.ret (.v 1))], false⟩
theorem ext_loc {S : Store} {n k : Nat} {xs ys : List PV} (h : S[n]? = some (.lst xs)) (h2 : S[k]? = some (.lst ys)) (hl : xs.length + ys.length ≤ sizeLine) : mthV .extend S (.loc n) [.loc k] = .ok .non (S.set n (.lst (xs ++ ys))) := by
  simp only [mthV, mitems, h, h2]
  rw [if_pos hl]
theorem set_mid {S l : Store} {a b : PO} : (S ++ a :: l).set S.length b = S ++ b :: l := by
  rw [List.set_append_right _ _ (Nat.le_refl _)]
  simp
theorem get_mid {S l : Store} {a : PO} : (S ++ a :: l)[S.length]? = some a := by
  rw [List.getElem?_append_right (Nat.le_refl _)]
  simp
theorem get_mid2 {S l : Store} {a b : PO} : (S ++ a :: b :: l)[S.length + 1]? = some b := by
  rw [List.getElem?_append_right (by omega)]
  simp
/-- what a law's own listing of the open names hands back -/
def LOp (S : Store) (xs : List Int) (u : PV) (S' : Store) : Prop := ∃ l n, S' = S ++ l ∧ u = .loc n ∧ S.length ≤ n ∧ S'[n]? = some (.lst (xs.map PV.int))
theorem lopens_step (hw : T[il]? = some FLWithin) (hp : T[io]? = some (FLOpens il io)) {m : Int} {n : Nat} (d : Nat) (S : Store) (v : PV) (hv : Kd m (n + 1) v) (hs : ksize (n + 1) v ≤ 1000000)
    (hrec : ∀ k ∈ kids v, ∀ S, okR (call T (d + 1) io [k] S) (LOp S (kop n k))) : okR (call T (d + 2) io [v] S) (LOp S (kop (n + 1) v)) := by
  refine okR_call (F := FLOpens il io) hp rfl ?_
  simp only [FLOpens]
  rcases hv.split with ⟨i, h1, h2, rfl⟩ | ⟨t, r, hvt, hne, hk⟩
  · trivial
    exact done_keep (by simp [PV.und]) ⟨_, _, rfl, rfl, Nat.le_refl _, get_last⟩
  · subst hvt
    trivial
    rw [hne]
    try trivial
    refine okR_mono (lwithin_ok hw d _ hv) fun u S1 ⟨hS, hu⟩ => ?_
    subst hS hu
    have e1 : (S ++ [PO.lst []] ++ [PO.lst (kids (.tup (.str (PF.S t) :: r)))]) = S ++ PO.lst [] :: PO.lst (kids (.tup (.str (PF.S t) :: r))) :: [] := by simp
    have e2 : (S ++ [PO.lst ([] : List PV)]).length = S.length + 1 := by simp
    rw [e1, e2, iter_loc get_mid2]
    try trivial
    have hlen := kop_len (n + 1) (.tup (.str (PF.S t) :: r))
    rw [hk] at hlen ⊢
    refine forL_ok (fun (i : Nat) (e : Env) (S' : Store) => (∃ l, S' = S ++ PO.lst (((((kids (.tup (.str (PF.S t) :: r))).take i).map (kop n)).flatten).map PV.int) :: PO.lst (kids (.tup (.str (PF.S t) :: r))) :: l) ∧ ∃ o2, e = [some (.tup (.str (PF.S t) :: r)), some (.loc S.length), o2])
      ⟨⟨[], rfl⟩, _, rfl⟩ (fun i e S' _ ⟨⟨l, hl⟩, _⟩ => by rw [hl]; unfold grdOk; rw [List.all_cons]; simp only [get_mid2]; simp) ?_ ?_
    · rintro i x e S' hx ⟨⟨l, rfl⟩, o2, rfl⟩
      have hxm : x ∈ kids (.tup (.str (PF.S t) :: r)) := List.mem_of_getElem? hx
      try trivial
      rw [if_pos (by simp only [mthIs, tyName, get_mid]; rfl)]
      refine okR_mono (hrec x hxm _) fun u S2 ⟨l2, n2, hS, hu, hle, hg⟩ => ?_
      subst hS hu
      have ht : ((((kids (.tup (.str (PF.S t) :: r))).take (i + 1)).map (kop n)).flatten) = ((((kids (.tup (.str (PF.S t) :: r))).take i).map (kop n)).flatten) ++ kop n x := by
        rw [List.take_add_one, hx, List.map_append, List.flatten_append]
        simp
      have hb : ((((kids (.tup (.str (PF.S t) :: r))).take (i + 1)).map (kop n)).flatten).length ≤ ((kids (.tup (.str (PF.S t) :: r))).map (kop n)).flatten.length := by
        conv => rhs; rw [← List.take_append_drop (i + 1) (kids (.tup (.str (PF.S t) :: r))), List.map_append, List.flatten_append, List.length_append]
        omega
      rw [ht] at hb ⊢
      rw [List.append_assoc, List.cons_append, List.cons_append] at hg ⊢
      rw [ext_loc get_mid hg (by
        rw [List.length_map, List.length_map, ← List.length_append, sizeLine_eq]
        omega)]
      try trivial
      rw [set_mid, ← List.map_append]
      exact ⟨⟨_, rfl⟩, _, rfl⟩
    · rintro e S' ⟨⟨l, rfl⟩, o2, rfl⟩
      rw [List.take_length]
      try trivial
      exact done_keep (by simp [PV.und]) ⟨_, _, rfl, rfl, Nat.le_refl _, get_mid⟩
theorem ksize_kid {n : Nat} {k : PV} : ∀ ks : List PV, k ∈ ks → ksize n k ≤ (ks.map (ksize n)).sum
  | [], h => by cases h
  | a :: ks, h => by
    rw [List.map_cons, List.sum_cons]
    rcases List.mem_cons.mp h with e | e
    · rw [e]; omega
    · have := ksize_kid (n := n) ks e
      omega
theorem lopens_ok (hw : T[il]? = some FLWithin) (hp : T[io]? = some (FLOpens il io)) {m : Int} : ∀ (n d : Nat) (S : Store) (v : PV), Kd m (n + 1) v → ksize (n + 1) v ≤ 1000000 → okR (call T (d + n + 2) io [v] S) (LOp S (kop (n + 1) v))
  | 0, d, S, v, hv, hs => lopens_step hw hp d S v hv hs fun k hk => (hv.kids k hk).elim
  | n + 1, d, S, v, hv, hs => lopens_step hw hp (d + n + 1) S v hv hs fun k hk S => lopens_ok hw hp n d S k (hv.kids k hk) (by
      have := ksize_kid (n := n + 1) (kids v) hk
      rw [ksize] at hs
      omega)
end
/-! ### how large a kind is -/
theorem sum_le {B : Nat} (f : PV → Nat) : ∀ ks : List PV, (∀ k ∈ ks, f k ≤ B) → (ks.map f).sum ≤ ks.length * B
  | [], _ => by simp
  | a :: ks, h => by
    have h1 := sum_le f ks fun k hk => h k (List.mem_cons_of_mem _ hk)
    have h2 := h a List.mem_cons_self
    rw [List.map_cons, List.sum_cons, List.length_cons, Nat.add_mul, Nat.one_mul]
    omega
theorem Kd.size {m : Int} : ∀ {n : Nat} {v : PV}, Kd m n v → ∀ k, ksize k v + 1 ≤ 2 ^ n
  | 0, _, h, _ => h.elim
  | n + 1, v, h, 0 => Nat.one_le_pow _ _ (by omega)
  | n + 1, v, h, k + 1 => by
    have hp : 2 ^ (n + 1) = 2 * 2 ^ n := by rw [Nat.pow_succ]; omega
    have h1 : 1 ≤ 2 ^ n := Nat.one_le_pow _ _ (by omega)
    have h2 := sum_le (B := 2 ^ n - 1) (ksize k) (PF.kids v) fun a ha => by
      have := (h.kids a ha).size k
      omega
    have h3 := h.kids_len
    have h4 : (PF.kids v).length * (2 ^ n - 1) ≤ 2 * (2 ^ n - 1) := Nat.mul_le_mul_right _ h3
    rw [ksize]
    omega
/-- not larger than N at any depth -/
def Ks (N : Nat) (v : PV) : Prop := ∀ k, ksize k v ≤ N
theorem Ks.fn {m : Int} {j M N : Nat} {t : Str} {a b : PV} (h : Kd m j a) (ha : Ks M a) (hb : Ks N b) : Ks (1 + M + N) (.tup [.str t, a, b])
  | 0 => Nat.zero_le _
  | k + 1 => by
    rw [ksize, kids_fn h]
    have := ha k
    have := hb k
    simp
    omega
theorem Ks.ref {m : Int} {j M : Nat} {t : Str} {a : PV} (h : Kd m j a) (ha : Ks M a) : Ks (1 + M) (.tup [.str t, a])
  | 0 => Nat.zero_le _
  | k + 1 => by
    rw [ksize, kids_ref h]
    have := ha k
    simp
    omega
theorem Ks.made {M N : Nat} {t x : Str} {a b : PV} (ha : Ks M a) (hb : Ks N b) : Ks (1 + M + N) (.tup [.str t, .str x, .tup [a, b]])
  | 0 => Nat.zero_le _
  | k + 1 => by
    have := ha k
    have := hb k
    show 1 + ([a, b].map (ksize k)).sum ≤ _
    simp
    omega
theorem Ks.up {M N : Nat} {v : PV} (h : Ks M v) (k : M ≤ N) : Ks N v := fun j => Nat.le_trans (h j) k
theorem Ks.open {t : Str} {i : Int} : Ks 1 (.tup [.str t, .int i])
  | 0 => Nat.zero_le _
  | k + 1 => by show 1 + (([] : List PV).map (ksize k)).sum ≤ 1; simp
theorem Ks.num {t : Str} : Ks 1 (.tup [.str t])
  | 0 => Nat.zero_le _
  | k + 1 => by show 1 + (([] : List PV).map (ksize k)).sum ≤ 1; simp
section
local macro_rules | `(tactic| trivial) => `(tactic| simp only [startE, exs, ex, ev, evs, okS_then, okS_toS, okR_bind, okS_nx, okS_rt, okR_ok, okS_ite, okR_ite, List.length_cons, List.length_nil, List.map_cons, List.map_nil, List.replicate, List.cons_append, List.nil_append, List.getElem?_cons_zero, List.getElem?_cons_succ, putT, List.set_cons_zero, List.set_cons_succ, okR_some, o_add, o_sub, o_mul, o_div, o_mod, o_pow, c_lt, c_le, c_gt, c_ge, c_eq, c_ne, t_bl, map_some', decide_eq_true_eq, R.bind_ok, R.ofO_some, ifs0, ifs1, compR_f, wipeE, mk_f, mk_t, sz0, sz1, sz2, sz3, sz4, sz5, sz6, if_true, dic0, dic1, len_str, len_fz, len_lv, len_tup, tup_lv, list_tup, max_i, min_i, okR_only])
variable {T : List Fn} {im it : Nat}
/-- the deep kind, with its size -/
theorem deep_ks {idp : Nat} {cnt : Int} (hm : T[im]? = some FMix) (ht : T[it]? = some (FTake im)) (hd : T[idp]? = some (FDeep it cnt)) (c0 : 0 ≤ cnt) (c1 : cnt ≤ 1000) (b : Nat) (x0 : Str) (names : List PV) (hx0 : Nm x0) (m : Int) (m0 : 0 < m) (m1 : m < 2 ^ 100)
    (d n : Nat) (S : Store) (hb : Bx b n S) (hn : n < 2 ^ 48) : okR (call T (d + 3) idp [.loc b, .lv (.str x0 :: names), .int m] S) fun v S' => Fr b S S' ∧ Bx b (n + cnt.toNat + 1) S' ∧ Kd m (cnt.toNat + 2) v ∧ Ks (4 * cnt.toNat + 1) v := by
  refine okR_call (F := FDeep it cnt) hd rfl ?_
  simp only [FDeep]
  trivial
  refine okR_mono (take_ok hm ht d S b n m hb (by omega) m0 (by omega)) fun v S1 ⟨hf, hb1, r, hv, hr, hr2⟩ => ?_
  subst hv
  try trivial
  rw [iter_rng c0 (by omega)]
  try trivial
  have hbs : ∀ k, Kd m (k + 2) (.tup [.str (PF.S "fn"), .tup [.str (PF.S "num")], .tup [.str (PF.S "num")]]) := fun k => .inr (.inr (.inl ⟨_, _, .inl rfl, .inl rfl, rfl⟩))
  have hnum : Kd m 1 (.tup [.str (PF.S "num")]) := .inl rfl
  have hbk : Ks 3 (.tup [.str (PF.S "fn"), .tup [.str (PF.S "num")], .tup [.str (PF.S "num")]]) := Ks.fn hnum .num .num
  refine forL_ok (fun (i : Nat) (e : Env) (S' : Store) => Fr b S S' ∧ Bx b (n + 1 + i) S' ∧ ∃ v o5 o6, e = [some (.loc b), some (.lv (.str x0 :: names)), some (.int m), some v, some (.tup [.str (PF.S "fn"), .tup [.str (PF.S "num")], .tup [.str (PF.S "num")]]), o5, o6] ∧ Kd m (i + 2) v ∧ Ks (4 * i + 1) v)
    ⟨hf, hb1, _, _, _, rfl, .inr (.inl ⟨r, hr, hr2, rfl⟩), .open⟩ (fun _ _ _ _ _ => rfl) ?_ ?_
  · rintro i x e S2 hx ⟨hf2, hb2, v, o5, o6, rfl, hv, hvk⟩
    obtain ⟨rfl, hi⟩ := intRow_at hx
    try trivial
    refine okR_mono (take_ok hm ht d S2 b _ 4 hb2 (by omega) (by omega) (by omega)) fun u S3 ⟨hf3, hb3, r3, hu, h0, h1⟩ => ?_
    subst hu
    try trivial
    rw [ix_lv, atI0]
    try trivial
    obtain ⟨y, e1, e2⟩ := atI_some (xs := [PV.tup [.str (PF.S "fn"), v, .tup [.str (PF.S "fn"), .tup [.str (PF.S "num")], .tup [.str (PF.S "num")]]], .tup [.str (PF.S "fn"), .tup [.str (PF.S "fn"), .tup [.str (PF.S "num")], .tup [.str (PF.S "num")]], v], .tup [.str (PF.S "ref"), v],
      .tup [.str (PF.S "made"), .str x0, .tup [.tup [.str (PF.S "fn"), .tup [.str (PF.S "num")], .tup [.str (PF.S "num")]], v]]]) (i := r3) h0 (by simp only [List.length_cons, List.length_nil]; omega)
    rw [ix_lv, e1]
    try trivial
    refine ⟨hf2.trans hf3, by rw [show n + 1 + (i + 1) = n + 1 + i + 1 by omega]; exact hb3, y, _, _, rfl, ?_⟩
    simp only [List.mem_cons, List.not_mem_nil, or_false] at e2
    rcases e2 with e | e | e | e
    · exact ⟨.inr (.inr (.inl ⟨_, _, hv, hbs i, e⟩)), by rw [e]; exact (Ks.fn hv hvk hbk).up (by omega)⟩
    · exact ⟨.inr (.inr (.inl ⟨_, _, hbs i, hv, e⟩)), by rw [e]; exact (Ks.fn (hbs i) hbk hvk).up (by omega)⟩
    · exact ⟨.inr (.inr (.inr (.inl ⟨_, hv, e⟩))), by rw [e]; exact (Ks.ref hv hvk).up (by omega)⟩
    · refine ⟨.inr (.inr (.inr (.inr ⟨x0, _, hx0, ?_, fun k hk => ?_, e⟩))), by rw [e]; exact (Ks.made hbk hvk).up (by omega)⟩
      · simp
      · rcases List.mem_cons.mp hk with z | z
        · rw [z]; exact hbs i
        · rw [List.mem_singleton.mp z]; exact hv
  · rintro e S2 ⟨hf2, hb2, v, o5, o6, rfl, hv, hvk⟩
    rw [intRow_length] at hb2 hv hvk
    try trivial
    exact done_len hf2.1 ⟨hf2, hb2.up (by omega), hv, hvk⟩
end
end L2.PF

set_option Elab.async false
set_option linter.all false
set_option maxRecDepth 100000
set_option maxHeartbeats 4000000
/-! PFV: plain trees of values: what == tells of them. -/
namespace L2.PF
open PySem PySem.Spec PyProof.Rows
/-- no dict ahead, no made one with a tuple -/
def noDv : List PV → Prop
  | .dv _ _ :: _ => False
  | [.str t, _, .tup _] => t ≠ S "made"
  | _ => True
/-- values, texts that P holds of, tuples and lists of such (no dict ahead in a tuple), dicts, n within one another at most -/
def Tree (P : Str → Prop) : Nat → PV → Prop
  | 0, _ => False
  | n + 1, v => v = .non ∨ (∃ b, v = .bl b) ∨ (∃ i, v = .int i) ∨ (∃ x, P x ∧ v = .str x) ∨ (∃ xs, ((∀ x ∈ xs, Tree P n x) ∧ noDv xs) ∧ v = .tup xs) ∨ (∃ xs, (∀ x ∈ xs, Tree P n x) ∧ v = .lv xs) ∨ (∃ ks xs, v = .dv ks xs) ∨ ∃ a ks, Tree P n a ∧ (∀ x ∈ ks, Tree P n x) ∧ v = .tup [.str (S "made"), a, .tup ks]
theorem Tree.up {P : Str → Prop} : ∀ {n k : Nat} {v : PV}, Tree P n v → n ≤ k → Tree P k v
  | 0, _, _, h, _ => h.elim
  | n + 1, 0, _, _, h => absurd h (by omega)
  | n + 1, k + 1, v, h, hk => by
    have hk : n ≤ k := by omega
    rcases h with h | h | h | h | ⟨xs, h1, h⟩ | ⟨xs, h1, h⟩ | h | ⟨a, ks, h1, h2, h⟩
    · exact .inl h
    · exact .inr (.inl h)
    · exact .inr (.inr (.inl h))
    · exact .inr (.inr (.inr (.inl h)))
    · exact .inr (.inr (.inr (.inr (.inl ⟨xs, ⟨fun x hx => (h1.1 x hx).up hk, h1.2⟩, h⟩))))
    · exact .inr (.inr (.inr (.inr (.inr (.inl ⟨xs, fun x hx => (h1 x hx).up hk, h⟩)))))
    · exact .inr (.inr (.inr (.inr (.inr (.inr (.inl h))))))
    · exact .inr (.inr (.inr (.inr (.inr (.inr (.inr ⟨a, ks, h1.up hk, fun x hx => (h2 x hx).up hk, h⟩))))))
def eqStr (v : PV) (y : Str) : Bool := match v with | .str x => decide (x = y) | _ => false
/-- a value that is no dict, no instance against a text -/
theorem c_eq_s {S : Store} {v : PV} {y : Str} (h : flatP v = true ∨ ∃ p, seqK S v = some p) : cmpV .Eq S v (.str y) = some (eqStr v y) := by
  rw [eqX_r (show ditems S (.str y) = none from rfl)]
  show eqG S (169 + 1) v (.str y) = _
  rw [eqG]
  by_cases hf : flatP v = true
  · rw [if_pos hf, if_pos (by rfl)]
    cases v <;> first | rfl | cases hf
  · rw [if_neg hf]
    rcases h with h | ⟨p, h⟩
    · exact absurd h hf
    · rw [h]
      simp only
      rw [if_pos (by rfl)]
      cases v <;> first | rfl | (exact absurd rfl hf)
/-- a tuple against () -/
theorem c_eq_t0 {S : Store} {xs : List PV} : cmpV .Eq S (.tup xs) (.tup []) = some xs.isEmpty := by
  show eqG S (169 + 1) (.tup xs) (.tup []) = _
  rw [eqG, if_neg (by simp [flatP])]
  cases xs <;> rfl
/-- a list against [] -/
theorem c_eq_l0 {S : Store} {xs : List PV} : cmpV .Eq S (.lv xs) (.lv []) = some xs.isEmpty := by
  show eqG S (169 + 1) (.lv xs) (.lv []) = _
  rw [eqG, if_neg (by simp [flatP])]
  cases xs <;> rfl
/-- a list in the store against [] -/
theorem c_eq_o0 {S : Store} {n : Nat} {xs : List PV} (h : S[n]? = some (.lst xs)) : cmpV .Eq S (.loc n) (.lv []) = some xs.isEmpty := by
  rw [eqX_r (show ditems S (.lv []) = none from rfl)]
  show eqG S (169 + 1) (.loc n) (.lv []) = _
  rw [eqG, if_neg (by simp [flatP])]
  simp only [seqK, litems, h]
  cases xs <;> rfl
section
variable {P : Str → Prop}
theorem Tree.ty {n : Nat} {v : PV} (h : Tree P n v) : ∃ t, (∀ S, tyName S v = some t) ∧ (t = "tuple" ↔ ∃ xs, v = .tup xs) ∧ (t = "str" ↔ ∃ x, v = .str x) := by
  cases n with
  | zero => exact h.elim
  | succ n =>
    rcases h with rfl | ⟨b, rfl⟩ | ⟨i, rfl⟩ | ⟨x, hx, rfl⟩ | ⟨xs, h1', rfl⟩ | ⟨xs, h1', rfl⟩ | ⟨ks, xs, rfl⟩ | ⟨a, ks, h1', h2', rfl⟩
    · exact ⟨"NoneType", fun _ => rfl, by simp, by simp⟩
    · exact ⟨"bool", fun _ => rfl, by simp, by simp⟩
    · exact ⟨"int", fun _ => rfl, by simp, by simp⟩
    · exact ⟨"str", fun _ => rfl, by simp, by simp⟩
    · exact ⟨"tuple", fun _ => rfl, by simp, by simp⟩
    · exact ⟨"list", fun _ => rfl, by simp, by simp⟩
    · exact ⟨"dict", fun _ => rfl, by simp, by simp⟩
    · exact ⟨"tuple", fun _ => rfl, by simp, by simp⟩
/-- a tree that is no dict against a text -/
theorem c_eq_ts {S : Store} {n : Nat} {v : PV} {y : Str} (h : Tree P n v) (hd : ∀ ks xs, v ≠ .dv ks xs) : cmpV .Eq S v (.str y) = some (eqStr v y) := by
  refine c_eq_s ?_
  cases n with
  | zero => exact h.elim
  | succ n =>
    rcases h with rfl | ⟨b, rfl⟩ | ⟨i, rfl⟩ | ⟨x, hx, rfl⟩ | ⟨xs, h1', rfl⟩ | ⟨xs, h1', rfl⟩ | ⟨ks, xs, rfl⟩ | ⟨a, ks, h1', h2', rfl⟩
    · exact .inl rfl
    · exact .inl rfl
    · exact .inl rfl
    · exact .inl rfl
    · exact .inr ⟨_, rfl⟩
    · exact .inr ⟨_, rfl⟩
    · exact absurd rfl (hd _ _)
    · exact .inr ⟨_, rfl⟩
end
end L2.PF

set_option Elab.async false
set_option linter.all false
set_option maxRecDepth 100000
set_option maxHeartbeats 4000000
/-! PFVk: kinds as trees; what fills, numbers and matches them. -/
namespace L2.PF
open PySem PySem.Spec PyProof.Rows
/-- values of texts, ints and tuples, n within one another -/
def Dat : Nat → PV → Prop
  | 0, _ => False
  | n + 1, v => (∃ i, v = .int i) ∨ (∃ x, v = .str x) ∨ ∃ xs, v = .tup xs ∧ ∀ x ∈ xs, Dat n x
theorem Dat.up : ∀ {n k : Nat} {v : PV}, Dat n v → n ≤ k → Dat k v
  | 0, _, _, h, _ => h.elim
  | n + 1, 0, _, _, h => absurd h (by omega)
  | n + 1, k + 1, v, h, hk => by
    rcases h with h | h | ⟨xs, h, h2⟩
    · exact .inl h
    · exact .inr (.inl h)
    · exact .inr (.inr ⟨xs, h, fun x hx => (h2 x hx).up (by omega)⟩)
theorem eqL_dat {f : PV → PV → Option Bool} : ∀ {xs ys : List PV}, (∀ x ∈ xs, ∀ y ∈ ys, f x y = some (decide (x = y))) → eqL f xs ys = some (decide (xs = ys))
  | [], [], _ => rfl
  | [], _ :: _, _ => rfl
  | _ :: _, [], _ => rfl
  | x :: xs, y :: ys, h => by
    rw [eqL, h x (by simp) y (by simp), eqL_dat fun a ha b hb => h a (List.mem_cons_of_mem _ ha) b (List.mem_cons_of_mem _ hb)]
    by_cases e : x = y <;> by_cases e2 : xs = ys <;> simp [e, e2]
theorem eqG_dat {S : Store} : ∀ {n k : Nat} {v u : PV}, Dat n v → Dat k u → eqG S n v u = some (decide (v = u))
  | 0, _, _, _, h, _ => h.elim
  | _ + 1, 0, _, _, _, h => h.elim
  | n + 1, k + 1, v, u, hv, hu => by
    rw [eqG]
    rcases hv with ⟨i, rfl⟩ | ⟨x, rfl⟩ | ⟨xs, rfl, h1⟩
    · rw [if_pos (show flatP (.int i) = true from rfl)]
      rcases hu with ⟨j, rfl⟩ | ⟨y, rfl⟩ | ⟨ys, rfl, h2⟩
      · rw [if_pos (show flatP (.int j) = true from rfl)]
        show some (i == j) = _
        by_cases e : i = j <;> simp [e]
      · rw [if_pos (show flatP (.str y) = true from rfl)]; simp [eqP]
      · simp [flatP, seqK]
    · rw [if_pos (show flatP (.str x) = true from rfl)]
      rcases hu with ⟨j, rfl⟩ | ⟨y, rfl⟩ | ⟨ys, rfl, h2⟩
      · rw [if_pos (show flatP (.int j) = true from rfl)]; simp [eqP]
      · rw [if_pos (show flatP (.str y) = true from rfl)]
        show some (x == y) = _
        by_cases e : x = y <;> simp [e]
      · simp [flatP, seqK]
    · rw [if_neg (by simp [flatP])]
      rcases hu with ⟨j, rfl⟩ | ⟨y, rfl⟩ | ⟨ys, rfl, h2⟩
      · simp [flatP, seqK]
      · simp [flatP, seqK]
      · simp only [seqK]
        rw [if_neg (by simp [flatP])]
        unfold eqS
        rw [if_pos rfl, if_neg (by simp), eqL_dat fun a ha b hb => eqG_dat (h1 a ha) (h2 b hb)]
        simp
theorem c_eq_dat {S : Store} {n k : Nat} {v u : PV} (hv : Dat n v) (hu : Dat k u) (hn : n ≤ 170) : cmpV .Eq S v u = some (decide (v = u)) := by
  have h : eqG S 170 v u = some (decide (v = u)) := eqG_dat (hv.up hn) hu
  rw [eqX_r]
  · exact h
  · match k, hu with
    | k + 1, hu => rcases hu with ⟨j, rfl⟩ | ⟨y, rfl⟩ | ⟨ys, rfl, h2⟩ <;> rfl
theorem c_ne_dat {S : Store} {n k : Nat} {v u : PV} (hv : Dat n v) (hu : Dat k u) (hn : n ≤ 170) : cmpV .NotEq S v u = some (!decide (v = u)) := by
  show (cmpV .Eq S v u).map (!·) = _
  rw [c_eq_dat hv hu hn]; rfl
/-! ### kinds -/
inductive Kn where
  | num
  | o (i : Int)
  | ref (a : Kn)
  | fn (a b : Kn)
  | m0 (x : Str)
  | m1 (x : Str) (a : Kn)
  | m2 (x : Str) (a b : Kn)
  deriving DecidableEq, Inhabited
namespace Kn
def pv : Kn → PV
  | num => .tup [.str (S "num")]
  | o i => .tup [.str (S "open"), .int i]
  | ref a => .tup [.str (S "ref"), a.pv]
  | fn a b => .tup [.str (S "fn"), a.pv, b.pv]
  | m0 x => .tup [.str (S "made"), .str x, .tup []]
  | m1 x a => .tup [.str (S "made"), .str x, .tup [a.pv]]
  | m2 x a b => .tup [.str (S "made"), .str x, .tup [a.pv, b.pv]]
def kids : Kn → List Kn
  | ref a => [a]
  | fn a b => [a, b]
  | m1 _ a => [a]
  | m2 _ a b => [a, b]
  | _ => []
def dep : Kn → Nat
  | ref a => a.dep + 1
  | fn a b => max a.dep b.dep + 1
  | m1 _ a => a.dep + 1
  | m2 _ a b => max a.dep b.dep + 1
  | _ => 1
theorem dep_pos (k : Kn) : 1 ≤ k.dep := by cases k <;> simp [dep]
theorem kids_dep {k c : Kn} (h : c ∈ k.kids) : c.dep + 1 ≤ k.dep := by
  cases k <;> simp [kids] at h
  · subst h; simp [dep]
  · rcases h with rfl | rfl <;> simp [dep] <;> omega
  · subst h; simp [dep]
  · rcases h with rfl | rfl <;> simp [dep] <;> omega
theorem kids_len (k : Kn) : k.kids.length ≤ 2 := by cases k <;> simp [kids]
/-- all at once, or in turn -/
def uni (xs ys : List Int) : List Int := xs ++ ys.filter fun y => decide (y ∉ xs)
def opens : Kn → List Int
  | o i => [i]
  | ref a => a.opens
  | fn a b => uni a.opens b.opens
  | m1 _ a => a.opens
  | m2 _ a b => uni a.opens b.opens
  | _ => []
def fill (f : Int → Option Kn) : Kn → Kn
  | num => num
  | o i => (f i).getD (o i)
  | ref a => ref (a.fill f)
  | fn a b => fn (a.fill f) (b.fill f)
  | m0 x => m0 x
  | m1 x a => m1 x (a.fill f)
  | m2 x a b => m2 x (a.fill f) (b.fill f)
def isO : Kn → Bool
  | o _ => true
  | _ => false
theorem dat : ∀ k : Kn, Dat (2 * k.dep) k.pv
  | num => .inr (.inr ⟨_, rfl, fun x hx => .inr (.inl ⟨_, List.mem_singleton.mp hx⟩)⟩)
  | o i => .inr (.inr ⟨_, rfl, fun x hx => by
    rcases List.mem_cons.mp hx with e | e
    · exact .inr (.inl ⟨_, e⟩)
    · exact .inl ⟨_, List.mem_singleton.mp e⟩⟩)
  | ref a => .inr (.inr ⟨_, rfl, fun x hx => by
    rcases List.mem_cons.mp hx with e | e
    · exact .inr (.inl ⟨_, e⟩)
    · rw [List.mem_singleton.mp e]; exact (dat a).up (by show 2 * a.dep ≤ 2 * a.dep + 1; omega)⟩)
  | fn a b => .inr (.inr ⟨_, rfl, fun x hx => by
    simp only [List.mem_cons, List.not_mem_nil, or_false] at hx
    rcases hx with e | e | e
    · exact .inr (.inl ⟨_, e⟩)
    · rw [e]; exact (dat a).up (by show 2 * a.dep ≤ 2 * max a.dep b.dep + 1; omega)
    · rw [e]; exact (dat b).up (by show 2 * b.dep ≤ 2 * max a.dep b.dep + 1; omega)⟩)
  | m0 x => .inr (.inr ⟨_, rfl, fun y hy => by
    simp only [List.mem_cons, List.not_mem_nil, or_false] at hy
    rcases hy with e | e | e
    · exact .inr (.inl ⟨_, e⟩)
    · exact .inr (.inl ⟨_, e⟩)
    · exact .inr (.inr ⟨_, e, fun z hz => by cases hz⟩)⟩)
  | m1 x a => by
    have h1 := a.dep_pos
    have : Dat (2 * a.dep + 1 + 1) (m1 x a).pv := .inr (.inr ⟨_, rfl, fun y hy => by
      simp only [List.mem_cons, List.not_mem_nil, or_false] at hy
      rcases hy with e | e | e
      · exact .inr (.inl ⟨_, e⟩)
      · exact .inr (.inl ⟨_, e⟩)
      · exact .inr (.inr ⟨_, e, fun z hz => by rw [List.mem_singleton.mp hz]; exact dat a⟩)⟩)
    exact this.up (by simp only [dep]; omega)
  | m2 x a b => by
    have : Dat (2 * max a.dep b.dep + 1 + 1) (m2 x a b).pv := .inr (.inr ⟨_, rfl, fun y hy => by
      simp only [List.mem_cons, List.not_mem_nil, or_false] at hy
      rcases hy with e | e | e
      · exact .inr (.inl ⟨_, e⟩)
      · exact .inr (.inl ⟨_, e⟩)
      · exact .inr (.inr ⟨_, e, fun z hz => by
          simp only [List.mem_cons, List.not_mem_nil, or_false] at hz
          rcases hz with rfl | rfl
          · exact (dat a).up (by omega)
          · exact (dat b).up (by omega)⟩)⟩)
    exact this.up (by simp only [dep]; omega)
theorem pv_tup (k : Kn) : ∃ xs, k.pv = .tup xs := by cases k <;> exact ⟨_, rfl⟩
theorem und (n : Nat) : ∀ k : Kn, PV.und n k.pv = true
  | num => rfl
  | o i => rfl
  | ref a => by simp [pv, PV.und, PV.undL, und n a]
  | fn a b => by simp [pv, PV.und, PV.undL, und n a, und n b]
  | m0 x => rfl
  | m1 x a => by simp [pv, PV.und, PV.undL, und n a]
  | m2 x a b => by simp [pv, PV.und, PV.undL, und n a, und n b]
theorem tags : S "num" ≠ S "open" ∧ S "num" ≠ S "ref" ∧ S "num" ≠ S "fn" ∧ S "num" ≠ S "made" ∧ S "open" ≠ S "ref" ∧ S "open" ≠ S "fn" ∧ S "open" ≠ S "made" ∧ S "ref" ≠ S "fn" ∧ S "ref" ≠ S "made" ∧ S "fn" ≠ S "made" := by decide +kernel
theorem inj : ∀ {k l : Kn}, k.pv = l.pv → k = l
  | num, l, h => by cases l <;> simp [pv, tags] at h ⊢
  | o i, l, h => by cases l <;> simp [pv, tags, Ne.symm tags.1] at h ⊢ <;> exact h
  | ref a, l, h => by
    cases l <;> simp [pv, tags, Ne.symm tags.2.1, Ne.symm tags.2.2.2.2.1] at h ⊢
    exact inj h
  | fn a b, l, h => by
    cases l <;> simp [pv, tags] at h ⊢
    exact ⟨inj h.1, inj h.2⟩
  | m0 x, l, h => by cases l <;> simp [pv, Ne.symm tags.2.2.2.2.2.2.2.2.2] at h ⊢ <;> exact h
  | m1 x a, l, h => by
    cases l <;> simp [pv, Ne.symm tags.2.2.2.2.2.2.2.2.2] at h ⊢
    exact ⟨h.1, inj h.2⟩
  | m2 x a b, l, h => by
    cases l <;> simp [pv, Ne.symm tags.2.2.2.2.2.2.2.2.2] at h ⊢
    exact ⟨h.1, inj h.2.1, inj h.2.2⟩
theorem pv_eq {k l : Kn} : (k.pv = l.pv) = (k = l) := propext ⟨inj, fun h => by rw [h]⟩
theorem c_eq {St : Store} {k l : Kn} (h : k.dep ≤ 85) : cmpV .Eq St k.pv l.pv = some (decide (k = l)) := by
  rw [c_eq_dat k.dat l.dat (by omega)]
  congr 1
  exact decide_eq_decide.mpr (by rw [pv_eq])
theorem c_ne {St : Store} {k l : Kn} (h : k.dep ≤ 85) : cmpV .NotEq St k.pv l.pv = some (!decide (k = l)) := by
  show (cmpV .Eq St k.pv l.pv).map (!·) = _
  rw [c_eq h]; rfl
end Kn
theorem Kd.kn {m : Int} : ∀ {n : Nat} {v : PV}, Kd m n v → ∃ k : Kn, v = k.pv ∧ k.dep ≤ n ∧ ∀ i ∈ k.opens, 0 ≤ i ∧ i < m
  | 0, _, h => h.elim
  | n + 1, v, h => by
    rcases h with rfl | ⟨i, h1, h2, rfl⟩ | ⟨a, b, h1, h2, rfl⟩ | ⟨a, h1, rfl⟩ | ⟨x, ks, h1, h2, h3, rfl⟩
    · exact ⟨.num, rfl, by simp [Kn.dep], fun i hi => by cases hi⟩
    · exact ⟨.o i, rfl, by simp [Kn.dep], fun j hj => by rw [List.mem_singleton.mp hj]; exact ⟨h1, h2⟩⟩
    · obtain ⟨a, rfl, d1, o1⟩ := h1.kn
      obtain ⟨b, rfl, d2, o2⟩ := h2.kn
      exact ⟨.fn a b, rfl, by simp [Kn.dep]; omega, fun i hi => by
        simp only [Kn.opens, Kn.uni, List.mem_append, List.mem_filter] at hi
        rcases hi with hi | hi
        · exact o1 i hi
        · exact o2 i hi.1⟩
    · obtain ⟨a, rfl, d1, o1⟩ := h1.kn
      exact ⟨.ref a, rfl, by simp [Kn.dep]; omega, o1⟩
    · match ks, h2, h3 with
      | [], _, _ => exact ⟨.m0 x, rfl, by simp [Kn.dep], fun i hi => by cases hi⟩
      | [a], _, h3 =>
        obtain ⟨a, rfl, d1, o1⟩ := (h3 a (by simp)).kn
        exact ⟨.m1 x a, rfl, by simp [Kn.dep]; omega, o1⟩
      | [a, b], _, h3 =>
        obtain ⟨a, rfl, d1, o1⟩ := (h3 a (by simp)).kn
        obtain ⟨b, rfl, d2, o2⟩ := (h3 b (by simp)).kn
        exact ⟨.m2 x a b, rfl, by simp [Kn.dep]; omega, fun i hi => by
          simp only [Kn.opens, Kn.uni, List.mem_append, List.mem_filter] at hi
          rcases hi with hi | hi
          · exact o1 i hi
          · exact o2 i hi.1⟩
      | _ :: _ :: _ :: _, h2, _ => simp at h2
end L2.PF

set_option Elab.async false
set_option linter.all false
set_option maxRecDepth 100000
set_option maxHeartbeats 4000000
/-! PFVm: matchings of kinds, by themselves. -/
namespace L2.PF.Kn
open PySem PySem.Spec PyProof.Rows
abbrev Fil := List (Int × Kn)
def mat : Kn → Kn → Fil → Option Fil
  | o i, l, F => match F.lookup i with
    | none => some (F ++ [(i, l)])
    | some w => if w = l then some F else none
  | num, num, F => some F
  | ref a, ref b, F => mat a b F
  | fn a a', fn b b', F => (mat a b F).bind (mat a' b')
  | m0 x, m0 y, F => if x = y then some F else none
  | m1 x a, m1 y b, F => if x = y then mat a b F else none
  | m2 x a a', m2 y b b', F => if x = y then (mat a b F).bind (mat a' b') else none
  | _, _, _ => none
def Sub (F : Fil) (f : Int → Option Kn) : Prop := ∀ i v, F.lookup i = some v → f i = some v
theorem lookup_app {i : Int} : ∀ {F G : Fil}, (F ++ G).lookup i = (F.lookup i).or (G.lookup i)
  | [], G => by simp
  | (j, w) :: F, G => by
    rw [List.cons_append, List.lookup_cons, List.lookup_cons]
    split <;> simp [lookup_app]
theorem sub_one {F : Fil} {i : Int} {l : Kn} {f : Int → Option Kn} (h : Sub F f) (e : f i = some l) : Sub (F ++ [(i, l)]) f := fun j v hj => by
  rw [lookup_app] at hj
  cases hF : F.lookup j with
  | some w => rw [hF] at hj; simp at hj; rw [← hj]; exact h j w hF
  | none =>
    rw [hF, Option.none_or, List.lookup_cons] at hj
    by_cases e2 : j = i
    · subst e2; simp at hj; rw [e, hj]
    · have h3 : (j == i) = false := by simpa using e2
      rw [h3] at hj; cases hj
theorem lookup_mem {i : Int} : ∀ {F : Fil} {v : Kn}, F.lookup i = some v → (i, v) ∈ F
  | [], v, h => by cases h
  | (j, w) :: F, v, h => by
    rw [List.lookup_cons] at h
    by_cases e : i = j
    · subst e; simp at h; subst h; simp
    · have : (i == j) = false := by simpa using e
      rw [this] at h; exact List.mem_cons_of_mem _ (lookup_mem h)
theorem lookup_none {i : Int} : ∀ {F : Fil}, F.lookup i = none ↔ i ∉ F.map (·.1)
  | [] => by simp
  | (j, w) :: F => by
    rw [List.lookup_cons]
    by_cases e : i = j
    · subst e; simp
    · have h : (i == j) = false := by simpa using e
      rw [h]; simp [e, lookup_none]
theorem mem_uni {xs ys : List Int} {i : Int} : i ∈ uni xs ys ↔ i ∈ xs ∨ i ∈ ys := by
  unfold uni
  simp only [List.mem_append, List.mem_filter, decide_eq_true_eq]
  by_cases h : i ∈ xs <;> simp [h]
theorem uni_nil {ys : List Int} : uni [] ys = ys := by simp [uni]
theorem uni_self {xs : List Int} : uni xs [] = xs := by simp [uni]
theorem uni_assoc {xs ys zs : List Int} : uni (uni xs ys) zs = uni xs (uni ys zs) := by
  unfold uni
  rw [List.filter_append, List.append_assoc, List.filter_filter]
  congr 2
  refine List.filter_congr fun z hz => ?_
  simp only [List.mem_append, List.mem_filter, decide_eq_true_eq]
  by_cases h1 : z ∈ xs <;> by_cases h2 : z ∈ ys <;> simp [h1, h2]
theorem uni_nodup {xs ys : List Int} (h1 : xs.Nodup) (h2 : ys.Nodup) : (uni xs ys).Nodup := by
  unfold uni
  rw [List.nodup_append]
  refine ⟨h1, h2.filter _, fun a ha b hb e => ?_⟩
  subst e
  simp at hb
  exact hb.2 ha
theorem opens_nodup : ∀ k : Kn, k.opens.Nodup
  | num => .nil
  | o i => by simp [opens]
  | ref a => opens_nodup a
  | fn a b => uni_nodup (opens_nodup a) (opens_nodup b)
  | m0 x => .nil
  | m1 x a => opens_nodup a
  | m2 x a b => uni_nodup (opens_nodup a) (opens_nodup b)
theorem fill_congr {f g : Int → Option Kn} : ∀ {k : Kn}, (∀ i ∈ k.opens, f i = g i) → k.fill f = k.fill g
  | num, _ => rfl
  | o i, h => by simp only [fill]; rw [h i (by simp [opens])]
  | ref a, h => by simp only [fill]; rw [fill_congr (k := a) h]
  | fn a b, h => by
    simp only [fill]
    rw [fill_congr (k := a) fun i hi => h i (mem_uni.mpr (.inl hi)), fill_congr (k := b) fun i hi => h i (mem_uni.mpr (.inr hi))]
  | m0 x, _ => rfl
  | m1 x a, h => by simp only [fill]; rw [fill_congr (k := a) h]
  | m2 x a b, h => by
    simp only [fill]
    rw [fill_congr (k := a) fun i hi => h i (mem_uni.mpr (.inl hi)), fill_congr (k := b) fun i hi => h i (mem_uni.mpr (.inr hi))]
theorem fill_fill {f g : Int → Option Kn} : ∀ {k : Kn}, (k.fill f).fill g = k.fill fun i => some (((f i).getD (o i)).fill g)
  | num => rfl
  | o i => rfl
  | ref a => by simp only [fill]; rw [fill_fill]
  | fn a b => by simp only [fill]; rw [fill_fill, fill_fill]
  | m0 x => rfl
  | m1 x a => by simp only [fill]; rw [fill_fill]
  | m2 x a b => by simp only [fill]; rw [fill_fill, fill_fill]
theorem fill_id {f : Int → Option Kn} : ∀ {k : Kn}, (∀ i ∈ k.opens, (f i).getD (o i) = o i) → k.fill f = k
  | num, _ => rfl
  | o i, h => h i (by simp [opens])
  | ref a, h => by simp only [fill]; rw [fill_id (k := a) h]
  | fn a b, h => by
    simp only [fill]
    rw [fill_id (k := a) fun i hi => h i (mem_uni.mpr (.inl hi)), fill_id (k := b) fun i hi => h i (mem_uni.mpr (.inr hi))]
  | m0 x, _ => rfl
  | m1 x a, h => by simp only [fill]; rw [fill_id (k := a) h]
  | m2 x a b, h => by
    simp only [fill]
    rw [fill_id (k := a) fun i hi => h i (mem_uni.mpr (.inl hi)), fill_id (k := b) fun i hi => h i (mem_uni.mpr (.inr hi))]
/-- and back: what stays, is open -/
theorem fill_id_at {f : Int → Option Kn} : ∀ {k : Kn}, k.fill f = k → ∀ i ∈ k.opens, (f i).getD (o i) = o i
  | num, _, _, h => by cases h
  | o i, h, j, hj => by rw [List.mem_singleton.mp hj]; exact h
  | ref a, h, i, hi => by simp only [fill] at h; injection h with h; exact fill_id_at h i hi
  | fn a b, h, i, hi => by
    simp only [fill] at h; injection h with h1 h2
    rcases mem_uni.mp hi with hi | hi
    · exact fill_id_at h1 i hi
    · exact fill_id_at h2 i hi
  | m0 x, _, _, h => by cases h
  | m1 x a, h, i, hi => by simp only [fill] at h; injection h with _ h; exact fill_id_at h i hi
  | m2 x a b, h, i, hi => by
    simp only [fill] at h; injection h with _ h1 h2
    rcases mem_uni.mp hi with hi | hi
    · exact fill_id_at h1 i hi
    · exact fill_id_at h2 i hi
/-- what a matching tells -/
theorem mat_ok : ∀ {k l : Kn} {F G : Fil}, mat k l F = some G → Sub F (G.lookup ·) ∧ G.map (·.1) = uni (F.map (·.1)) k.opens ∧ ∀ f, Sub G f → k.fill f = l := by
  intro k
  have two : ∀ {a b c d : Kn} {F G : Fil}, (∀ {l : Kn} {F G : Fil}, mat a l F = some G → Sub F (G.lookup ·) ∧ G.map (·.1) = uni (F.map (·.1)) a.opens ∧ ∀ f, Sub G f → a.fill f = l) →
      (∀ {l : Kn} {F G : Fil}, mat b l F = some G → Sub F (G.lookup ·) ∧ G.map (·.1) = uni (F.map (·.1)) b.opens ∧ ∀ f, Sub G f → b.fill f = l) → (mat a c F).bind (mat b d) = some G →
      Sub F (G.lookup ·) ∧ G.map (·.1) = uni (F.map (·.1)) (uni a.opens b.opens) ∧ ∀ f, Sub G f → a.fill f = c ∧ b.fill f = d := by
    intro a b c d F G iha ihb h
    cases h1 : mat a c F with
    | none => rw [h1] at h; cases h
    | some F1 =>
      rw [h1] at h
      obtain ⟨s1, k1, f1⟩ := iha h1
      obtain ⟨s2, k2, f2⟩ := ihb h
      exact ⟨fun i v hv => s2 i v (s1 i v hv), by rw [k2, k1, uni_assoc], fun f hf => ⟨f1 f fun i v hv => hf i v (s2 i v hv), f2 f hf⟩⟩
  induction k with
  | num =>
    intro l F G h
    cases l <;> simp [mat] at h
    subst h
    exact ⟨fun _ _ h => h, by simp [opens, uni_self], fun f _ => rfl⟩
  | o i =>
    intro l F G h
    rw [mat] at h
    cases hF : F.lookup i with
    | none =>
      rw [hF] at h; simp at h; subst h
      refine ⟨fun j v hj => by show List.lookup j (F ++ [(i, l)]) = _; rw [lookup_app, hj]; rfl, ?_, fun f hf => ?_⟩
      · rw [List.map_append, List.map_cons, List.map_nil]
        unfold uni opens
        rw [List.filter_cons, if_pos (by simpa using lookup_none.mp hF)]
        rfl
      · have := hf i l (by rw [lookup_app, hF]; simp)
        simp [fill, this]
    | some w =>
      rw [hF] at h; simp at h
      obtain ⟨rfl, rfl⟩ := h
      refine ⟨fun _ _ h => h, ?_, fun f hf => by simp [fill, hf i w hF]⟩
      unfold uni opens
      rw [List.filter_cons, if_neg]
      · simp
      · have : i ∈ F.map (·.1) := List.mem_map.mpr ⟨_, lookup_mem hF, rfl⟩
        simp [this]
  | ref a ih =>
    intro l F G h
    cases l <;> simp [mat] at h
    obtain ⟨s, k, f⟩ := ih h
    exact ⟨s, k, fun g hg => by rw [fill, f g hg]⟩
  | fn a b iha ihb =>
    intro l F G h
    cases l <;> simp [mat] at h
    obtain ⟨s, k, f⟩ := two iha ihb h
    exact ⟨s, k, fun g hg => by rw [fill, (f g hg).1, (f g hg).2]⟩
  | m0 x =>
    intro l F G h
    cases l <;> simp [mat] at h
    obtain ⟨rfl, rfl⟩ := h
    exact ⟨fun _ _ h => h, by simp [opens, uni_self], fun f _ => rfl⟩
  | m1 x a ih =>
    intro l F G h
    cases l <;> simp [mat] at h
    obtain ⟨rfl, h⟩ := h
    obtain ⟨s, k, f⟩ := ih h
    exact ⟨s, k, fun g hg => by rw [fill, f g hg]⟩
  | m2 x a b iha ihb =>
    intro l F G h
    cases l <;> simp [mat] at h
    obtain ⟨rfl, h⟩ := h
    obtain ⟨s, k, f⟩ := two iha ihb h
    exact ⟨s, k, fun g hg => by rw [fill, (f g hg).1, (f g hg).2]⟩
/-- what is filled is matched -/
theorem mat_all {f : Int → Option Kn} : ∀ {k : Kn} {F : Fil}, Sub F f → (∀ i ∈ k.opens, (f i).isSome = true) → ∃ G, mat k (k.fill f) F = some G ∧ Sub G f := by
  intro k
  have two : ∀ {a b : Kn} {F : Fil}, (∀ {F : Fil}, Sub F f → (∀ i ∈ a.opens, (f i).isSome = true) → ∃ G, mat a (a.fill f) F = some G ∧ Sub G f) → (∀ {F : Fil}, Sub F f → (∀ i ∈ b.opens, (f i).isSome = true) → ∃ G, mat b (b.fill f) F = some G ∧ Sub G f) →
      Sub F f → (∀ i ∈ uni a.opens b.opens, (f i).isSome = true) → ∃ G, (mat a (a.fill f) F).bind (mat b (b.fill f)) = some G ∧ Sub G f := by
    intro a b F iha ihb hF h
    obtain ⟨F1, h1, s1⟩ := iha hF fun i hi => h i (mem_uni.mpr (.inl hi))
    obtain ⟨F2, h2, s2⟩ := ihb s1 fun i hi => h i (mem_uni.mpr (.inr hi))
    exact ⟨F2, by rw [h1]; exact h2, s2⟩
  induction k with
  | num => intro F hF h; exact ⟨F, rfl, hF⟩
  | o i =>
    intro F hF h
    obtain ⟨v, hv⟩ := Option.isSome_iff_exists.mp (h i (by simp [opens]))
    rw [mat, fill, hv]
    cases hl : F.lookup i with
    | none => exact ⟨_, rfl, sub_one hF hv⟩
    | some w =>
      have := hF i w hl
      rw [hv] at this
      cases this
      exact ⟨F, by simp, hF⟩
  | ref a ih => intro F hF h; exact ih hF h
  | fn a b iha ihb => intro F hF h; exact two iha ihb hF h
  | m0 x => intro F hF h; exact ⟨F, by simp [mat, fill], hF⟩
  | m1 x a ih =>
    intro F hF h
    obtain ⟨G, h1, h2⟩ := ih hF h
    exact ⟨G, by simp only [mat, fill, if_true]; exact h1, h2⟩
  | m2 x a b iha ihb =>
    intro F hF h
    obtain ⟨G, h1, h2⟩ := two iha ihb hF h
    exact ⟨G, by simp only [mat, fill, if_true]; exact h1, h2⟩
/-! ### numbered -/
def numL (L : List Int) : Fil := L.zipIdx.map fun p => (p.1, o p.2)
def numd (k : Kn) : Kn := k.fill (List.lookup · (numL k.opens))
theorem num_at : ∀ {L : List Int} {n : Nat} {i : Int}, ((L.zipIdx n).map fun p => ((p.1 : Int), o p.2)).lookup i = (L.idxOf? i).map fun j => o ((j + n : Nat) : Int)
  | [], n, i => rfl
  | x :: L, n, i => by
    rw [List.zipIdx_cons, List.map_cons, List.lookup_cons, List.idxOf?_cons]
    by_cases e : x = i
    · subst e; simp
    · have h1 : (x == i) = false := by simpa using e
      have h2 : (i == x) = false := by simpa using fun z => e z.symm
      rw [h1, h2]
      simp only [num_at, Option.map_map, Bool.false_eq_true, if_false]
      congr 1
      funext j
      simp only [Function.comp]
      congr 2
      omega
theorem num_look {L : List Int} {i : Int} : (numL L).lookup i = (L.idxOf? i).map fun j => o (j : Nat) := by
  unfold numL
  rw [num_at]
  simp
theorem idx_some {L : List Int} {i : Int} (h : i ∈ L) : ∃ j, L.idxOf? i = some j ∧ L[j]? = some i := by
  induction L with
  | nil => cases h
  | cons x L ih =>
    rw [List.idxOf?_cons]
    by_cases e : x = i
    · subst e; exact ⟨0, by simp, rfl⟩
    · have h1 : (x == i) = false := by simpa using e
      rw [h1]
      obtain ⟨j, h2, h3⟩ := ih (by rcases List.mem_cons.mp h with z | z; exact absurd z.symm e; exact z)
      exact ⟨j + 1, by simp [h2], by simpa using h3⟩
theorem idx_map {r : Int → Int} {i : Int} : ∀ {L : List Int}, i ∈ L → (∀ a ∈ L, ∀ b ∈ L, r a = r b → a = b) → (L.map r).idxOf? (r i) = L.idxOf? i
  | [], h, _ => by cases h
  | x :: L, h, inj => by
    rw [List.map_cons, List.idxOf?_cons, List.idxOf?_cons]
    by_cases e : x = i
    · subst e; simp
    · have h1 : (x == i) = false := by simpa using e
      have h2 : (r x == r i) = false := by simpa using fun z => e (inj x (by simp) i h z)
      rw [h1, h2, idx_map (by rcases List.mem_cons.mp h with z | z; exact absurd z.symm e; exact z) fun a ha b hb => inj a (List.mem_cons_of_mem _ ha) b (List.mem_cons_of_mem _ hb)]
/-- filled back -/
theorem numd_back (k : Kn) : k.numd.fill (fun i => (k.opens[i.toNat]?).map o) = k := by
  unfold numd
  rw [fill_fill]
  refine fill_id fun i hi => ?_
  obtain ⟨j, h1, h2⟩ := idx_some hi
  rw [num_look, h1]
  simp [fill, h2]
theorem opens_ren {r : Int → Int} : ∀ {k : Kn}, (∀ a ∈ k.opens, ∀ b ∈ k.opens, r a = r b → a = b) → (k.fill fun i => some (o (r i))).opens = k.opens.map r := by
  have two : ∀ {xs ys : List Int}, (∀ a ∈ uni xs ys, ∀ b ∈ uni xs ys, r a = r b → a = b) → uni (xs.map r) (ys.map r) = (uni xs ys).map r := by
    intro xs ys h
    unfold uni
    rw [List.map_append, List.filter_map]
    congr 2
    refine List.filter_congr fun y hy => ?_
    simp only [Function.comp, List.mem_map, decide_eq_decide, not_exists]
    refine ⟨fun z hz => z y ⟨hz, rfl⟩, fun z x hx => z ?_⟩
    rw [← h x (mem_uni.mpr (.inl hx.1)) y (mem_uni.mpr (.inr hy)) hx.2]
    exact hx.1
  intro k
  induction k with
  | num => intro h; rfl
  | o i => intro h; rfl
  | ref a ih => intro h; exact ih h
  | fn a b iha ihb =>
    intro h
    simp only [fill, opens]
    rw [iha fun x hx y hy => h x (mem_uni.mpr (.inl hx)) y (mem_uni.mpr (.inl hy)), ihb fun x hx y hy => h x (mem_uni.mpr (.inr hx)) y (mem_uni.mpr (.inr hy))]
    exact two h
  | m0 x => intro h; rfl
  | m1 x a ih => intro h; exact ih h
  | m2 x a b iha ihb =>
    intro h
    simp only [fill, opens]
    rw [iha fun x hx y hy => h x (mem_uni.mpr (.inl hx)) y (mem_uni.mpr (.inl hy)), ihb fun x hx y hy => h x (mem_uni.mpr (.inr hx)) y (mem_uni.mpr (.inr hy))]
    exact two h
theorem numd_ren {r : Int → Int} {k : Kn} (h : ∀ a ∈ k.opens, ∀ b ∈ k.opens, r a = r b → a = b) : (k.fill fun i => some (o (r i))).numd = k.numd := by
  rw [numd, opens_ren h, fill_fill, numd]
  refine fill_congr fun i hi => ?_
  obtain ⟨j, h1, h2⟩ := idx_some hi
  simp only [Option.getD_some, fill]
  rw [num_look, num_look, idx_map hi h, h1]
  rfl
/-- matched both ways: numbered alike -/
theorem both_iff {k l : Kn} : ((mat k l []).isSome = true ∧ (mat l k []).isSome = true) ↔ k.numd = l.numd := by
  have nosub : ∀ f, Sub [] f := fun f i v h => by cases h
  constructor
  · rintro ⟨h1, h2⟩
    obtain ⟨G, hG⟩ := Option.isSome_iff_exists.mp h1
    obtain ⟨G', hG'⟩ := Option.isSome_iff_exists.mp h2
    have e1 := (mat_ok hG).2.2 _ fun i v h => h
    have e2 := (mat_ok hG').2.2 _ fun i v h => h
    have e3 : (k.fill (List.lookup · G)).fill (List.lookup · G') = k := by rw [e1]; exact e2
    rw [fill_fill] at e3
    have at_ := fill_id_at e3
    let r : Int → Int := fun i => match List.lookup i G with | some (o j) => j | _ => i
    let r' : Int → Int := fun j => match List.lookup j G' with | some (o i) => i | _ => j
    have hr : ∀ i ∈ k.opens, (List.lookup i G).getD (o i) = o (r i) ∧ r' (r i) = i := fun i hi => by
      have := at_ i hi
      simp only [Option.getD_some] at this
      have sh : ∀ v : Kn, v.fill (List.lookup · G') = o i → ∃ j, v = o j ∧ r' j = i := fun v hv => by
        cases v with
        | o j =>
          refine ⟨j, rfl, ?_⟩
          simp only [fill] at hv
          show (match List.lookup j G' with | some (o i) => i | _ => j) = i
          cases hl : List.lookup j G' with
          | none => rw [hl] at hv; simp at hv; exact hv
          | some w => rw [hl] at hv; simp at hv; rw [hv]
        | _ => simp [fill] at hv
      obtain ⟨j, h1, h2⟩ := sh _ this
      have hj : r i = j := by
        show (match List.lookup i G with | some (o j) => j | _ => i) = j
        cases hl : List.lookup i G with
        | none => rw [hl] at h1; simp at h1; exact h1
        | some w => rw [hl] at h1; simp at h1; rw [h1]
      rw [hj]
      exact ⟨h1, h2⟩
    have e4 : l = k.fill fun i => some (o (r i)) := by
      rw [← e1]
      have : ∀ {k : Kn} {f : Int → Option Kn}, k.fill f = k.fill fun i => some ((f i).getD (o i)) := by
        intro k f
        induction k with
        | num => rfl
        | o i => rfl
        | ref a ih => simp only [fill, ih]
        | fn a b iha ihb => simp only [fill]; rw [iha, ihb]
        | m0 x => rfl
        | m1 x a ih => simp only [fill, ih]
        | m2 x a b iha ihb => simp only [fill]; rw [iha, ihb]
      rw [this]
      exact fill_congr fun i hi => by rw [(hr i hi).1]
    rw [e4]
    exact (numd_ren fun a ha b hb e => by rw [← (hr a ha).2, ← (hr b hb).2, e]).symm
  · intro h
    have one : ∀ {k l : Kn}, k.numd = l.numd → (mat k l []).isSome = true := fun {k l} h => by
      have e := numd_back l
      rw [← h] at e
      unfold numd at e
      rw [fill_fill] at e
      obtain ⟨G, hG, _⟩ := mat_all (k := k) (F := []) (f := fun i => some (((List.lookup i (numL k.opens)).getD (o i)).fill fun i => (l.opens[i.toNat]?).map o)) (nosub _) fun i _ => rfl
      rw [e] at hG
      rw [hG]
      rfl
    exact ⟨one h, one h.symm⟩
/-- the filling that was drawn is the one found -/
theorem mat_same {k : Kn} {G : Fil} (h : G.map (·.1) = k.opens) : mat k (k.fill (G.lookup ·)) [] = some G := by
  have hs : ∀ i ∈ k.opens, (G.lookup i).isSome = true := fun i hi => by
    cases e : G.lookup i with
    | some v => rfl
    | none => rw [← h] at hi; exact absurd hi (lookup_none.mp e)
  obtain ⟨F, hF, sF⟩ := mat_all (k := k) (F := []) (f := (G.lookup ·)) (fun i v h => by cases h) hs
  have hk := (mat_ok hF).2.1
  rw [List.map_nil, uni_nil] at hk
  have nd := opens_nodup k
  have eq : ∀ {A B : Fil}, A.map (·.1) = B.map (·.1) → (A.map (·.1)).Nodup → (∀ i v, A.lookup i = some v → B.lookup i = some v) → A = B := by
    intro A
    induction A with
    | nil => intro B h _ _; cases B with | nil => rfl | cons b B => simp at h
    | cons a A ih =>
      intro B h nd s
      obtain ⟨i, v⟩ := a
      cases B with
      | nil => simp at h
      | cons b B =>
        obtain ⟨j, w⟩ := b
        simp only [List.map_cons, List.cons.injEq] at h
        obtain ⟨rfl, h⟩ := h
        rw [List.map_cons, List.nodup_cons] at nd
        have := s i v (by simp [List.lookup_cons])
        simp [List.lookup_cons] at this
        subst this
        rw [ih h nd.2 fun p q hp => ?_]
        have hne : p ≠ i := fun e => nd.1 (e ▸ List.mem_map.mpr ⟨_, lookup_mem hp, rfl⟩)
        have h2 : (p == i) = false := by simpa using hne
        have := s p q (by rw [List.lookup_cons, h2]; exact hp)
        rw [List.lookup_cons, h2] at this
        exact this
  rw [hF, eq (hk.trans h.symm) (by rw [hk]; exact nd) sF]
end L2.PF.Kn
namespace L2.PF.Kn
open PySem PySem.Spec PyProof.Rows
/-! ### heads -/
def tag : Kn → Str
  | num => S "num"
  | o _ => S "open"
  | ref _ => S "ref"
  | fn _ _ => S "fn"
  | _ => S "made"
def isM : Kn → Bool
  | m0 _ => true
  | m1 _ _ => true
  | m2 _ _ _ => true
  | _ => false
def nm : Kn → Str
  | m0 x => x
  | m1 x _ => x
  | m2 x _ _ => x
  | _ => S ""
def alike (k l : Kn) : Bool := decide (k.tag = l.tag) && (!k.isM || decide (k.nm = l.nm)) && decide (k.kids.length = l.kids.length)
def matL : List (Kn × Kn) → Fil → Option Fil
  | [], F => some F
  | p :: r, F => (mat p.1 p.2 F).bind (matL r)
theorem matL_snoc {p : Kn × Kn} : ∀ {ps : List (Kn × Kn)} {F : Fil}, matL (ps ++ [p]) F = (matL ps F).bind (mat p.1 p.2)
  | [], F => by simp [matL]
  | q :: ps, F => by
    rw [List.cons_append, matL, matL]
    cases mat q.1 q.2 F with
    | none => rfl
    | some G => exact matL_snoc
theorem mat_kids {k l : Kn} {F : Fil} (h : k.isO = false) : mat k l F = if alike k l = true then matL (k.kids.zip l.kids) F else none := by
  have t1 := tags
  have t2 := Ne.symm tags.1
  have t3 := Ne.symm tags.2.1
  have t4 := Ne.symm tags.2.2.1
  have t5 := Ne.symm tags.2.2.2.1
  have t6 := Ne.symm tags.2.2.2.2.1
  have t7 := Ne.symm tags.2.2.2.2.2.1
  have t8 := Ne.symm tags.2.2.2.2.2.2.1
  have t9 := Ne.symm tags.2.2.2.2.2.2.2.1
  have t10 := Ne.symm tags.2.2.2.2.2.2.2.2.1
  have t11 := Ne.symm tags.2.2.2.2.2.2.2.2.2
  have z : ∀ {a : Option Fil}, (a.bind fun G => some G) = a := fun {a} => by cases a <;> rfl
  cases k <;> simp [isO] at h <;> cases l <;> simp [mat, alike, tag, isM, nm, kids, matL, t1, t2, t3, t4, t5, t6, t7, t8, t9, t10, t11, z] <;> (split <;> rename_i e <;> simp [e])
theorem ix0 {St : Store} (k : Kn) : ixV St k.pv (.int 0) = some (.str k.tag) := by cases k <;> exact atI0
theorem ix1 {St : Store} {k : Kn} (h : k.isM = true) : ixV St k.pv (.int 1) = some (.str k.nm) := by cases k <;> first | (cases h; done) | exact atI1
theorem ixo {St : Store} {i : Int} : ixV St (o i).pv (.int 1) = some (.int i) := atI1
theorem is_o {St : Store} (k : Kn) : cmpV .Eq St (.str k.tag) (.str (S "open")) = some k.isO := by
  cases k <;> first | exact too | exact tno | exact tro | exact tfo | exact tmo
theorem is_n {St : Store} (k : Kn) : cmpV .Eq St (.str k.tag) (.str (S "num")) = some (decide (k = num)) := by
  cases k <;> simp <;> first | exact tnn | exact ton | exact trn | exact tfn_ | exact tmn
theorem is_m {St : Store} (k : Kn) : cmpV .Eq St (.str k.tag) (.str (S "made")) = some k.isM := by
  cases k <;> first | exact tmm | exact tnm | exact tom | exact tfm | exact trm
theorem isM_tag {k l : Kn} (h : k.tag = l.tag) : k.isM = l.isM := by
  have a := is_m (St := []) k
  rw [h, is_m l] at a
  exact (Option.some.inj a).symm
theorem isO_tag {k l : Kn} (h : k.tag = l.tag) : k.isO = l.isO := by
  have a := is_o (St := []) k
  rw [h, is_o l] at a
  exact (Option.some.inj a).symm
end L2.PF.Kn

set_option Elab.async false
set_option linter.all false
set_option maxRecDepth 100000
set_option maxHeartbeats 4000000
/-! PFVn: what the package asks of kinds as trees: within, open names, filled, numbered. -/
namespace L2.PF
open PySem PySem.Spec PyProof.Rows
theorem put_n {i : Nat} {v : PV} {e : Env} : putT (.n i) v e = some (e.set i (some v)) := rfl
theorem put2 {i j : Nat} {x y : PV} {e : Env} : putT (.t [i, j]) (.tup [x, y]) e = some ((e.set i (some x)).set j (some y)) := rfl
theorem put3 {i j k : Nat} {x y z : PV} {e : Env} : putT (.t [i, j, k]) (.tup [x, y, z]) e = some (((e.set i (some x)).set j (some y)).set k (some z)) := rfl
theorem sl01 {S : Store} {x : PV} {xs : List PV} : slV S (.tup (x :: xs)) none (some 1) = some (.tup [x]) := by
  show some (PV.tup (cutP (x :: xs) none (some 1))) = _
  unfold cutP
  rw [HT.sIx_none, show HT.sIx (x :: xs).length (x :: xs).length (some 1) = 1 by
    rw [show (some (1 : Int)) = some ((1 : Nat) : Int) from rfl, HT.sIx_nat]
    simp only [List.length_cons]
    omega]
  simp
theorem nodup_len : ∀ (n : Nat) (l : List Int), l.Nodup → (∀ i ∈ l, 0 ≤ i ∧ i < n) → l.length ≤ n
  | 0, l, _, h => by
    cases l with
    | nil => simp
    | cons a l => have := h a (by simp); omega
  | n + 1, l, nd, h => by
    have h1 := nodup_len n (l.erase (n : Int)) (nd.erase _) fun i hi => by
      have := h i (List.mem_of_mem_erase hi)
      have h2 : i ≠ (n : Int) := fun e => by
        subst e
        exact absurd hi (by rw [nd.mem_erase_iff]; simp)
      omega
    have := List.length_erase_le (a := (n : Int)) (l := l)
    have h3 := List.le_length_erase (a := (n : Int)) (l := l)
    omega
namespace Kn
def In (m : Nat) (k : Kn) : Prop := ∀ i ∈ k.opens, 0 ≤ i ∧ i < m
theorem In.len {m : Nat} {k : Kn} (h : k.In m) : k.opens.length ≤ m := nodup_len m _ (opens_nodup k) h
theorem mem_kids {k c : Kn} (h : c ∈ k.kids) : ∀ i ∈ c.opens, i ∈ k.opens := by
  intro i hi
  cases k <;> simp [kids] at h
  · subst h; exact hi
  · rcases h with rfl | rfl
    · exact mem_uni.mpr (.inl hi)
    · exact mem_uni.mpr (.inr hi)
  · subst h; exact hi
  · rcases h with rfl | rfl
    · exact mem_uni.mpr (.inl hi)
    · exact mem_uni.mpr (.inr hi)
theorem In.kids {m : Nat} {k c : Kn} (h : k.In m) (hc : c ∈ k.kids) : c.In m := fun i hi => h i (mem_kids hc i hi)
def opensL (ks : List Kn) : List Int := ks.foldl (fun a k => uni a k.opens) []
theorem opensL_snoc (ks : List Kn) (k : Kn) : opensL (ks ++ [k]) = uni (opensL ks) k.opens := by unfold opensL; rw [List.foldl_append]; rfl
theorem opensL_mem {i : Int} : ∀ {ks : List Kn}, i ∈ opensL ks → ∃ k ∈ ks, i ∈ k.opens := by
  have : ∀ (ks : List Kn) (a : List Int), i ∈ ks.foldl (fun a k => uni a k.opens) a → i ∈ a ∨ ∃ k ∈ ks, i ∈ k.opens := by
    intro ks
    induction ks with
    | nil => intro a h; exact .inl h
    | cons k ks ih =>
      intro a h
      rcases ih _ h with h | ⟨c, hc, h⟩
      · rcases mem_uni.mp h with h | h
        · exact .inl h
        · exact .inr ⟨k, by simp, h⟩
      · exact .inr ⟨c, List.mem_cons_of_mem _ hc, h⟩
  intro ks h
  rcases this ks [] h with h | h
  · cases h
  · exact h
theorem opensL_nodup (ks : List Kn) : (opensL ks).Nodup := by
  have : ∀ (ks : List Kn) (a : List Int), a.Nodup → (ks.foldl (fun a k => uni a k.opens) a).Nodup := by
    intro ks
    induction ks with
    | nil => intro a h; exact h
    | cons k ks ih => intro a h; exact ih _ (uni_nodup h (opens_nodup k))
  exact this ks [] .nil
theorem opens_kids {k : Kn} (h : k.isO = false) : k.opens = opensL k.kids := by
  cases k <;> simp [isO] at h <;> simp [opens, opensL, kids, uni_nil]
/-- with other kinds right within -/
def wv : Kn → List PV → PV
  | m0 x, cs => .tup [.str (S "made"), .str x, .tup cs]
  | m1 x _, cs => .tup [.str (S "made"), .str x, .tup cs]
  | m2 x _ _, cs => .tup [.str (S "made"), .str x, .tup cs]
  | num, cs => .tup (.str (S "num") :: cs)
  | o _, cs => .tup (.str (S "open") :: cs)
  | ref _, cs => .tup (.str (S "ref") :: cs)
  | fn _ _, cs => .tup (.str (S "fn") :: cs)
theorem fill_wv {f : Int → Option Kn} {k : Kn} (h : k.isO = false) : (k.fill f).pv = wv k (k.kids.map fun c => (c.fill f).pv) := by
  cases k <;> simp [isO] at h <;> rfl
theorem split (k : Kn) : (∃ i, k = o i) ∨ (k.isO = false ∧ ∃ (t : String) (r : List PV), k.pv = .tup (.str (PF.S t) :: r) ∧ (∀ St, cmpV .Eq St (.str (PF.S t)) (.str (PF.S "open")) = some false) ∧ (k = num ∨ ∀ St, cmpV .Eq St (.str (PF.S t)) (.str (PF.S "num")) = some false)) := by
  cases k with
  | o i => exact .inl ⟨i, rfl⟩
  | num => exact .inr ⟨rfl, "num", [], rfl, fun _ => tno, .inl rfl⟩
  | ref a => exact .inr ⟨rfl, "ref", _, rfl, fun _ => tro, .inr fun _ => trn⟩
  | fn a b => exact .inr ⟨rfl, "fn", _, rfl, fun _ => tfo, .inr fun _ => tfn_⟩
  | m0 x => exact .inr ⟨rfl, "made", _, rfl, fun _ => tmo, .inr fun _ => tmn⟩
  | m1 x a => exact .inr ⟨rfl, "made", _, rfl, fun _ => tmo, .inr fun _ => tmn⟩
  | m2 x a b => exact .inr ⟨rfl, "made", _, rfl, fun _ => tmo, .inr fun _ => tmn⟩
end Kn
open Kn
/-! ### dicts from open names to kinds -/
def kvF (F : Fil) : List (Key × PV) := F.map fun p => (.inl p.1, p.2.pv)
theorem getK_kvF {i : Int} : ∀ {F : Fil}, getK (kvF F) (.inl i) = (F.lookup i).map Kn.pv
  | [] => rfl
  | (j, w) :: F => by
    have ih := getK_kvF (i := i) (F := F)
    unfold getK kvF at ih ⊢
    rw [List.map_cons, List.find?_cons, List.lookup_cons]
    by_cases e : i = j
    · subst e; simp
    · have h : (i == j) = false := by simpa using e
      have h2 : decide ((Sum.inl j : Key) = .inl i) = false := by simpa using fun z => e z.symm
      rw [h, h2]
      exact ih
theorem putP_new {F : Fil} {i : Int} {v : Kn} (h : F.lookup i = none) : putP (kvF F) (.inl i) v.pv = kvF (F ++ [(i, v)]) := by
  unfold putP
  rw [if_neg]
  · simp [kvF]
  · have := lookup_none.mp h
    simp only [kvF, List.any_map, List.any_eq_true, Function.comp, decide_eq_true_eq, not_exists]
    rintro p ⟨hp, e⟩
    cases e
    exact this (List.mem_map.mpr ⟨p, hp, rfl⟩)
/-- a dict that stands for a filling -/
def DG (S : Store) (v : PV) (f : Int → Option Kn) : Prop := ∃ kvs, ditems S v = some kvs ∧ ∀ i, getK kvs (.inl i) = (f i).map Kn.pv
theorem dg_loc {S : Store} {n : Nat} {F : Fil} (h : S[n]? = some (.dic (kvF F))) : DG S (.loc n) (List.lookup · F) := ⟨kvF F, by simp [ditems, h], fun i => getK_kvF⟩
theorem ditems_ty {S : Store} {v : PV} {kvs : List (Key × PV)} (h : ditems S v = some kvs) : tyName S v = some "dict" := by
  cases v with
  | dv ks xs => rfl
  | loc n =>
    simp only [ditems] at h
    simp only [tyName]
    split at h <;> first | (rename_i e; rw [e]) | cases h
  | _ => cases h
theorem DG.is {S : Store} {v : PV} {f : Int → Option Kn} (h : DG S v f) {b : Mth} (hb : mthT b = "dict") : mthIs b S v = true := by
  obtain ⟨kvs, h, _⟩ := h
  unfold mthIs
  rw [ditems_ty h, hb]
  rfl
theorem DG.get2 {S : Store} {v d : PV} {f : Int → Option Kn} {i : Int} (h : DG S v f) : mthV .get2 S v [.int i, d] = .ok (((f i).map Kn.pv).getD d) S := by
  obtain ⟨kvs, h, g⟩ := h
  have : mthV .get2 S v [.int i, d] = (match ditems S v, keyOf (.int i) with
    | some kvs, some k => .ok ((getK kvs k).getD d) S
    | _, _ => .bad) := by cases v <;> rfl
  rw [this, h]
  show R.ok ((getK kvs (.inl i)).getD d) S = _
  rw [g]
theorem fm_some {α β : Type} {g : α → β} : ∀ xs : List α, xs.filterMap (fun c => some (g c)) = xs.map g
  | [] => rfl
  | x :: xs => by rw [List.filterMap_cons, List.map_cons, fm_some xs]
theorem numL_keys (L : List Int) : (numL L).map (·.1) = L := by
  have : ∀ (L : List Int) (n : Nat), ((L.zipIdx n).map fun p => ((p.1 : Int), o p.2)).map (·.1) = L := by
    intro L
    induction L with
    | nil => intro n; rfl
    | cons x L ih => intro n; rw [List.zipIdx_cons, List.map_cons, List.map_cons, ih]
  exact this L 0
def FWith : Fn := ⟨2, 2, [(.ite (.cmp .Eq (.ix (.v 0) (.c (.int 0))) (.c (.str (S "made")))) [(.ret (.tup [(.c (.str (S "made"))), (.ix (.v 0) (.c (.int 1))), (.blt .tuple1 [(.v 1)])]))] []),
    (.ret (.bin .Add (.sl (.v 0) (.c .non) (.num (.c (.int 1)))) (.blt .tuple1 [(.v 1)])))], false⟩
def FFilled (iw ix ifl : Nat) : Fn := ⟨4, 2, [(.ite (.cmp .Eq (.ix (.v 0) (.c (.int 0))) (.c (.str (S "open")))) [(.ret (.mth .get2 (.v 1) [(.ix (.v 0) (.c (.int 1))), (.v 0)]))] []),
    (.ite (.cmp .Eq (.ix (.v 0) (.c (.int 0))) (.c (.str (S "num")))) [(.ret (.v 0))] []),
    (.ret (.fn ix [(.v 0), (.comp false (.fn ifl [(.v 3), (.v 1)]) [2, 3] (.n 3) .seq [(.fn iw [(.v 0)])] [])]))], false⟩
def FNumb (io ifl : Nat) : Fn := ⟨4, 1, [(.set (.n 1) (.dic true [])),
    (.forS (.t [2, 3]) .enum [(.fn io [(.v 0)])] [(.setix (.v 1) (.v 3) (.tup [(.c (.str (S "open"))), (.v 2)]))]),
    (.ret (.fn ifl [(.v 0), (.v 1)]))], false⟩
theorem tup_add {S : Store} {xs ys : List PV} (h : xs.length + ys.length ≤ sizeLine) : binV .Add S (.tup xs) (.tup ys) = some (.tup (xs ++ ys)) := if_pos h
theorem sl_ok {n : Nat} (h : n ≤ 1000000) : n ≤ sizeLine := by rw [sizeLine_eq]; omega
theorem enum_tup {S : Store} {xs : List PV} : iterV .enum S [.tup xs] = some (enumP xs, []) := rfl
theorem enumP_at {xs : List PV} {i : Nat} {x : PV} (h : (enumP xs)[i]? = some x) : ∃ y, xs[i]? = some y ∧ x = .tup [.int (i : Int), y] := by
  unfold enumP at h
  rw [List.getElem?_mapIdx] at h
  cases e : xs[i]? with
  | none => rw [e] at h; cases h
  | some y => rw [e] at h; exact ⟨y, rfl, (Option.some.inj h).symm⟩
theorem enumP_len {xs : List PV} : (enumP xs).length = xs.length := by unfold enumP; rw [List.length_mapIdx]
theorem dic_set {S : Store} {n : Nat} {F : Fil} {i : Int} {v : Kn} (h : S[n]? = some (.dic (kvF F))) (hl : F.lookup i = none) (h1 : F.length < 1000000) : setixV S (.loc n) (.int i) v.pv = some (S.set n (.dic (kvF (F ++ [(i, v)])))) := by
  simp only [setixV, h, keyOf]
  rw [if_pos (by simp only [kvF, List.length_map]; rw [sizeLine_eq]; omega), putP_new hl]
section
local macro_rules | `(tactic| trivial) => `(tactic| simp only [startE, exs, ex, ev, evs, okS_then, okS_toS, okR_bind, okS_nx, okS_rt, okR_ok, okS_ite, okR_ite, List.length_cons, List.length_nil, List.map_cons, List.map_nil, List.replicate, List.cons_append, List.nil_append, List.getElem?_cons_zero, List.getElem?_cons_succ, put_n, put2, put3, List.set_cons_zero, List.set_cons_succ, okR_some, o_add, o_sub, o_mul, o_div, o_mod, o_pow, c_lt, c_le, c_gt, c_ge, c_eq, c_ne, PF.t_bl, map_some', decide_eq_true_eq, R.bind_ok, R.ofO_some, ifs0, ifs1, compR_f, wipeE, mk_f, mk_t, sz0, sz1, sz2, sz3, sz4, sz5, sz6, sz7, sz8, if_true, dic0, dic0v, dic1, len_str, len_fz, len_lv, len_tup, tup_lv, list_tup, max_i, min_i, okR_only, ix_tup, atI0, atI1, atI2, sl1, bound, Bool.false_eq_true, if_false, iter_tup, iter_lv, Bool.not_true, Bool.not_false, tmm, tnm, tom, tfm, trm, tnf, tof, tff, trf, tnr, tor, trr, tno, too, tfo, tro, tmo, tnn, tfn_, trn, tmn, ton, list1m_tup, sl01])
variable {T : List Fn} {iw ix io ifl inu : Nat}
theorem within_k (hw : T[iw]? = some FWithin) (d : Nat) (S : Store) (k : Kn) : okR (call T (d + 1) iw [k.pv] S) fun u S' => S' = S ∧ u = .tup (k.kids.map Kn.pv) := by
  refine okR_call (F := FWithin) hw rfl ?_
  simp only [FWithin]
  cases k <;> simp only [Kn.pv] <;> trivial <;> exact done_len rfl ⟨rfl, rfl⟩
theorem with_k (hx : T[ix]? = some FWith) (d : Nat) (S : Store) (k : Kn) (hk : k.isO = false) (cs : List PV) (hc : cs.length ≤ 2) : okR (call T (d + 1) ix [k.pv, .lv cs] S) fun u S' => S' = S ∧ u = wv k cs := by
  have e1 : ∀ t : PV, binV .Add S (.tup [t]) (.tup cs) = some (.tup ([t] ++ cs)) := fun t => tup_add (sl_ok (by simp only [List.length_cons, List.length_nil]; omega))
  refine okR_call (F := FWith) hx rfl ?_
  simp only [FWith]
  cases k <;> simp only [Kn.pv] <;> first | (simp [isO] at hk; done) | (trivial; (try rw [e1]); (try trivial); exact done_len rfl ⟨rfl, rfl⟩)
theorem opens_k (hw : T[iw]? = some FWithin) (hp : T[io]? = some (FOpens iw io)) {m : Nat} (hm : m ≤ 1000) : ∀ (n d : Nat) (S : Store) (k : Kn), k.dep ≤ n → k.In m → okR (call T (d + n + 1) io [k.pv] S) fun u S' => S' = S ∧ u = .tup (k.opens.map PV.int)
  | 0, d, S, k, hn, _ => absurd hn (by have := k.dep_pos; omega)
  | n + 1, d, S, k, hn, hI => by
    refine okR_call (F := FOpens iw io) hp rfl ?_
    simp only [FOpens]
    rcases k.split with ⟨i, rfl⟩ | ⟨ho, t, r, hv, hne, _⟩
    · simp only [Kn.pv]
      trivial
      exact done_len rfl ⟨rfl, rfl⟩
    · trivial
      rw [hv]
      trivial
      rw [hne]
      try trivial
      rw [← hv]
      refine okR_mono (within_k hw (d + n) _ k) fun u S1 ⟨hS, hu⟩ => ?_
      subst hS hu
      try trivial
      rw [opens_kids ho]
      have hb : ∀ ks : List Kn, (∀ c ∈ ks, c ∈ k.kids) → (opensL ks).length ≤ m := fun ks hks => nodup_len m _ (opensL_nodup ks) fun i hi => by
        obtain ⟨c, hc, h⟩ := opensL_mem hi
        exact hI i (mem_kids (hks c hc) i h)
      refine forL_ok (fun (i : Nat) (e : Env) (S' : Store) => S' = S ++ [.lst ((opensL (k.kids.take i)).map PV.int)] ∧ ∃ o2 o3 o4, e = [some k.pv, some (.loc S.length), o2, o3, o4])
        ⟨rfl, _, _, _, rfl⟩ (fun _ _ _ _ _ => rfl) ?_ ?_
      · rintro i x e S' hx ⟨rfl, o2, o3, o4, rfl⟩
        rw [List.getElem?_map] at hx
        cases hc : k.kids[i]? with
        | none => rw [hc] at hx; cases hx
        | some c =>
          rw [hc] at hx
          cases hx
          have hcm : c ∈ k.kids := List.mem_of_getElem? hc
          try trivial
          rw [show call T (d + (n + 1)) io [c.pv] _ = _ from okR_det (opens_k hw hp hm n d _ c (by have := kids_dep hcm; omega) (hI.kids hcm))]
          try trivial
          rw [compL_map PV.int (fun y => if ¬ y ∈ opensL (k.kids.take i) then some (.int y) else none)]
          · try trivial
            rw [if_pos (by simp only [mthIs, tyName, get_last]; rfl)]
            rw [filt_map]
            have ht : opensL (k.kids.take (i + 1)) = uni (opensL (k.kids.take i)) c.opens := by
              rw [List.take_add_one, hc]
              exact opensL_snoc _ _
            have h1 := hb (k.kids.take (i + 1)) fun c hc => List.mem_of_mem_take hc
            rw [ht] at h1 ⊢
            unfold uni at h1 ⊢
            rw [ext_l get_last (by
              rw [List.length_map, List.length_map, ← List.length_append, sizeLine_eq]
              omega)]
            try trivial
            rw [set_last, ← List.map_append]
            exact ⟨rfl, _, _, _, rfl⟩
          · intro y hy
            try trivial
            rw [notin_l get_last]
            try trivial
            by_cases h : y ∈ opensL (k.kids.take i)
            · simp [h]
            · simp [h]
      · rintro e S' ⟨rfl, o2, o3, o4, rfl⟩
        rw [List.length_map, List.take_length]
        try trivial
        rw [tup_loc get_last]
        try trivial
        refine done_app ?_ ⟨rfl, rfl⟩
        rw [PV.und]
        exact und_ints _ _
theorem filled_k (hw : T[iw]? = some FWithin) (hx : T[ix]? = some FWith) (hf : T[ifl]? = some (FFilled iw ix ifl)) {S : Store} {v : PV} {f : Int → Option Kn} (hd : DG S v f) : ∀ (n d : Nat) (k : Kn), k.dep ≤ n → okR (call T (d + n + 1) ifl [k.pv, v] S) fun u S' => S' = S ∧ u = (k.fill f).pv
  | 0, d, k, hn => absurd hn (by have := k.dep_pos; omega)
  | n + 1, d, k, hn => by
    refine okR_call (F := FFilled iw ix ifl) hf rfl ?_
    simp only [FFilled]
    rcases k.split with ⟨i, rfl⟩ | ⟨ho, t, r, hv, hne, hnum⟩
    · simp only [Kn.pv]
      trivial
      rw [if_pos (hd.is rfl), hd.get2]
      try trivial
      refine done_len rfl ⟨rfl, ?_⟩
      rw [Kn.fill]
      cases f i <;> rfl
    · rcases hnum with rfl | hnum
      · simp only [Kn.pv]
        trivial
        exact done_len rfl ⟨rfl, rfl⟩
      · trivial
        rw [hv]
        trivial
        rw [hne]
        try trivial
        rw [hnum]
        try trivial
        rw [← hv]
        refine okR_mono (within_k hw (d + n) _ k) fun u S1 ⟨hS, hu⟩ => ?_
        subst hS hu
        try trivial
        rw [compL_map Kn.pv (fun c => some (c.fill f).pv)]
        · try trivial
          rw [fm_some]
          refine okR_mono (with_k hx (d + n) S1 k ho _ (by rw [List.length_map]; exact k.kids_len)) fun u S2 ⟨hS, hu⟩ => ?_
          subst hS hu
          exact done_len rfl ⟨rfl, (fill_wv ho).symm⟩
        · intro c hc
          try trivial
          rw [show call T (d + (n + 1)) ifl [c.pv, v] _ = _ from okR_det (filled_k hw hx hf hd n d c (by have := kids_dep hc; omega))]
          rfl
theorem numbered_k (hw : T[iw]? = some FWithin) (hx : T[ix]? = some FWith) (hp : T[io]? = some (FOpens iw io)) (hf : T[ifl]? = some (FFilled iw ix ifl)) (hu : T[inu]? = some (FNumb io ifl)) {m : Nat} (hm : m ≤ 1000) (n d : Nat) (S : Store) (k : Kn) (hn : k.dep ≤ n) (hI : k.In m) :
    okR (call T (d + n + 2) inu [k.pv] S) fun u S' => S' = S ∧ u = k.numd.pv := by
  refine okR_call (F := FNumb io ifl) hu rfl ?_
  simp only [FNumb]
  trivial
  rw [okR_det (opens_k hw hp hm n d _ k hn hI)]
  try trivial
  rw [enum_tup]
  try trivial
  refine forL_ok (fun (i : Nat) (e : Env) (S' : Store) => S' = S ++ [.dic (kvF (numL (k.opens.take i)))] ∧ ∃ o2 o3, e = [some k.pv, some (.loc S.length), o2, o3])
    ⟨rfl, _, _, rfl⟩ (fun _ _ _ _ _ => rfl) ?_ ?_
  · rintro i x e S' hxx ⟨rfl, o2, o3, rfl⟩
    obtain ⟨y, hy, rfl⟩ := enumP_at hxx
    rw [List.getElem?_map] at hy
    cases hz : k.opens[i]? with
    | none => rw [hz] at hy; cases hy
    | some z =>
      rw [hz] at hy
      cases hy
      try trivial
      have hl : i < k.opens.length := (List.getElem?_eq_some_iff.mp hz).1
      have e0 : numL (k.opens.take (i + 1)) = numL (k.opens.take i) ++ [(z, o (i : Int))] := by
        unfold numL
        rw [List.take_add_one, hz]
        simp only [Option.toList_some, List.zipIdx_append, List.map_append, List.length_take]
        rw [Nat.min_eq_left (by omega)]
        simp
      have e1 : (numL (k.opens.take i)).map (·.1) = k.opens.take i := numL_keys _
      have e2 : List.lookup z (numL (k.opens.take i)) = none := lookup_none.mpr (by
        rw [e1]
        intro h
        obtain ⟨j, hj, e⟩ := List.mem_take_iff_getElem.mp h
        have hk : k.opens[i]'hl = z := (List.getElem?_eq_some_iff.mp hz).2
        have := (opens_nodup k)
        rw [List.nodup_iff_pairwise_ne] at this
        exact List.pairwise_iff_getElem.mp this j i _ hl (by omega) (by rw [e, hk]))
      have e3 := dic_set (v := o (i : Int)) (get_last (S := S)) e2 (by have := congrArg List.length e1; rw [List.length_map, List.length_take] at this; have := hI.len; omega)
      rw [show (PV.tup [.str (PF.S "open"), .int (i : Int)]) = (o (i : Int)).pv from rfl, e3]
      try trivial
      rw [set_last, ← e0]
      exact ⟨rfl, _, _, rfl⟩
  · rintro e S' ⟨rfl, o2, o3, rfl⟩
    rw [enumP_len, List.length_map, List.take_length]
    try trivial
    refine okR_mono (filled_k hw hx hf (dg_loc (get_last (S := S))) n d k hn) fun u S2 ⟨hS, hu⟩ => ?_
    subst hS hu
    try trivial
    exact done_app (Kn.und _ _) ⟨rfl, rfl⟩
/-! the same at any depth that is enough -/
theorem at_d {P : Nat → Prop} {c d : Nat} (h : c ≤ d) (k : ∀ e, P (e + c)) : P d := by
  have := k (d - c)
  rwa [Nat.sub_add_cancel h] at this
theorem within_d (hw : T[iw]? = some FWithin) {d : Nat} (h : 1 ≤ d) (S : Store) (k : Kn) : okR (call T d iw [k.pv] S) fun u S' => S' = S ∧ u = .tup (k.kids.map Kn.pv) :=
  at_d (P := fun d => okR (call T d iw [k.pv] S) fun u S' => S' = S ∧ u = .tup (k.kids.map Kn.pv)) h fun e => within_k hw e S k
theorem opens_d (hw : T[iw]? = some FWithin) (hp : T[io]? = some (FOpens iw io)) {m : Nat} (hm : m ≤ 1000) {d : Nat} (S : Store) (k : Kn) (h : k.dep + 1 ≤ d) (hI : k.In m) : okR (call T d io [k.pv] S) fun u S' => S' = S ∧ u = .tup (k.opens.map PV.int) :=
  at_d (P := fun d => okR (call T d io [k.pv] S) fun u S' => S' = S ∧ u = .tup (k.opens.map PV.int)) h fun e => opens_k hw hp hm k.dep e S k (Nat.le_refl _) hI
theorem filled_d (hw : T[iw]? = some FWithin) (hx : T[ix]? = some FWith) (hf : T[ifl]? = some (FFilled iw ix ifl)) {S : Store} {v : PV} {f : Int → Option Kn} (hd : DG S v f) {d : Nat} (k : Kn) (h : k.dep + 1 ≤ d) : okR (call T d ifl [k.pv, v] S) fun u S' => S' = S ∧ u = (k.fill f).pv :=
  at_d (P := fun d => okR (call T d ifl [k.pv, v] S) fun u S' => S' = S ∧ u = (k.fill f).pv) h fun e => filled_k hw hx hf hd k.dep e k (Nat.le_refl _)
theorem numbered_d (hw : T[iw]? = some FWithin) (hx : T[ix]? = some FWith) (hp : T[io]? = some (FOpens iw io)) (hf : T[ifl]? = some (FFilled iw ix ifl)) (hu : T[inu]? = some (FNumb io ifl)) {m : Nat} (hm : m ≤ 1000) {d : Nat} (S : Store) (k : Kn) (h : k.dep + 2 ≤ d) (hI : k.In m) :
    okR (call T d inu [k.pv] S) fun u S' => S' = S ∧ u = k.numd.pv :=
  at_d (P := fun d => okR (call T d inu [k.pv] S) fun u S' => S' = S ∧ u = k.numd.pv) h fun e => numbered_k hw hx hp hf hu hm k.dep e S k (Nat.le_refl _) hI
end
end L2.PF

set_option Elab.async false
set_option linter.all false
set_option maxRecDepth 100000
set_option maxHeartbeats 4000000
namespace L2.PF.KB
open PySem PySem.Spec PyProof.Rows
def topS (i : Nat) : Stmt := PySem.Challenge.pw_kindbooks_k13_whole_kinds_matched.main.body.getD i (.Pass ⟨0, 0, 0, 0⟩)
def tb : Tab := ⟨[((S "within"), 0, 1), ((S "opens_in"), 1, 1), ((S "with_within"), 2, 2), ((S "filled"), 3, 2), ((S "heads_alike"), 4, 2), ((S "matches"), 5, 3), ((S "matched"), 6, 2), ((S "numbered"), 7, 1), ((S "_law_cell"), 8, 2), ((S "_law_mixed"), 9, 2), ((S "_law_box"), 10, 2), ((S "_law_take"), 11, 2), ((S "_law_word"), 12, 1), ((S "_law_name"), 13, 1), ((S "_law_kind"), 14, 4), ((S "_law_deep"), 15, 3), ((S "_law_within"), 16, 1), ((S "_law_with"), 17, 2), ((S "_law_spoilt"), 18, 3), ((S "_law_fits"), 19, 3), ((S "_law_right"), 20, 2), ((S "law"), 21, 1)],
  [],
  [(S "tuple"), (S "len"), (S "zip"), (S "enumerate"), (S "range"), (S "list"), (S "isinstance"), (S "dict"), (S "sorted"), (S "max"), (S "min")],
  [⟨11, 12, 11, 14⟩, ⟨41, 12, 41, 14⟩, ⟨46, 14, 46, 16⟩, ⟨62, 15, 62, 37⟩, ⟨63, 11, 63, 46⟩, ⟨98, 15, 98, 38⟩, ⟨100, 15, 100, 39⟩, ⟨101, 11, 101, 13⟩, ⟨124, 15, 124, 17⟩, ⟨142, 23, 142, 25⟩]⟩
/-- within: [kind] -/
def f0 : Fn := ⟨1, 1, [(.ite (.cmp .Eq (.ix (.v 0) (.c (.int 0))) (.c (.str (S "made")))) [(.ret (.ix (.v 0) (.c (.int 2))))] []),
    (.ite (.or (.cmp .Eq (.ix (.v 0) (.c (.int 0))) (.c (.str (S "fn")))) (.cmp .Eq (.ix (.v 0) (.c (.int 0))) (.c (.str (S "ref"))))) [(.ret (.sl (.v 0) (.num (.c (.int 1))) (.c .non)))] []),
    (.ret (.tup []))], false⟩
/-- opens_in: [kind, found, one, .0, name] -/
def f1 : Fn := ⟨5, 1, [(.ite (.cmp .Eq (.ix (.v 0) (.c (.int 0))) (.c (.str (S "open")))) [(.ret (.tup [(.ix (.v 0) (.c (.int 1)))]))] []),
    (.set (.n 1) (.lst true [])),
    (.forS (.n 2) .seq [(.fn 0 [(.v 0)])] [(.ex (.mth .extend (.v 1) [(.comp false (.v 4) [3, 4] (.n 4) .seq [(.fn 1 [(.v 2)])] [(.cmp .NotIn (.v 4) (.v 1))])]))]),
    (.ret (.blt .tuple1 [(.v 1)]))], false⟩
/-- with_within: [kind, kinds] -/
def f2 : Fn := ⟨2, 2, [(.ite (.cmp .Eq (.ix (.v 0) (.c (.int 0))) (.c (.str (S "made")))) [(.ret (.tup [(.c (.str (S "made"))), (.ix (.v 0) (.c (.int 1))), (.blt .tuple1 [(.v 1)])]))] []),
    (.ret (.bin .Add (.sl (.v 0) (.c .non) (.num (.c (.int 1)))) (.blt .tuple1 [(.v 1)])))], false⟩
/-- filled: [kind, filling, .0, one] -/
def f3 : Fn := ⟨4, 2, [(.ite (.cmp .Eq (.ix (.v 0) (.c (.int 0))) (.c (.str (S "open")))) [(.ret (.mth .get2 (.v 1) [(.ix (.v 0) (.c (.int 1))), (.v 0)]))] []),
    (.ite (.cmp .Eq (.ix (.v 0) (.c (.int 0))) (.c (.str (S "num")))) [(.ret (.v 0))] []),
    (.ret (.fn 2 [(.v 0), (.comp false (.fn 3 [(.v 3), (.v 1)]) [2, 3] (.n 3) .seq [(.fn 0 [(.v 0)])] [])]))], false⟩
/-- heads_alike: [one, other] -/
def f4 : Fn := ⟨2, 2, [(.ite (.or (.cmp .NotEq (.ix (.v 0) (.c (.int 0))) (.ix (.v 1) (.c (.int 0)))) (.and (.cmp .Eq (.ix (.v 0) (.c (.int 0))) (.c (.str (S "made")))) (.cmp .NotEq (.ix (.v 0) (.c (.int 1))) (.ix (.v 1) (.c (.int 1)))))) [(.ret (.c (.bl false)))] []),
    (.ret (.cmp .Eq (.blt .len [(.fn 0 [(.v 0)])]) (.blt .len [(.fn 0 [(.v 1)])])))], false⟩
/-- matches: [kind, other, found, one, there] -/
def f5 : Fn := ⟨5, 3, [(.ite (.cmp .Eq (.ix (.v 0) (.c (.int 0))) (.c (.str (S "open")))) [(.ite (.cmp .NotIn (.ix (.v 0) (.c (.int 1))) (.v 2)) [(.setix (.v 2) (.ix (.v 0) (.c (.int 1))) (.v 1))] []),
    (.ret (.cmp .Eq (.ix (.v 2) (.ix (.v 0) (.c (.int 1)))) (.v 1)))] []),
    (.ite (.not (.fn 4 [(.v 0), (.v 1)])) [(.ret (.c (.bl false)))] []),
    (.forS (.t [3, 4]) .zip [(.fn 0 [(.v 0)]), (.fn 0 [(.v 1)])] [(.ite (.not (.fn 5 [(.v 3), (.v 4), (.v 2)])) [(.ret (.c (.bl false)))] [])]),
    (.ret (.c (.bl true)))], false⟩
/-- matched: [kind, other, found] -/
def f6 : Fn := ⟨3, 2, [(.set (.n 2) (.dic true [])),
    (.ite (.fn 5 [(.v 0), (.v 1), (.v 2)]) [(.ret (.v 2))] []),
    (.ret (.c .non))], false⟩
/-- numbered: [kind, filling, number, name] -/
def f7 : Fn := ⟨4, 1, [(.set (.n 1) (.dic true [])),
    (.forS (.t [2, 3]) .enum [(.fn 1 [(.v 0)])] [(.setix (.v 1) (.v 3) (.tup [(.c (.str (S "open"))), (.v 2)]))]),
    (.ret (.fn 3 [(.v 0), (.v 1)]))], false⟩
/-- _law_cell: [_law_script, _law_k] -/
def f8 : Fn := ⟨2, 2, [(.ite (.cmp .Lt (.v 1) (.blt .len [(.v 0)])) [(.ret (.ix (.v 0) (.v 1)))] []),
    (.ret (.bin .Add (.bin .Mult (.c (.int 7919)) (.v 1)) (.c (.int 13))))], false⟩
/-- _law_mixed: [_law_cell_here, _law_k, _law_number] -/
def f9 : Fn := ⟨3, 2, [(.set (.n 2) (.bin .Mod (.bin .Add (.bin .Add (.v 0) (.bin .Mult (.c (.int 7919)) (.v 1))) (.c (.int 12345))) (.c (.int 2147483629)))),
    (.set (.n 2) (.bin .Mod (.bin .Add (.bin .Mult (.v 2) (.v 2)) (.bin .Mult (.c (.int 48271)) (.v 1))) (.c (.int 2147483629)))),
    (.ret (.bin .Mod (.bin .Mult (.v 2) (.v 2)) (.c (.int 2147483587))))], false⟩
/-- _law_box: [_law_script, _law_k, _law_cell_here] -/
def f10 : Fn := ⟨3, 2, [(.set (.n 2) (.fn 8 [(.v 0), (.v 1)])),
    (.ite (.cmp .GtE (.v 2) (.bin .Pow (.c (.int 10)) (.c (.int 18)))) [(.ret (.lst true [(.v 2), (.c (.int 0)), (.c (.int 0))]))] []),
    (.ret (.lst true [(.c (.int 0)), (.bin .Mod (.v 2) (.c (.int 2147483647))), (.c (.int 0))]))], false⟩
/-- _law_take: [_law_box_here, _law_many, _law_digit] -/
def f11 : Fn := ⟨3, 2, [(.ite (.cmp .Gt (.ix (.v 0) (.c (.int 0))) (.c (.int 0))) [(.set (.n 2) (.bin .Mod (.ix (.v 0) (.c (.int 0))) (.v 1))),
    (.setix (.v 0) (.c (.int 0)) (.bin .FloorDiv (.ix (.v 0) (.c (.int 0))) (.v 1))),
    (.ret (.v 2))] []),
    (.setix (.v 0) (.c (.int 2)) (.bin .Add (.ix (.v 0) (.c (.int 2))) (.c (.int 1)))),
    (.ret (.bin .Mod (.fn 9 [(.ix (.v 0) (.c (.int 1))), (.ix (.v 0) (.c (.int 2)))]) (.v 1)))], false⟩
/-- _law_word: [_law_box_here, .0, _law_k] -/
def f12 : Fn := ⟨3, 1, [(.ret (.mth .join (.c (.str (S ""))) [(.comp false (.ix (.c (.str (S "abcdefghijklmnopqrstuvwxyz"))) (.fn 11 [(.v 0), (.c (.int 26))])) [1, 2] (.n 2) .rng1 [(.bin .Add (.c (.int 1)) (.fn 11 [(.v 0), (.c (.int 6))]))] [])]))], false⟩
/-- _law_name: [_law_box_here] -/
def f13 : Fn := ⟨1, 1, [(.ite (.cmp .Eq (.fn 11 [(.v 0), (.c (.int 3))]) (.c (.int 0))) [(.ret (.bin .Add (.bin .Add (.fn 12 [(.v 0)]) (.c (.str (S ".")))) (.fn 12 [(.v 0)])))] []),
    (.ret (.fn 12 [(.v 0)]))], false⟩
/-- _law_kind: [_law_box_here, _law_names, _law_most, _law_deep_here, _law_way, _law_name_here, .0, _law_k] -/
def f14 : Fn := ⟨8, 4, [(.set (.n 4) (.fn 11 [(.v 0), (.c (.int 8))])),
    (.ite (.or (.cmp .Lt (.v 3) (.c (.int 1))) (.cmp .Lt (.v 4) (.c (.int 2)))) [(.ret (.ix (.lst false [(.tup [(.c (.str (S "num")))]), (.tup [(.c (.str (S "open"))), (.fn 11 [(.v 0), (.v 2)])])]) (.bin .Mod (.v 4) (.c (.int 2)))))] []),
    (.ite (.cmp .Eq (.v 4) (.c (.int 2))) [(.ret (.tup [(.c (.str (S "open"))), (.fn 11 [(.v 0), (.v 2)])]))] []),
    (.ite (.cmp .Lt (.v 4) (.c (.int 5))) [(.ret (.tup [(.c (.str (S "fn"))), (.fn 14 [(.v 0), (.v 1), (.v 2), (.bin .Sub (.v 3) (.c (.int 1)))]), (.fn 14 [(.v 0), (.v 1), (.v 2), (.bin .Sub (.v 3) (.c (.int 1)))])]))] []),
    (.ite (.cmp .Eq (.v 4) (.c (.int 5))) [(.ret (.tup [(.c (.str (S "ref"))), (.fn 14 [(.v 0), (.v 1), (.v 2), (.bin .Sub (.v 3) (.c (.int 1)))])]))] []),
    (.set (.n 5) (.ix (.v 1) (.fn 11 [(.v 0), (.blt .len [(.v 1)])]))),
    (.ret (.tup [(.c (.str (S "made"))), (.v 5), (.blt .tuple1 [(.comp false (.fn 14 [(.v 0), (.v 1), (.v 2), (.bin .Sub (.v 3) (.c (.int 1)))]) [6, 7] (.n 7) .rng1 [(.fn 11 [(.v 0), (.c (.int 3))])] [])])]))], false⟩
/-- _law_deep: [_law_box_here, _law_names, _law_most, _law_kind_here, _law_beside, _law_k, _law_way] -/
def f15 : Fn := ⟨7, 3, [(.set (.n 3) (.tup [(.c (.str (S "open"))), (.fn 11 [(.v 0), (.v 2)])])),
    (.set (.n 4) (.tup [(.c (.str (S "fn"))), (.tup [(.c (.str (S "num")))]), (.tup [(.c (.str (S "num")))])])),
    (.forS (.n 5) .rng1 [(.c (.int 42))] [(.set (.n 6) (.fn 11 [(.v 0), (.c (.int 4))])),
    (.set (.n 3) (.ix (.lst false [(.tup [(.c (.str (S "fn"))), (.v 3), (.v 4)]), (.tup [(.c (.str (S "fn"))), (.v 4), (.v 3)]), (.tup [(.c (.str (S "ref"))), (.v 3)]), (.tup [(.c (.str (S "made"))), (.ix (.v 1) (.c (.int 0))), (.tup [(.v 4), (.v 3)])])]) (.v 6)))]),
    (.ret (.v 3))], false⟩
/-- _law_within: [_law_kind_here] -/
def f16 : Fn := ⟨1, 1, [(.ite (.cmp .Eq (.ix (.v 0) (.c (.int 0))) (.c (.str (S "made")))) [(.ret (.blt .list1m [(.ix (.v 0) (.c (.int 2)))]))] []),
    (.ite (.cmp .In (.ix (.v 0) (.c (.int 0))) (.tup [(.c (.str (S "fn"))), (.c (.str (S "ref")))])) [(.ret (.blt .list1m [(.sl (.v 0) (.num (.c (.int 1))) (.c .non))]))] []),
    (.ret (.lst true []))], false⟩
/-- _law_with: [_law_kind_here, _law_kinds] -/
def f17 : Fn := ⟨2, 2, [(.ite (.cmp .Eq (.ix (.v 0) (.c (.int 0))) (.c (.str (S "made")))) [(.ret (.tup [(.c (.str (S "made"))), (.ix (.v 0) (.c (.int 1))), (.blt .tuple1 [(.v 1)])]))] []),
    (.ret (.bin .Add (.sl (.v 0) (.c .non) (.num (.c (.int 1)))) (.blt .tuple1 [(.v 1)])))], false⟩
/-- _law_spoilt: [_law_box_here, _law_kind_here, _law_names, _law_kinds, _law_at] -/
def f18 : Fn := ⟨5, 3, [(.set (.n 3) (.fn 16 [(.v 1)])),
    (.ite (.or (.cmp .Eq (.v 3) (.lst false [])) (.cmp .Eq (.fn 11 [(.v 0), (.c (.int 3))]) (.c (.int 0)))) [(.ret (.fn 14 [(.v 0), (.v 2), (.c (.int 5)), (.c (.int 1))]))] []),
    (.set (.n 4) (.fn 11 [(.v 0), (.blt .len [(.v 3)])])),
    (.setix (.v 3) (.v 4) (.fn 18 [(.v 0), (.ix (.v 3) (.v 4)), (.v 2)])),
    (.ret (.fn 17 [(.v 1), (.v 3)]))], false⟩
/-- _law_fits: [_law_kind_here, _law_other, _law_found, _law_ahead, _law_behind, .0, _law_one, _law_there] -/
def f19 : Fn := ⟨8, 3, [(.ite (.cmp .Eq (.ix (.v 0) (.c (.int 0))) (.c (.str (S "open")))) [(.ret (.cmp .Eq (.mth .setdef (.v 2) [(.ix (.v 0) (.c (.int 1))), (.v 1)]) (.v 1)))] []),
    (.ite (.or (.cmp .NotEq (.ix (.v 0) (.c (.int 0))) (.ix (.v 1) (.c (.int 0)))) (.and (.cmp .Eq (.ix (.v 0) (.c (.int 0))) (.c (.str (S "made")))) (.cmp .NotEq (.ix (.v 0) (.c (.int 1))) (.ix (.v 1) (.c (.int 1)))))) [(.ret (.c (.bl false)))] []),
    (.set (.n 3) (.fn 16 [(.v 0)])),
    (.set (.n 4) (.fn 16 [(.v 1)])),
    (.ite (.cmp .NotEq (.blt .len [(.v 3)]) (.blt .len [(.v 4)])) [(.ret (.c (.bl false)))] []),
    (.ret (.cmp .NotIn (.c (.bl false)) (.comp false (.fn 19 [(.v 6), (.v 7), (.v 2)]) [5, 6, 7] (.t [6, 7]) .zip [(.v 3), (.v 4)] [])))], false⟩
/-- _law_right: [_law_kind_here, _law_other, _law_due, _law_fits_here, _law_found] -/
def f20 : Fn := ⟨5, 2, [(.set (.n 2) (.dic true [])),
    (.set (.n 3) (.fn 19 [(.v 0), (.v 1), (.v 2)])),
    (.set (.n 4) (.fn 6 [(.v 0), (.v 1)])),
    (.ite (.not (.v 3)) [(.ret (.cmp .Is (.v 4) (.c .non)))] []),
    (.ite (.or (.not (.isi (.v 4) ["dict"])) (.or (.cmp .NotEq (.v 4) (.v 2)) (.cmp .NotEq (.fn 3 [(.v 0), (.v 4)]) (.v 1)))) [(.ret (.c (.bl false)))] []),
    (.ite (.cmp .NotEq (.blt .sorted1 [(.v 4)]) (.blt .sorted1 [(.fn 1 [(.v 0)])])) [(.ret (.c (.bl false)))] []),
    (.ex (.mth .clearD (.v 4) [])),
    (.ret (.cmp .Eq (.fn 6 [(.v 0), (.v 1)]) (.v 2)))], false⟩
/-- law: [_law_script, _law_k, _law_box_here, _law_names, _law_kind_here, _law_filling, _law_name_here, _law_other, _law_spoilt_here, _law_any_one, _law_one, _law_both, .0, _law_j] -/
def f21 : Fn := ⟨14, 1, [(.forS (.n 1) .rng1 [(.blt .max2 [(.c (.int 3)), (.blt .min2 [(.c (.int 20)), (.blt .len [(.v 0)])])])] [(.set (.n 2) (.fn 10 [(.v 0), (.v 1)])),
    (.set (.n 3) (.comp false (.fn 13 [(.v 2)]) [12, 13] (.n 13) .rng1 [(.c (.int 3))] [])),
    (.set (.n 4) (.fn 14 [(.v 2), (.v 3), (.c (.int 5)), (.c (.int 4))])),
    (.ite (.cmp .Eq (.fn 11 [(.v 2), (.c (.int 8))]) (.c (.int 0))) [(.set (.n 4) (.fn 15 [(.v 2), (.v 3), (.c (.int 4))]))] []),
    (.set (.n 5) (.dic true [])),
    (.forS (.n 6) .seq [(.fn 1 [(.v 4)])] [(.setix (.v 5) (.v 6) (.fn 14 [(.v 2), (.v 3), (.c (.int 5)), (.c (.int 2))]))]),
    (.set (.n 7) (.fn 3 [(.v 4), (.v 5)])),
    (.set (.n 8) (.fn 18 [(.v 2), (.v 7), (.v 3)])),
    (.set (.n 9) (.fn 14 [(.v 2), (.v 3), (.c (.int 5)), (.c (.int 4))])),
    (.ite (.or (.cmp .NotEq (.fn 6 [(.v 4), (.v 7)]) (.v 5)) (.or (.not (.fn 20 [(.v 4), (.v 8)])) (.not (.fn 20 [(.v 8), (.v 4)])))) [(.ret (.c (.bl false)))] []),
    (.forS (.n 10) .seq [(.lst false [(.v 9), (.v 7), (.v 8)])] [(.ite (.or (.not (.fn 20 [(.v 4), (.v 10)])) (.not (.fn 20 [(.v 10), (.v 4)]))) [(.ret (.c (.bl false)))] []),
    (.set (.n 11) (.and (.cmp .IsNot (.fn 6 [(.v 4), (.v 10)]) (.c .non)) (.cmp .IsNot (.fn 6 [(.v 10), (.v 4)]) (.c .non)))),
    (.ite (.cmp .NotEq (.v 11) (.cmp .Eq (.fn 7 [(.v 4)]) (.fn 7 [(.v 10)]))) [(.ret (.c (.bl false)))] [])])]),
    (.ret (.c (.bl true)))], false⟩
def fs : List Fn := [f0, f1, f2, f3, f4, f5, f6, f7, f8, f9, f10, f11, f12, f13, f14, f15, f16, f17, f18, f19, f20, f21]
theorem t0 : trDef tb 60 [(S "kind")] [(S "kind")] false (topS 1) = some f0 := by kernel_rfl
theorem s0 : FnScope [(S "kind")] [(S "kind")] (defScope (topS 1)) := ⟨rfl, rfl, rfl, by decide +kernel, by kernel_rfl, by decide +kernel, by decide +kernel⟩
theorem t1 : trDef tb 60 [(S "kind"), (S "found"), (S "one"), (S ".0"), (S "name")] [(S "kind")] false (topS 2) = some f1 := by kernel_rfl
theorem s1 : FnScope [(S "kind"), (S "found"), (S "one"), (S ".0"), (S "name")] [(S "kind")] (defScope (topS 2)) := ⟨rfl, rfl, rfl, by decide +kernel, by kernel_rfl, by decide +kernel, by decide +kernel⟩
theorem t2 : trDef tb 60 [(S "kind"), (S "kinds")] [(S "kind"), (S "kinds")] false (topS 3) = some f2 := by kernel_rfl
theorem s2 : FnScope [(S "kind"), (S "kinds")] [(S "kind"), (S "kinds")] (defScope (topS 3)) := ⟨rfl, rfl, rfl, by decide +kernel, by kernel_rfl, by decide +kernel, by decide +kernel⟩
theorem t3 : trDef tb 60 [(S "kind"), (S "filling"), (S ".0"), (S "one")] [(S "kind"), (S "filling")] false (topS 4) = some f3 := by kernel_rfl
theorem s3 : FnScope [(S "kind"), (S "filling"), (S ".0"), (S "one")] [(S "kind"), (S "filling")] (defScope (topS 4)) := ⟨rfl, rfl, rfl, by decide +kernel, by kernel_rfl, by decide +kernel, by decide +kernel⟩
theorem t4 : trDef tb 60 [(S "one"), (S "other")] [(S "one"), (S "other")] false (topS 5) = some f4 := by kernel_rfl
theorem s4 : FnScope [(S "one"), (S "other")] [(S "one"), (S "other")] (defScope (topS 5)) := ⟨rfl, rfl, rfl, by decide +kernel, by kernel_rfl, by decide +kernel, by decide +kernel⟩
theorem t5 : trDef tb 60 [(S "kind"), (S "other"), (S "found"), (S "one"), (S "there")] [(S "kind"), (S "other"), (S "found")] false (topS 6) = some f5 := by kernel_rfl
theorem s5 : FnScope [(S "kind"), (S "other"), (S "found"), (S "one"), (S "there")] [(S "kind"), (S "other"), (S "found")] (defScope (topS 6)) := ⟨rfl, rfl, rfl, by decide +kernel, by kernel_rfl, by decide +kernel, by decide +kernel⟩
theorem t6 : trDef tb 60 [(S "kind"), (S "other"), (S "found")] [(S "kind"), (S "other")] false (topS 7) = some f6 := by kernel_rfl
theorem s6 : FnScope [(S "kind"), (S "other"), (S "found")] [(S "kind"), (S "other")] (defScope (topS 7)) := ⟨rfl, rfl, rfl, by decide +kernel, by kernel_rfl, by decide +kernel, by decide +kernel⟩
theorem t7 : trDef tb 60 [(S "kind"), (S "filling"), (S "number"), (S "name")] [(S "kind")] false (topS 8) = some f7 := by kernel_rfl
theorem s7 : FnScope [(S "kind"), (S "filling"), (S "number"), (S "name")] [(S "kind")] (defScope (topS 8)) := ⟨rfl, rfl, rfl, by decide +kernel, by kernel_rfl, by decide +kernel, by decide +kernel⟩
theorem t8 : trDef tb 60 [(S "_law_script"), (S "_law_k")] [(S "_law_script"), (S "_law_k")] false (topS 10) = some f8 := by kernel_rfl
theorem s8 : FnScope [(S "_law_script"), (S "_law_k")] [(S "_law_script"), (S "_law_k")] (defScope (topS 10)) := ⟨rfl, rfl, rfl, by decide +kernel, by kernel_rfl, by decide +kernel, by decide +kernel⟩
theorem t9 : trDef tb 60 [(S "_law_cell_here"), (S "_law_k"), (S "_law_number")] [(S "_law_cell_here"), (S "_law_k")] false (topS 11) = some f9 := by kernel_rfl
theorem s9 : FnScope [(S "_law_cell_here"), (S "_law_k"), (S "_law_number")] [(S "_law_cell_here"), (S "_law_k")] (defScope (topS 11)) := ⟨rfl, rfl, rfl, by decide +kernel, by kernel_rfl, by decide +kernel, by decide +kernel⟩
theorem t10 : trDef tb 60 [(S "_law_script"), (S "_law_k"), (S "_law_cell_here")] [(S "_law_script"), (S "_law_k")] false (topS 12) = some f10 := by kernel_rfl
theorem s10 : FnScope [(S "_law_script"), (S "_law_k"), (S "_law_cell_here")] [(S "_law_script"), (S "_law_k")] (defScope (topS 12)) := ⟨rfl, rfl, rfl, by decide +kernel, by kernel_rfl, by decide +kernel, by decide +kernel⟩
theorem t11 : trDef tb 60 [(S "_law_box_here"), (S "_law_many"), (S "_law_digit")] [(S "_law_box_here"), (S "_law_many")] false (topS 13) = some f11 := by kernel_rfl
theorem s11 : FnScope [(S "_law_box_here"), (S "_law_many"), (S "_law_digit")] [(S "_law_box_here"), (S "_law_many")] (defScope (topS 13)) := ⟨rfl, rfl, rfl, by decide +kernel, by kernel_rfl, by decide +kernel, by decide +kernel⟩
theorem t12 : trDef tb 60 [(S "_law_box_here"), (S ".0"), (S "_law_k")] [(S "_law_box_here")] false (topS 14) = some f12 := by kernel_rfl
theorem s12 : FnScope [(S "_law_box_here"), (S ".0"), (S "_law_k")] [(S "_law_box_here")] (defScope (topS 14)) := ⟨rfl, rfl, rfl, by decide +kernel, by kernel_rfl, by decide +kernel, by decide +kernel⟩
theorem t13 : trDef tb 60 [(S "_law_box_here")] [(S "_law_box_here")] false (topS 15) = some f13 := by kernel_rfl
theorem s13 : FnScope [(S "_law_box_here")] [(S "_law_box_here")] (defScope (topS 15)) := ⟨rfl, rfl, rfl, by decide +kernel, by kernel_rfl, by decide +kernel, by decide +kernel⟩
theorem t14 : trDef tb 60 [(S "_law_box_here"), (S "_law_names"), (S "_law_most"), (S "_law_deep_here"), (S "_law_way"), (S "_law_name_here"), (S ".0"), (S "_law_k")] [(S "_law_box_here"), (S "_law_names"), (S "_law_most"), (S "_law_deep_here")] false (topS 16) = some f14 := by kernel_rfl
theorem s14 : FnScope [(S "_law_box_here"), (S "_law_names"), (S "_law_most"), (S "_law_deep_here"), (S "_law_way"), (S "_law_name_here"), (S ".0"), (S "_law_k")] [(S "_law_box_here"), (S "_law_names"), (S "_law_most"), (S "_law_deep_here")] (defScope (topS 16)) := ⟨rfl, rfl, rfl, by decide +kernel, by kernel_rfl, by decide +kernel, by decide +kernel⟩
theorem t15 : trDef tb 60 [(S "_law_box_here"), (S "_law_names"), (S "_law_most"), (S "_law_kind_here"), (S "_law_beside"), (S "_law_k"), (S "_law_way")] [(S "_law_box_here"), (S "_law_names"), (S "_law_most")] false (topS 17) = some f15 := by kernel_rfl
theorem s15 : FnScope [(S "_law_box_here"), (S "_law_names"), (S "_law_most"), (S "_law_kind_here"), (S "_law_beside"), (S "_law_k"), (S "_law_way")] [(S "_law_box_here"), (S "_law_names"), (S "_law_most")] (defScope (topS 17)) := ⟨rfl, rfl, rfl, by decide +kernel, by kernel_rfl, by decide +kernel, by decide +kernel⟩
theorem t16 : trDef tb 60 [(S "_law_kind_here")] [(S "_law_kind_here")] false (topS 18) = some f16 := by kernel_rfl
theorem s16 : FnScope [(S "_law_kind_here")] [(S "_law_kind_here")] (defScope (topS 18)) := ⟨rfl, rfl, rfl, by decide +kernel, by kernel_rfl, by decide +kernel, by decide +kernel⟩
theorem t17 : trDef tb 60 [(S "_law_kind_here"), (S "_law_kinds")] [(S "_law_kind_here"), (S "_law_kinds")] false (topS 19) = some f17 := by kernel_rfl
theorem s17 : FnScope [(S "_law_kind_here"), (S "_law_kinds")] [(S "_law_kind_here"), (S "_law_kinds")] (defScope (topS 19)) := ⟨rfl, rfl, rfl, by decide +kernel, by kernel_rfl, by decide +kernel, by decide +kernel⟩
theorem t18 : trDef tb 60 [(S "_law_box_here"), (S "_law_kind_here"), (S "_law_names"), (S "_law_kinds"), (S "_law_at")] [(S "_law_box_here"), (S "_law_kind_here"), (S "_law_names")] false (topS 20) = some f18 := by kernel_rfl
theorem s18 : FnScope [(S "_law_box_here"), (S "_law_kind_here"), (S "_law_names"), (S "_law_kinds"), (S "_law_at")] [(S "_law_box_here"), (S "_law_kind_here"), (S "_law_names")] (defScope (topS 20)) := ⟨rfl, rfl, rfl, by decide +kernel, by kernel_rfl, by decide +kernel, by decide +kernel⟩
theorem t19 : trDef tb 60 [(S "_law_kind_here"), (S "_law_other"), (S "_law_found"), (S "_law_ahead"), (S "_law_behind"), (S ".0"), (S "_law_one"), (S "_law_there")] [(S "_law_kind_here"), (S "_law_other"), (S "_law_found")] false (topS 21) = some f19 := by kernel_rfl
theorem s19 : FnScope [(S "_law_kind_here"), (S "_law_other"), (S "_law_found"), (S "_law_ahead"), (S "_law_behind"), (S ".0"), (S "_law_one"), (S "_law_there")] [(S "_law_kind_here"), (S "_law_other"), (S "_law_found")] (defScope (topS 21)) := ⟨rfl, rfl, rfl, by decide +kernel, by kernel_rfl, by decide +kernel, by decide +kernel⟩
theorem t20 : trDef tb 60 [(S "_law_kind_here"), (S "_law_other"), (S "_law_due"), (S "_law_fits_here"), (S "_law_found")] [(S "_law_kind_here"), (S "_law_other")] false (topS 22) = some f20 := by kernel_rfl
theorem s20 : FnScope [(S "_law_kind_here"), (S "_law_other"), (S "_law_due"), (S "_law_fits_here"), (S "_law_found")] [(S "_law_kind_here"), (S "_law_other")] (defScope (topS 22)) := ⟨rfl, rfl, rfl, by decide +kernel, by kernel_rfl, by decide +kernel, by decide +kernel⟩
theorem t21 : trDef tb 60 [(S "_law_script"), (S "_law_k"), (S "_law_box_here"), (S "_law_names"), (S "_law_kind_here"), (S "_law_filling"), (S "_law_name_here"), (S "_law_other"), (S "_law_spoilt_here"), (S "_law_any_one"), (S "_law_one"), (S "_law_both"), (S ".0"), (S "_law_j")] [(S "_law_script")] false (topS 23) = some f21 := by kernel_rfl
theorem s21 : FnScope [(S "_law_script"), (S "_law_k"), (S "_law_box_here"), (S "_law_names"), (S "_law_kind_here"), (S "_law_filling"), (S "_law_name_here"), (S "_law_other"), (S "_law_spoilt_here"), (S "_law_any_one"), (S "_law_one"), (S "_law_both"), (S ".0"), (S "_law_j")] [(S "_law_script")] (defScope (topS 23)) := ⟨rfl, rfl, rfl, by decide +kernel, by kernel_rfl, by decide +kernel, by decide +kernel⟩
end L2.PF.KB

set_option Elab.async false
set_option linter.all false
set_option maxRecDepth 100000
set_option maxHeartbeats 4000000
namespace L2.PF.KB
open PySem PySem.Spec PyProof.Rows
open L2.PF.Kn
theorem c_neq {S : Store} {x y : Str} : cmpV .NotEq S (.str x) (.str y) = some (!decide (x = y)) := c_ne_str
/-- what a dict that is matched into may hold -/
def FOk (F : Fil) : Prop := (F.map (·.1)).Nodup ∧ ∀ p ∈ F, 0 ≤ p.1 ∧ p.1 < 60 ∧ p.2.dep ≤ 80
theorem FOk.len {F : Fil} (h : FOk F) : F.length ≤ 60 := by
  have := nodup_len 60 (F.map (·.1)) h.1 fun i hi => by
    obtain ⟨p, hp, rfl⟩ := List.mem_map.mp hi
    exact ⟨(h.2 p hp).1, (h.2 p hp).2.1⟩
  rw [List.length_map] at this
  exact this
theorem FOk.snoc {F : Fil} {i : Int} {v : Kn} (h : FOk F) (hl : F.lookup i = none) (h0 : 0 ≤ i) (h1 : i < 60) (hv : v.dep ≤ 80) : FOk (F ++ [(i, v)]) := by
  refine ⟨?_, fun p hp => ?_⟩
  · rw [List.map_append, List.nodup_append]
    refine ⟨h.1, by simp, fun a ha b hb e => ?_⟩
    have : b = i := by simpa using hb
    subst this
    subst e
    exact lookup_none.mp hl ha
  · rcases List.mem_append.mp hp with z | z
    · exact h.2 p z
    · rw [List.mem_singleton.mp z]; exact ⟨h0, h1, hv⟩
theorem FOk.nil : FOk [] := ⟨.nil, fun p h => by cases h⟩
def MT (k l : Kn) (F : Fil) (n : Nat) (S : Store) (u : PV) (S' : Store) : Prop :=
  ∃ G, FOk G ∧ S' = S.set n (.dic (kvF G)) ∧ ((u = .bl true ∧ mat k l F = some G) ∨ (u = .bl false ∧ mat k l F = none))
theorem notin_d {S : Store} {n : Nat} {F : Fil} {i : Int} (h : S[n]? = some (.dic (kvF F))) : cmpV .NotIn S (.int i) (.loc n) = some (F.lookup i).isNone := by
  show (isIn S (.int i) (.loc n)).map (!·) = _
  simp only [isIn, h, keyOf, getK_kvF]
  cases F.lookup i <;> rfl
theorem ix_d {S : Store} {n : Nat} {F : Fil} {i : Int} {v : Kn} (h : S[n]? = some (.dic (kvF F))) (e : F.lookup i = some v) : ixV S (.loc n) (.int i) = some v.pv := by
  simp only [ixV, h, keyOf, getK_kvF, e]
  rfl
theorem setdef_d {S : Store} {n : Nat} {F : Fil} {i : Int} {v : Kn} (h : S[n]? = some (.dic (kvF F))) (hF : FOk F) : mthV .setdef S (.loc n) [.int i, v.pv] = (match F.lookup i with
    | some w => .ok w.pv S
    | none => .ok v.pv (S.set n (.dic (kvF (F ++ [(i, v)]))))) := by
  simp only [mthV, h, keyOf]
  rw [if_pos (by have := hF.len; simp only [kvF, List.length_map]; rw [sizeLine_eq]; omega), getK_kvF]
  cases e : F.lookup i with
  | some w => rfl
  | none => show R.ok _ _ = _; rw [putP_new e]
theorem set_same {S : Store} {n : Nat} {x : PO} (h : S[n]? = some x) : S.set n x = S := by
  apply List.ext_getElem?
  intro i
  rw [List.getElem?_set]
  split
  · rename_i e; subst e; rw [h]; simp [(List.getElem?_eq_some_iff.mp h).1]
  · rfl
theorem set_set {S : Store} {n : Nat} {x y : PO} : (S.set n x).set n y = S.set n y := by simp
theorem get_set {S : Store} {n : Nat} {x y : PO} (h : S[n]? = some x) : (S.set n y)[n]? = some y := by
  rw [List.getElem?_set_self]
  exact (List.getElem?_eq_some_iff.mp h).1
theorem zip_tup {S : Store} {xs ys : List PV} : iterV .zip S [.tup xs, .tup ys] = some (zipP xs ys, []) := rfl
theorem zipP_map (ks ls : List Kn) : zipP (ks.map Kn.pv) (ls.map Kn.pv) = (ks.zip ls).map fun p => .tup [p.1.pv, p.2.pv] := by
  unfold zipP
  rw [List.zipWith_map, List.zip, List.map_zipWith]
theorem done_set {v : PV} {S : Store} {n : Nat} {o : PO} {l : Store} {Q : PV → Store → Prop} (h : PV.und S.length v = true) (ho : PO.und S.length o = true) (q : Q v (S.set n o)) : okR (done false S v (S.set n o ++ l)) Q := by
  have hl : (S.set n o).length = S.length := List.length_set ..
  have ht : (S.set n o ++ l).take S.length = S.set n o := by rw [← hl]; simp
  rw [done_f]
  have hd : dropOk S v (S.set n o ++ l) = true := by
    unfold dropOk
    rw [ht, h]
    simp only [Bool.and_true, Bool.and_eq_true, decide_eq_true_eq, List.length_append, hl, List.all_eq_true, Bool.or_eq_true]
    refine ⟨by omega, fun p hp => ?_⟩
    obtain ⟨i, hi, e⟩ := List.mem_iff_getElem.mp hp
    rw [List.getElem_zip] at e
    subst e
    simp only
    by_cases z : n = i
    · subst z; right; simpa using ho
    · left; rw [List.getElem_set_ne z]
  rw [if_pos hd, ht]
  exact q
theorem und_kvF (n : Nat) (F : Fil) : PO.und n (.dic (kvF F)) = true := by
  unfold PO.und kvF
  simp only [List.map_map]
  induction F with
  | nil => rfl
  | cons p F ih => rw [List.map_cons, PV.undL, ih]; simp [Kn.und]
section
local macro_rules | `(tactic| trivial) => `(tactic| simp only [startE, exs, ex, ev, evs, okS_then, okS_toS, okR_bind, okS_nx, okS_rt, okR_ok, okS_ite, okR_ite, List.length_cons, List.length_nil, List.map_cons, List.map_nil, List.replicate, List.cons_append, List.nil_append, List.getElem?_cons_zero, List.getElem?_cons_succ, put_n, put2, put3, List.set_cons_zero, List.set_cons_succ, okR_some, o_add, o_sub, o_mul, o_div, o_mod, o_pow, c_lt, c_le, c_gt, c_ge, c_eq, c_ne, PF.t_bl, map_some', decide_eq_true_eq, R.bind_ok, R.ofO_some, ifs0, ifs1, compR_f, wipeE, mk_f, mk_t, sz0, sz1, sz2, sz3, sz4, sz5, sz6, sz7, sz8, if_true, dic0, dic0v, dic1, len_str, len_fz, len_lv, len_tup, tup_lv, list_tup, max_i, min_i, okR_only, ix_tup, atI0, atI1, atI2, sl1, bound, Bool.false_eq_true, if_false, iter_tup, iter_lv, Bool.not_true, Bool.not_false, tmm, tnm, tom, tfm, trm, tnf, tof, tff, trf, tnr, tor, trr, tno, too, tfo, tro, tmo, tnn, tfn_, trn, tmn, ton, Kn.ix0, Kn.ixo, Kn.is_o, Kn.is_m, Kn.is_n, c_neq, zip_tup])
theorem len_tup_k {S : Store} {xs : List Kn} : bltR .len S [.tup (xs.map Kn.pv)] = .ok (.int xs.length) S := by rw [len_tup, List.length_map]
theorem heads_k (d : Nat) (S : Store) (k l : Kn) : okR (call fs (d + 2) 4 [k.pv, l.pv] S) fun u S' => S' = S ∧ u = .bl (alike k l) := by
  refine okR_call (F := f4) rfl rfl ?_
  simp only [f4]
  trivial
  by_cases h1 : k.tag = l.tag
  · simp only [h1, decide_true, Bool.not_true]
    try trivial
    have tail : (k.isM = true → k.nm = l.nm) → okR (call fs (d + 1) 0 [k.pv] S) (fun a S_1 => okR (bltR .len S_1 [a]) fun a_1 S_2 => okR (call fs (d + 1) 0 [l.pv] S_2) fun a_2 S_3 => okR (bltR .len S_3 [a_2]) fun a_3 S_4 => okR (R.ofO (Option.map PV.bl (cmpV .Eq S_4 a_1 a_3)) S_4) fun a_4 S_5 => okR (done false S a_4 S_5) fun u S' => S' = S ∧ u = PV.bl (k.alike l)) := fun hn => by
      rw [okR_det (within_k (T := fs) rfl d S k)]
      try trivial
      rw [okR_det (within_k (T := fs) rfl d S l)]
      try trivial
      refine done_len rfl ⟨rfl, ?_⟩
      unfold alike
      rw [decide_eq_true h1]
      have : (!k.isM || decide (k.nm = l.nm)) = true := by
        cases hm : k.isM with
        | false => rfl
        | true => simp [hn hm]
      rw [this]
      simp only [Bool.true_and, List.length_map]
      congr 1
      exact decide_eq_decide.mpr (by omega)
    cases hm : k.isM with
    | false =>
      try trivial
      exact tail fun z => by rw [hm] at z; cases z
    | true =>
      try trivial
      rw [ix1 hm]
      try trivial
      rw [ix1 (by rw [← isM_tag h1]; exact hm)]
      try trivial
      by_cases h2 : k.nm = l.nm
      · simp only [h2, decide_true, Bool.not_true, Bool.false_eq_true, if_false]
        exact tail fun _ => h2
      · simp only [h2, decide_false, Bool.not_false, if_true]
        try trivial
        refine done_len rfl ⟨rfl, ?_⟩
        unfold alike
        rw [hm, decide_eq_false h2]
        simp
  · simp only [h1, decide_false, Bool.not_false, if_true]
    try trivial
    refine done_len rfl ⟨rfl, ?_⟩
    unfold alike
    rw [decide_eq_false h1]
    simp
theorem matches_k (n : Nat) : ∀ (N d : Nat) (k l : Kn) (F : Fil) (S : Store), k.dep ≤ N → k.In 60 → l.dep ≤ 80 → FOk F → S[n]? = some (.dic (kvF F)) → okR (call fs (d + N + 2) 5 [k.pv, l.pv, .loc n] S) (MT k l F n S)
  | 0, d, k, l, F, S, hn, _, _, _, _ => absurd hn (by have := k.dep_pos; omega)
  | N + 1, d, k, l, F, S, hn, hI, hl, hF, hS => by
    refine okR_call (F := f5) rfl rfl ?_
    simp only [f5]
    trivial
    cases ho : k.isO with
    | true =>
      cases k with
      | o i =>
        have hi := hI i (by simp [opens])
        have hlen : ∀ o, (S.set n o).length = S.length := fun o => List.length_set ..
        simp only [Bool.true_eq, if_true]
        try trivial
        rw [notin_d hS]
        try trivial
        cases e : F.lookup i with
        | none =>
          simp only [Option.isNone_none, if_true]
          rw [dic_set hS e (by have := hF.len; omega)]
          try trivial
          rw [ix_d (get_set hS) (show List.lookup i (F ++ [(i, l)]) = some l by rw [lookup_app, e]; simp)]
          try trivial
          rw [Kn.c_eq (by omega)]
          try trivial
          refine done_len (hlen _) ⟨_, hF.snoc e hi.1 hi.2 hl, rfl, .inl ⟨by simp, by rw [mat, e]⟩⟩
        | some w =>
          simp only [Option.isNone_some, Bool.false_eq_true, if_false]
          rw [ix_d hS e]
          try trivial
          rw [Kn.c_eq (by have : w.dep ≤ 80 := (hF.2 _ (lookup_mem e)).2.2; omega)]
          try trivial
          refine done_len rfl ⟨F, hF, (set_same hS).symm, ?_⟩
          rw [mat, e]
          by_cases h : w = l <;> simp [h]
      | _ => cases ho
    | false =>
      simp only [Bool.false_eq_true, if_false]
      try trivial
      rw [show d + (N + 1) + 1 = d + N + 2 by omega]
      rw [okR_det (heads_k (d + N) S k l)]
      try trivial
      have hm := fun F => Kn.mat_kids (k := k) (l := l) (F := F) ho
      cases ha : alike k l with
      | false =>
        simp only [Bool.not_false, if_true]
        refine done_len rfl ⟨F, hF, (set_same hS).symm, .inr ⟨rfl, by rw [hm, ha]; rfl⟩⟩
      | true =>
        simp only [Bool.not_true, Bool.false_eq_true, if_false]
        rw [ha] at hm
        simp only [if_true] at hm
        rw [okR_det (within_k (T := fs) rfl (d + N + 1) S k)]
        try trivial
        rw [okR_det (within_k (T := fs) rfl (d + N + 1) S l)]
        try trivial
        rw [zipP_map]
        refine forL_ok (fun (i : Nat) (e : Env) (S' : Store) => ∃ G, FOk G ∧ S' = S.set n (.dic (kvF G)) ∧ matL ((k.kids.zip l.kids).take i) F = some G ∧ ∃ o3 o4, e = [some k.pv, some l.pv, some (.loc n), o3, o4])
          ⟨F, hF, (set_same hS).symm, rfl, _, _, rfl⟩ (fun _ _ _ _ _ => rfl) ?_ ?_
        · rintro i x e S' hx ⟨G, hG, rfl, hmt, o3, o4, rfl⟩
          rw [List.getElem?_map] at hx
          cases hp : (k.kids.zip l.kids)[i]? with
          | none => rw [hp] at hx; cases hx
          | some p =>
            rw [hp] at hx
            cases hx
            obtain ⟨a, b⟩ := p
            have hab := List.mem_of_getElem? hp
            have hak : a ∈ k.kids := (List.of_mem_zip hab).1
            have hbl : b ∈ l.kids := (List.of_mem_zip hab).2
            try trivial
            have hsn : matL ((k.kids.zip l.kids).take (i + 1)) F = mat a b G := by
              rw [List.take_add_one, hp]
              show matL (_ ++ [(a, b)]) F = _
              rw [matL_snoc, hmt]
              rfl
            refine okR_mono (matches_k n N d a b G _ (by have := kids_dep hak; omega) (hI.kids hak) (by have := kids_dep hbl; omega) hG (get_set hS)) fun u S1 ⟨G1, hG1, hS1, hu⟩ => ?_
            rw [set_set] at hS1
            rcases hu with ⟨rfl, hu⟩ | ⟨rfl, hu⟩
            · try trivial
              exact ⟨G1, hG1, hS1, by rw [hsn, hu], _, _, rfl⟩
            · try trivial
              refine done_len (by rw [hS1]; exact List.length_set ..) ⟨G1, hG1, hS1, .inr ⟨rfl, ?_⟩⟩
              rw [hm]
              have : k.kids.zip l.kids = (k.kids.zip l.kids).take (i + 1) ++ (k.kids.zip l.kids).drop (i + 1) := (List.take_append_drop _ _).symm
              rw [this]
              have app : ∀ (ps qs : List (Kn × Kn)) (F : Fil), matL (ps ++ qs) F = (matL ps F).bind (matL qs) := by
                intro ps
                induction ps with
                | nil => intro qs F; rfl
                | cons p ps ih =>
                  intro qs F
                  rw [List.cons_append, matL, matL]
                  cases mat p.1 p.2 F with
                  | none => rfl
                  | some G => exact ih qs G
              rw [app, hsn, hu]
              rfl
        · rintro e S' ⟨G, hG, rfl, hmt, o3, o4, rfl⟩
          rw [List.length_map, List.take_length] at hmt
          try trivial
          refine done_len (List.length_set ..) ⟨G, hG, rfl, .inl ⟨rfl, by rw [hm, hmt]⟩⟩
theorem matched_k (N d : Nat) (k l : Kn) (S : Store) (hn : k.dep ≤ N) (hI : k.In 60) (hl : l.dep ≤ 80) : okR (call fs (d + N + 3) 6 [k.pv, l.pv] S) fun u S' => match mat k l [] with
    | some G => u = .loc S.length ∧ S' = S ++ [.dic (kvF G)] ∧ FOk G
    | none => u = .non ∧ S' = S := by
  refine okR_call (F := f6) rfl rfl ?_
  simp only [f6]
  trivial
  refine okR_mono (matches_k S.length N d k l [] _ hn hI hl .nil get_last) fun u S1 ⟨G, hG, hS1, hu⟩ => ?_
  rw [set_last] at hS1
  subst hS1
  rcases hu with ⟨rfl, hu⟩ | ⟨rfl, hu⟩
  · try trivial
    rw [hu]
    exact done_keep (by simp [PV.und]) ⟨rfl, rfl, hG⟩
  · try trivial
    rw [hu]
    exact done_app rfl ⟨rfl, rfl⟩
theorem matched_d {d : Nat} (k l : Kn) (S : Store) (h : k.dep + 3 ≤ d) (hI : k.In 60) (hl : l.dep ≤ 80) : okR (call fs d 6 [k.pv, l.pv] S) fun u S' => match mat k l [] with
    | some G => u = .loc S.length ∧ S' = S ++ [.dic (kvF G)] ∧ FOk G
    | none => u = .non ∧ S' = S := by
  obtain ⟨e, rfl⟩ := Nat.exists_eq_add_of_le h
  have := matched_k k.dep e k l S (Nat.le_refl _) hI hl
  rwa [show e + k.dep + 3 = k.dep + 3 + e by omega] at this
end
end L2.PF.KB

set_option Elab.async false
set_option linter.all false
set_option maxRecDepth 100000
set_option maxHeartbeats 4000000
namespace L2.PF.KB
open PySem PySem.Spec PyProof.Rows
open L2.PF.Kn
theorem zip_loc {S : Store} {a b : Nat} {xs ys : List PV} (h1 : S[a]? = some (.lst xs)) (h2 : S[b]? = some (.lst ys)) : iterV .zip S [.loc a, .loc b] = some (zipP xs ys, [(a, .lst xs), (b, .lst ys)]) := by
  simp only [iterV, litems, grd, h1, h2]
  rfl
theorem len_loc {S : Store} {a : Nat} {xs : List PV} (h1 : S[a]? = some (.lst xs)) : bltR .len S [.loc a] = .ok (.int xs.length) S := by
  show R.ofO ((lenV S (.loc a)).map fun (n : Nat) => PV.int n) S = _
  simp only [lenV, h1]
  rfl
theorem notin_bs {S : Store} {bs : List Bool} : cmpV .NotIn S (.bl false) (.lv (bs.map PV.bl)) = some (bs.all id) := by
  show (inD S (.bl false) (bs.map PV.bl)).map (!·) = _
  rw [inD_flat rfl (by rw [List.all_map, List.all_eq_true]; exact fun _ _ => rfl)]
  show some (!((bs.map PV.bl).any fun z => eqP z (.bl false))) = _
  congr 1
  induction bs with
  | nil => rfl
  | cons b bs ih =>
    rw [List.map_cons, List.any_cons, List.all_cons, Bool.not_or, ih]
    cases b <;> rfl
theorem eqH_self {f : PV → PV → Option Bool} {kb : List (Key × PV)} : ∀ l : List (Key × PV), (∀ p ∈ l, getK kb p.1 = some p.2 ∧ f p.2 p.2 = some true) → eqH f kb l = some true
  | [], _ => rfl
  | p :: r, h => by
    obtain ⟨h1, h2⟩ := h p (by simp)
    rw [eqH, h1]
    simp only
    rw [h2, eqH_self r fun q hq => h q (List.mem_cons_of_mem _ hq)]
    rfl
theorem lookup_nd {p : Int × Kn} : ∀ {F : Fil}, (F.map (·.1)).Nodup → p ∈ F → F.lookup p.1 = some p.2
  | [], _, h => by cases h
  | q :: F, nd, h => by
    rw [List.map_cons, List.nodup_cons] at nd
    rw [List.lookup_cons]
    rcases List.mem_cons.mp h with e | e
    · subst e; simp
    · have : p.1 ≠ q.1 := fun z => nd.1 (z ▸ List.mem_map.mpr ⟨p, e, rfl⟩)
      have h2 : (p.1 == q.1) = false := by simpa using this
      rw [h2]
      exact lookup_nd nd.2 e
theorem eq_dd {S : Store} {a b : Nat} {F : Fil} (h1 : S[a]? = some (.dic (kvF F))) (h2 : S[b]? = some (.dic (kvF F))) (hF : FOk F) : cmpV .Eq S (.loc a) (.loc b) = some true := by
  show eqX S (.loc a) (.loc b) = _
  unfold eqX
  simp only [ditems, h1, h2, if_true]
  refine eqH_self _ fun p hp => ?_
  obtain ⟨q, hq, rfl⟩ := List.mem_map.mp hp
  refine ⟨by rw [getK_kvF, lookup_nd hF.1 hq]; rfl, ?_⟩
  have hd := (hF.2 q hq).2.2
  have := Kn.c_eq (St := S) (k := q.2) (l := q.2) (by omega)
  have e : cmpV .Eq S q.2.pv q.2.pv = eqD S q.2.pv q.2.pv := eqX_r (by obtain ⟨xs, h⟩ := q.2.pv_tup; rw [h]; rfl)
  rw [e] at this
  simpa using this
theorem ne_dd {S : Store} {a b : Nat} {F : Fil} (h1 : S[a]? = some (.dic (kvF F))) (h2 : S[b]? = some (.dic (kvF F))) (hF : FOk F) : cmpV .NotEq S (.loc a) (.loc b) = some false := by
  show (cmpV .Eq S (.loc a) (.loc b)).map (!·) = _
  rw [eq_dd h1 h2 hF]; rfl
theorem eqL_ints {S : Store} {k : Nat} : ∀ xs : List Int, eqL (eqG S (k + 1)) (xs.map PV.int) (xs.map PV.int) = some true
  | [] => rfl
  | x :: xs => by
    rw [List.map_cons, eqL, eqL_ints xs, eqG, if_pos (by rfl), if_pos (by rfl), show eqP (.int x) (.int x) = true from beq_self_eq_true x]
    rfl
theorem ne_ints {S : Store} {xs : List Int} : cmpV .NotEq S (.lv (xs.map PV.int)) (.lv (xs.map PV.int)) = some false := by
  show (eqG S (169 + 1) (.lv (xs.map PV.int)) (.lv (xs.map PV.int))).map (!·) = _
  rw [eqG, if_neg (by simp [flatP])]
  simp only [seqK, litems, Option.map_some]
  rw [if_neg (by simp [flatP])]
  unfold eqS
  rw [if_pos rfl, if_neg (by simp), eqL_ints xs]
  rfl
theorem keyInts_kvF : ∀ F : Fil, keyInts ((kvF F).map (·.1)) = some (F.map (·.1))
  | [] => rfl
  | p :: F => by
    have := keyInts_kvF F
    unfold kvF at this ⊢
    rw [List.map_cons, List.map_cons, List.map_cons, keyInts, this]
theorem sorted_d {S : Store} {a : Nat} {F : Fil} (h1 : S[a]? = some (.dic (kvF F))) (hF : FOk F) : bltR .sorted1 S [.loc a] = .ok (.lv ((sortI (F.map (·.1))).map .int)) S := by
  show R.ofO ((sortV S (.loc a)).map fun is => PV.lv (is.map .int)) S = _
  simp only [sortV, ditems, h1, keyInts_kvF]
  rw [if_pos (by rw [List.length_map]; have := hF.len; omega)]
  rfl
theorem intsOf_ints : ∀ xs : List Int, intsOf (xs.map PV.int) = some xs
  | [] => rfl
  | x :: xs => by rw [List.map_cons, intsOf, intsOf_ints xs]
theorem sorted_t {S : Store} {xs : List Int} : bltR .sorted1 S [.tup (xs.map PV.int)] = .ok (.lv ((sortI xs).map .int)) S := by
  show R.ofO ((sortV S (.tup (xs.map PV.int))).map fun is => PV.lv (is.map .int)) S = _
  simp only [sortV, ditems, items, intsOf_ints]
  rfl
section
local macro_rules | `(tactic| trivial) => `(tactic| simp only [startE, exs, ex, ev, evs, okS_then, okS_toS, okR_bind, okS_nx, okS_rt, okR_ok, okS_ite, okR_ite, List.length_cons, List.length_nil, List.map_cons, List.map_nil, List.replicate, List.cons_append, List.nil_append, List.getElem?_cons_zero, List.getElem?_cons_succ, put_n, put2, put3, List.set_cons_zero, List.set_cons_succ, okR_some, o_add, o_sub, o_mul, o_div, o_mod, o_pow, c_lt, c_le, c_gt, c_ge, c_eq, c_ne, PF.t_bl, map_some', decide_eq_true_eq, R.bind_ok, R.ofO_some, ifs0, ifs1, compR_f, wipeE, mk_f, mk_t, sz0, sz1, sz2, sz3, sz4, sz5, sz6, sz7, sz8, if_true, dic0, dic0v, dic1, len_str, len_fz, len_lv, len_tup, tup_lv, list_tup, max_i, min_i, okR_only, ix_tup, atI0, atI1, atI2, sl1, bound, Bool.false_eq_true, if_false, iter_tup, iter_lv, Bool.not_true, Bool.not_false, tmm, tnm, tom, tfm, trm, tnf, tof, tff, trf, tnr, tor, trr, tno, too, tfo, tro, tmo, tnn, tfn_, trn, tmn, ton, Kn.ix0, Kn.ixo, Kn.is_o, Kn.is_m, Kn.is_n, c_neq, list1m_tup])
theorem lwithin_k (d : Nat) (St : Store) (k : Kn) : okR (call fs (d + 1) 16 [k.pv] St) fun u S' => S' = St ++ [.lst (k.kids.map Kn.pv)] ∧ u = .loc St.length := by
  refine okR_call (F := f16) rfl rfl ?_
  simp only [f16]
  have keep : ∀ l : List PV, okR (done false St (.loc St.length) (St ++ [.lst l])) fun u S' => S' = St ++ [.lst l] ∧ u = .loc St.length := fun l => done_keep (by simp [PV.und]) ⟨rfl, rfl⟩
  cases k with
  | num =>
    simp only [Kn.pv]
    trivial
    rw [in_fr "num" (by simp)]
    try trivial
    rw [if_neg (by decide)]
    try trivial
    exact keep []
  | o i =>
    simp only [Kn.pv]
    trivial
    rw [in_fr "open" (by simp)]
    try trivial
    rw [if_neg (by decide)]
    try trivial
    exact keep []
  | ref a =>
    simp only [Kn.pv]
    trivial
    rw [in_fr "ref" (by simp)]
    try trivial
    rw [if_pos (by decide)]
    try trivial
    exact keep _
  | fn a b =>
    simp only [Kn.pv]
    trivial
    rw [in_fr "fn" (by simp)]
    try trivial
    rw [if_pos (by decide)]
    try trivial
    exact keep _
  | m0 x => simp only [Kn.pv]; trivial; exact keep _
  | m1 x a => simp only [Kn.pv]; trivial; exact keep _
  | m2 x a b => simp only [Kn.pv]; trivial; exact keep _
theorem two_app {S : Store} {a b : PO} : S ++ [a] ++ [b] = S ++ [a, b] := by simp
theorem fits_k (n : Nat) : ∀ (N d : Nat) (k l : Kn) (F : Fil) (S : Store), k.dep ≤ N → k.In 60 → l.dep ≤ 80 → FOk F → S[n]? = some (.dic (kvF F)) → okR (call fs (d + N + 2) 19 [k.pv, l.pv, .loc n] S) (MT k l F n S)
  | 0, d, k, l, F, S, hn, _, _, _, _ => absurd hn (by have := k.dep_pos; omega)
  | N + 1, d, k, l, F, S, hn, hI, hl, hF, hS => by
    refine okR_call (F := f19) rfl rfl ?_
    simp only [f19]
    trivial
    have hnl : n < S.length := (List.getElem?_eq_some_iff.mp hS).1
    cases ho : k.isO with
    | true =>
      cases k with
      | o i =>
        have hi := hI i (by simp [opens])
        have hlen : ∀ o, (S.set n o).length = S.length := fun o => List.length_set ..
        simp only [if_true]
        try trivial
        rw [if_pos (by simp only [mthIs, tyName, hS]; rfl), setdef_d hS hF]
        cases e : F.lookup i with
        | none =>
          simp only
          try trivial
          rw [Kn.c_eq (by omega)]
          try trivial
          refine done_len (hlen _) ⟨_, hF.snoc e hi.1 hi.2 hl, rfl, .inl ⟨by simp, by rw [mat, e]⟩⟩
        | some w =>
          simp only
          try trivial
          rw [Kn.c_eq (by have : w.dep ≤ 80 := (hF.2 _ (lookup_mem e)).2.2; omega)]
          try trivial
          refine done_len rfl ⟨F, hF, (set_same hS).symm, ?_⟩
          rw [mat, e]
          by_cases h : w = l <;> simp [h]
      | _ => cases ho
    | false =>
      simp only [Bool.false_eq_true, if_false]
      try trivial
      have hm := fun F => Kn.mat_kids (k := k) (l := l) (F := F) ho
      have no : ∀ S' : Store, (∃ x, S' = S ++ x) → alike k l = false → okR (done false S (.bl false) S') (MT k l F n S) := fun S' ⟨x, hx⟩ ha => by
        subst hx
        refine done_app rfl ⟨F, hF, (set_same hS).symm, .inr ⟨rfl, by rw [hm, ha]; rfl⟩⟩
      by_cases h1 : k.tag = l.tag
      · simp only [h1, decide_true, Bool.not_true, Bool.false_eq_true, if_false]
        have tail : (k.isM = true → k.nm = l.nm) → okS (exs (call fs (d + (N + 1) + 1)) (f19.body.drop 2) [some k.pv, some l.pv, some (.loc n), none, none, none, none, none] S)
            { nx := fun _ S1 => okR (done false S .non S1) (MT k l F n S), rt := fun v S1 => okR (done false S v S1) (MT k l F n S) } := fun hnm => by
          have hal : alike k l = decide (k.kids.length = l.kids.length) := by
            unfold alike
            rw [decide_eq_true h1]
            cases hq : k.isM with
            | false => simp
            | true => simp [hnm hq]
          simp only [f19, List.drop]
          trivial
          rw [show d + (N + 1) + 1 = d + N + 2 by omega]
          refine okR_mono (lwithin_k (d + N + 1) S k) fun u S1 ⟨hS1, hu⟩ => ?_
          subst hS1 hu
          try trivial
          refine okR_mono (lwithin_k (d + N + 1) _ l) fun u S1 ⟨hS1, hu⟩ => ?_
          subst hS1 hu
          rw [two_app]
          have g1 : (S ++ [PO.lst (k.kids.map Kn.pv), .lst (l.kids.map Kn.pv)])[S.length]? = some (.lst (k.kids.map Kn.pv)) := get_mid
          have g2 : (S ++ [PO.lst (k.kids.map Kn.pv), .lst (l.kids.map Kn.pv)])[S.length + 1]? = some (.lst (l.kids.map Kn.pv)) := get_mid2
          rw [show (S ++ [PO.lst (k.kids.map Kn.pv)]).length = S.length + 1 by simp]
          try trivial
          rw [len_loc g1]
          try trivial
          rw [len_loc g2]
          try trivial
          rw [List.length_map, List.length_map]
          by_cases hlen : k.kids.length = l.kids.length
          · rw [hlen]
            simp only [decide_true, Bool.not_true, Bool.false_eq_true, if_false]
            try trivial
            rw [zip_loc g1 g2, zipP_map]
            try trivial
            have hset : ∀ o (l : Store), (S ++ l).set n o = S.set n o ++ l := fun o l => List.set_append_left _ _ hnl
            refine compL_ok (fun (i : Nat) (acc : List PV) (S' : Store) => ∃ G, FOk G ∧ S' = S.set n (.dic (kvF G)) ++ [.lst (k.kids.map Kn.pv), .lst (l.kids.map Kn.pv)] ∧ ∃ bs : List Bool, acc = bs.map PV.bl ∧
              ((bs.all id = true ∧ matL ((k.kids.zip l.kids).take i) F = some G) ∨ (bs.all id = false ∧ matL ((k.kids.zip l.kids).take i) F = none)))
              ⟨F, hF, by rw [set_same hS], [], rfl, .inl ⟨rfl, rfl⟩⟩ ?_ ?_ ?_
            · rintro i a S' hi ⟨G, hG, rfl, _⟩
              have e1 : (S.set n (.dic (kvF G)) ++ [PO.lst (k.kids.map Kn.pv), .lst (l.kids.map Kn.pv)])[S.length]? = some (.lst (k.kids.map Kn.pv)) := by
                rw [show S.length = (S.set n (.dic (kvF G))).length by simp]; exact get_mid
              have e2 : (S.set n (.dic (kvF G)) ++ [PO.lst (k.kids.map Kn.pv), .lst (l.kids.map Kn.pv)])[S.length + 1]? = some (.lst (l.kids.map Kn.pv)) := by
                rw [show S.length = (S.set n (.dic (kvF G))).length by simp]; exact get_mid2
              unfold grdOk
              rw [List.all_cons, List.all_cons, e1, e2]
              simp
            · rintro i x acc S' hx ⟨G, hG, rfl, bs, rfl, hbs⟩
              rw [List.getElem?_map] at hx
              cases hp : (k.kids.zip l.kids)[i]? with
              | none => rw [hp] at hx; cases hx
              | some p =>
                rw [hp] at hx
                cases hx
                obtain ⟨a, b⟩ := p
                have hab := List.mem_of_getElem? hp
                have hak : a ∈ k.kids := (List.of_mem_zip hab).1
                have hbl : b ∈ l.kids := (List.of_mem_zip hab).2
                try trivial
                have hsn : matL ((k.kids.zip l.kids).take (i + 1)) F = (matL ((k.kids.zip l.kids).take i) F).bind (mat a b) := by
                  rw [List.take_add_one, hp]
                  show matL (_ ++ [(a, b)]) F = _
                  rw [matL_snoc]
                have hgn : (S.set n (.dic (kvF G)) ++ [PO.lst (k.kids.map Kn.pv), .lst (l.kids.map Kn.pv)])[n]? = some (.dic (kvF G)) := by
                  rw [List.getElem?_append_left (by simpa using hnl)]
                  exact get_set hS
                refine okR_mono (fits_k n N d a b G _ (by have := kids_dep hak; omega) (hI.kids hak) (by have := kids_dep hbl; omega) hG hgn) fun u S1 ⟨G1, hG1, hS1, hu⟩ => ?_
                rw [List.set_append_left _ _ (by simpa using hnl), set_set] at hS1
                have key : ∀ c : Bool, (c = true ∧ mat a b G = some G1) ∨ (c = false ∧ mat a b G = none) → ∃ bs' : List Bool, bs.map PV.bl ++ [.bl c] = bs'.map PV.bl ∧
                    ((bs'.all id = true ∧ matL ((k.kids.zip l.kids).take (i + 1)) F = some G1) ∨ (bs'.all id = false ∧ matL ((k.kids.zip l.kids).take (i + 1)) F = none)) := fun c hc => by
                  refine ⟨bs ++ [c], by simp, ?_⟩
                  rw [List.all_append, hsn]
                  rcases hbs with ⟨q1, q2⟩ | ⟨q1, q2⟩
                  · rw [q1, q2]
                    rcases hc with ⟨rfl, q3⟩ | ⟨rfl, q3⟩
                    · exact .inl ⟨rfl, q3⟩
                    · exact .inr ⟨rfl, q3⟩
                  · rw [q1, q2]
                    exact .inr ⟨rfl, rfl⟩
                rcases hu with ⟨rfl, hu⟩ | ⟨rfl, hu⟩
                · try trivial
                  exact ⟨G1, hG1, hS1, key true (.inl ⟨rfl, hu⟩)⟩
                · try trivial
                  exact ⟨G1, hG1, hS1, key false (.inr ⟨rfl, hu⟩)⟩
            · rintro acc S' ⟨G, hG, rfl, bs, rfl, hbs⟩
              rw [List.length_map, List.take_length] at hbs
              try trivial
              rw [notin_bs]
              try trivial
              have hal2 : alike k l = true := by rw [hal]; simpa using hlen
              refine done_set rfl (und_kvF _ _) ⟨G, hG, rfl, ?_⟩
              rw [hm, hal2]
              rcases hbs with ⟨q1, q2⟩ | ⟨q1, q2⟩
              · rw [q1]; exact .inl ⟨rfl, q2⟩
              · rw [q1]; exact .inr ⟨rfl, q2⟩
          · have : decide ((k.kids.length : Int) = (l.kids.length : Int)) = false := by simp; omega
            rw [this]
            simp only [Bool.not_false, if_true]
            try trivial
            exact no _ ⟨_, rfl⟩ (by rw [hal]; simpa using hlen)
        simp only [f19, List.drop] at tail
        cases hmm : k.isM with
        | false =>
          try trivial
          have t2 := tail fun z => by rw [hmm] at z; cases z
          revert t2
          trivial
          exact fun t2 => t2
        | true =>
          try trivial
          rw [ix1 hmm]
          try trivial
          rw [ix1 (by rw [← isM_tag h1]; exact hmm)]
          try trivial
          by_cases h2 : k.nm = l.nm
          · simp only [h2, decide_true, Bool.not_true, Bool.false_eq_true, if_false]
            have t2 := tail fun _ => h2
            revert t2
            trivial
            exact fun t2 => t2
          · simp only [h2, decide_false, Bool.not_false, if_true]
            try trivial
            exact no _ ⟨[], by simp⟩ (by unfold alike; rw [hmm, decide_eq_false h2]; simp)
      · simp only [h1, decide_false, Bool.not_false, if_true]
        try trivial
        exact no _ ⟨[], by simp⟩ (by unfold alike; rw [decide_eq_false h1]; simp)
theorem fits_d (n : Nat) {d : Nat} (k l : Kn) (F : Fil) (S : Store) (h : k.dep + 2 ≤ d) (hI : k.In 60) (hl : l.dep ≤ 80) (hF : FOk F) (hS : S[n]? = some (.dic (kvF F))) : okR (call fs d 19 [k.pv, l.pv, .loc n] S) (MT k l F n S) := by
  obtain ⟨e, rfl⟩ := Nat.exists_eq_add_of_le h
  have := fits_k n k.dep e k l F S (Nat.le_refl _) hI hl hF hS
  rwa [show e + k.dep + 2 = k.dep + 2 + e by omega] at this
end
end L2.PF.KB

set_option Elab.async false
set_option linter.all false
set_option maxRecDepth 100000
set_option maxHeartbeats 4000000
namespace L2.PF.KB
open PySem PySem.Spec PyProof.Rows
open L2.PF.Kn
theorem clear_d {S : Store} {n : Nat} {kvs : List (Key × PV)} (h : S[n]? = some (.dic kvs)) : mthV .clearD S (.loc n) [] = .ok .non (S.set n (.dic [])) := by
  simp only [mthV, h]
theorem is_non {S : Store} {v : PV} : cmpV .Is S v .non = some (decide (v = .non)) := rfl
theorem isnot_non {S : Store} {v : PV} : cmpV .IsNot S v .non = some (!decide (v = .non)) := rfl
section
local macro_rules | `(tactic| trivial) => `(tactic| simp only [startE, exs, ex, ev, evs, okS_then, okS_toS, okR_bind, okS_nx, okS_rt, okR_ok, okS_ite, okR_ite, List.length_cons, List.length_nil, List.map_cons, List.map_nil, List.replicate, List.cons_append, List.nil_append, List.getElem?_cons_zero, List.getElem?_cons_succ, put_n, put2, put3, List.set_cons_zero, List.set_cons_succ, okR_some, o_add, o_sub, o_mul, o_div, o_mod, o_pow, c_lt, c_le, c_gt, c_ge, c_eq, c_ne, PF.t_bl, map_some', decide_eq_true_eq, R.bind_ok, R.ofO_some, ifs0, ifs1, compR_f, wipeE, mk_f, mk_t, sz0, sz1, sz2, sz3, sz4, sz5, sz6, sz7, sz8, if_true, dic0, dic0v, dic1, len_str, len_fz, len_lv, len_tup, tup_lv, list_tup, max_i, min_i, okR_only, ix_tup, atI0, atI1, atI2, sl1, bound, Bool.false_eq_true, if_false, iter_tup, iter_lv, Bool.not_true, Bool.not_false, tmm, tnm, tom, tfm, trm, tnf, tof, tff, trf, tnr, tor, trr, tno, too, tfo, tro, tmo, tnn, tfn_, trn, tmn, ton, Kn.ix0, Kn.ixo, Kn.is_o, Kn.is_m, Kn.is_n, c_neq, is_non])
theorem right_k (N d : Nat) (k l : Kn) (S : Store) (hn : k.dep ≤ N) (hN : k.dep ≤ 80) (hI : k.In 60) (hl : l.dep ≤ 80) : okR (call fs (d + N + 5) 20 [k.pv, l.pv] S) fun u S' => S' = S ∧ u = .bl true := by
  refine okR_call (F := f20) rfl rfl ?_
  simp only [f20]
  trivial
  refine okR_mono (fits_d S.length k l [] (S ++ [.dic []]) (by omega) hI hl .nil get_last) fun u S1 ⟨G, hG, hS1, hu⟩ => ?_
  rw [set_last] at hS1
  subst hS1
  have hmt := matched_d (d := d + N + 4) k l (S ++ [.dic (kvF G)]) (by omega) hI hl
  rcases hu with ⟨rfl, hu⟩ | ⟨rfl, hu⟩
  · rw [hu] at hmt
    try trivial
    refine okR_mono hmt fun u S1 ⟨e1, e2, _⟩ => ?_
    subst e1 e2
    rw [two_app, show (S ++ [PO.dic (kvF G)]).length = S.length + 1 by simp]
    have g1 : (S ++ [PO.dic (kvF G), .dic (kvF G)])[S.length]? = some (.dic (kvF G)) := get_mid
    have g2 : (S ++ [PO.dic (kvF G), .dic (kvF G)])[S.length + 1]? = some (.dic (kvF G)) := get_mid2
    try trivial
    rw [show tyName (S ++ [PO.dic (kvF G), .dic (kvF G)]) (.loc (S.length + 1)) = some "dict" by simp only [tyName, g2]]
    try trivial
    rw [show (["dict"].any (isT "dict")) = true by decide]
    simp only [Bool.not_true, Bool.false_eq_true, if_false]
    rw [ne_dd g2 g1 hG]
    try trivial
    rw [okR_det (filled_d (T := fs) (iw := 0) (ix := 2) (ifl := 3) rfl rfl rfl (dg_loc g2) k (by omega))]
    try trivial
    rw [(mat_ok hu).2.2 _ fun i v h => h, Kn.c_ne (by omega)]
    simp only [decide_true, Bool.not_true]
    try trivial
    rw [sorted_d g2 hG]
    try trivial
    rw [okR_det (opens_d (T := fs) (iw := 0) (io := 1) rfl rfl (m := 60) (by decide) _ k (by omega) hI)]
    try trivial
    rw [sorted_t]
    try trivial
    have hk := (mat_ok hu).2.1
    rw [List.map_nil, uni_nil] at hk
    rw [hk, ne_ints]
    try trivial
    rw [if_pos (by simp only [mthIs, tyName, g2]; rfl), clear_d g2]
    try trivial
    have hset : (S ++ [PO.dic (kvF G), .dic (kvF G)]).set (S.length + 1) (.dic []) = S ++ [PO.dic (kvF G), .dic []] := by
      rw [List.set_append_right _ _ (by omega)]
      simp
    rw [hset]
    have hmt2 := matched_d (d := d + N + 4) k l (S ++ [PO.dic (kvF G), .dic []]) (by omega) hI hl
    rw [hu] at hmt2
    refine okR_mono hmt2 fun u S1 ⟨e1, e2, _⟩ => ?_
    subst e1 e2
    try trivial
    have g3 : ((S ++ [PO.dic (kvF G), .dic []]) ++ [PO.dic (kvF G)])[(S ++ [PO.dic (kvF G), .dic []]).length]? = some (.dic (kvF G)) := get_last
    have g4 : ((S ++ [PO.dic (kvF G), .dic []]) ++ [PO.dic (kvF G)])[S.length]? = some (.dic (kvF G)) := by
      rw [List.append_assoc]; exact get_mid
    rw [eq_dd g3 g4 hG]
    try trivial
    rw [List.append_assoc]
    exact done_app rfl ⟨rfl, rfl⟩
  · rw [hu] at hmt
    try trivial
    refine okR_mono hmt fun u S1 ⟨e1, e2⟩ => ?_
    subst e1 e2
    try trivial
    simp only [decide_true]
    exact done_app rfl ⟨rfl, rfl⟩
def FrW (b : Nat) (S S' : Store) : Prop := S.length ≤ S'.length ∧ ∀ j, j ≠ b → j < S.length → S'[j]? = S[j]?
theorem Fr.w {b : Nat} {S S' : Store} (h : Fr b S S') : FrW b S S' := ⟨by rw [h.1]; exact Nat.le_refl _, fun j hj _ => h.2 j hj⟩
theorem FrW.trans {b : Nat} {S S1 S2 : Store} (h : FrW b S S1) (k : FrW b S1 S2) : FrW b S S2 := ⟨Nat.le_trans h.1 k.1, fun j hj hl => (k.2 j hj (Nat.lt_of_lt_of_le hl h.1)).trans (h.2 j hj hl)⟩
theorem FrW.refl {b : Nat} {S : Store} : FrW b S S := ⟨Nat.le_refl _, fun _ _ _ => rfl⟩
theorem FrW.app {b : Nat} {S l : Store} : FrW b S (S ++ l) := ⟨by simp, fun j _ hl => List.getElem?_append_left hl⟩
theorem FrW.take {b : Nat} {S S' : Store} (h : FrW b S S') : FrW b S (S'.take S.length) := ⟨by rw [List.length_take]; have := h.1; omega, fun j hj hl => by rw [List.getElem?_take_of_lt hl]; exact h.2 j hj hl⟩
def FLWithX : Fn := FWith
theorem withl_k (d : Nat) (S : Store) (k : Kn) (hk : k.isO = false) (n : Nat) (cs : List PV) (hc : cs.length ≤ 2) (hS : S[n]? = some (.lst cs)) : okR (call fs (d + 1) 17 [k.pv, .loc n] S) fun u S' => S' = S ∧ u = wv k cs := by
  have e1 : ∀ t : PV, binV .Add S (.tup [t]) (.tup cs) = some (.tup ([t] ++ cs)) := fun t => tup_add (sl_ok (by simp only [List.length_cons, List.length_nil]; omega))
  have e2 := tup_loc hS
  refine okR_call (F := f17) rfl rfl ?_
  simp only [f17]
  cases k <;> simp only [Kn.pv] <;> first | (simp [isO] at hk; done) | (trivial; (try simp only [sl01]); (try trivial); rw [e2]; (try trivial); (try rw [e1]); (try trivial); exact done_len rfl ⟨rfl, rfl⟩)
theorem wv_set {k l : Kn} {j : Nat} (hj : j < k.kids.length) (hl : ∀ c, k.kids[j]? = some c → l.dep ≤ c.dep + 1) (hI : k.In 60) (hI2 : l.In 60) : ∃ z : Kn, wv k ((k.kids.map Kn.pv).set j l.pv) = z.pv ∧ z.dep ≤ k.dep + 1 ∧ z.In 60 := by
  cases k with
  | num => simp [Kn.kids] at hj
  | o i => simp [Kn.kids] at hj
  | m0 x => simp [Kn.kids] at hj
  | ref a =>
    simp [Kn.kids] at hj
    subst hj
    have := hl a rfl
    exact ⟨.ref l, rfl, by simp only [Kn.dep]; omega, hI2⟩
  | m1 x a =>
    simp [Kn.kids] at hj
    subst hj
    have := hl a rfl
    exact ⟨.m1 x l, rfl, by simp only [Kn.dep]; omega, hI2⟩
  | fn a b =>
    simp [Kn.kids] at hj
    match j, hj with
    | 0, _ =>
      have := hl a rfl
      exact ⟨.fn l b, rfl, by simp only [Kn.dep]; omega, fun i hi => by
        rcases mem_uni.mp hi with h | h
        · exact hI2 i h
        · exact hI i (mem_uni.mpr (.inr h))⟩
    | 1, _ =>
      have := hl b rfl
      exact ⟨.fn a l, rfl, by simp only [Kn.dep]; omega, fun i hi => by
        rcases mem_uni.mp hi with h | h
        · exact hI i (mem_uni.mpr (.inl h))
        · exact hI2 i h⟩
  | m2 x a b =>
    simp [Kn.kids] at hj
    match j, hj with
    | 0, _ =>
      have := hl a rfl
      exact ⟨.m2 x l b, rfl, by simp only [Kn.dep]; omega, fun i hi => by
        rcases mem_uni.mp hi with h | h
        · exact hI2 i h
        · exact hI i (mem_uni.mpr (.inr h))⟩
    | 1, _ =>
      have := hl b rfl
      exact ⟨.m2 x a l, rfl, by simp only [Kn.dep]; omega, fun i hi => by
        rcases mem_uni.mp hi with h | h
        · exact hI i (mem_uni.mpr (.inl h))
        · exact hI2 i h⟩
theorem kd_kn {m : Int} {n : Nat} {v : PV} (h : Kd m n v) (hm : m ≤ 60) : ∃ k : Kn, v = k.pv ∧ k.dep ≤ n ∧ k.In 60 := by
  obtain ⟨k, h1, h2, h3⟩ := h.kn
  exact ⟨k, h1, h2, fun i hi => by have := h3 i hi; omega⟩
theorem eq_l0 {S : Store} {n : Nat} {xs : List PV} (h : S[n]? = some (.lst xs)) : cmpV .Eq S (.loc n) (.lv []) = some xs.isEmpty := c_eq_o0 h
theorem spoilt_k (b : Nat) (names : List PV) (hN : ∀ v ∈ names, ∃ x, v = .str x ∧ Nm x) (hN0 : names ≠ []) (hNl : names.length ≤ 100) : ∀ (N d n : Nat) (k : Kn) (S : Store), k.dep ≤ N → k.In 60 → Bx b n S → n + 2 * N + 64 < 2 ^ 48 →
    okR (call fs (d + N + 6) 18 [.loc b, k.pv, .lv names] S) fun u S' => ∃ l : Kn, u = l.pv ∧ l.dep ≤ k.dep + 1 ∧ l.In 60 ∧ FrW b S S' ∧ Bx b (n + 2 * N + 64) S'
  | 0, d, n, k, S, hn, _, _, _ => absurd hn (by have := k.dep_pos; omega)
  | N + 1, d, n, k, S, hn, hI, hb, hc => by
    refine okR_call (F := f18) rfl rfl ?_
    simp only [f18]
    trivial
    have hbl := hb.lt
    refine okR_mono (lwithin_k (d + N + 5) S k) fun u S1 ⟨hS1, hu⟩ => ?_
    subst hS1 hu
    try trivial
    rw [eq_l0 get_last]
    try trivial
    have hb1 : Bx b n (S ++ [.lst (k.kids.map Kn.pv)]) := hb.ext
    have kd : ∀ (n' : Nat) (S' : Store), n' ≤ n + 1 → Bx b n' S' → FrW b S S' → okR (call fs (d + (N + 1) + 5) 14 [.loc b, .lv names, .int 5, .int 1] S') fun v S1 => okR (done false S v S1) fun u S' => ∃ l : Kn, u = l.pv ∧ l.dep ≤ k.dep + 1 ∧ l.In 60 ∧ FrW b S S' ∧ Bx b (n + 2 * (N + 1) + 64) S' := fun n' S' hn' hb' hf' => by
      have := knd_ok (T := fs) (im := 9) (it := 11) (ik := 14) rfl rfl rfl b names hN hN0 hNl 5 (by decide) (by decide) 1 (d + N + 2) n' S' hb' (by omega)
      refine okR_mono this fun v S1 ⟨hf, hb2, hk⟩ => ?_
      obtain ⟨l, rfl, hl, hlI⟩ := kd_kn hk (by decide)
      have hdp := k.dep_pos
      refine done_ok ⟨l, rfl, by omega, hlI, hf'.trans (Fr.w hf), hb2.up (by omega)⟩ fun _ => ⟨l, rfl, by omega, hlI, (hf'.trans (Fr.w hf)).take, (hb2.up (by omega)).take hbl⟩
    cases hks : k.kids with
    | nil =>
      simp only [List.map_nil, List.isEmpty_nil, if_true]
      rw [hks] at hb1
      exact kd n _ (by omega) hb1 .app
    | cons c0 cr =>
      have hlen0 : 0 < k.kids.length := by rw [hks]; simp
      rw [← hks]
      have : (k.kids.map Kn.pv).isEmpty = false := by rw [hks]; rfl
      rw [this]
      try trivial
      refine okR_mono (take_ok (T := fs) (im := 9) (it := 11) rfl rfl (d + N + 4) _ b n 3 hb1 (by omega) (by decide) (by decide)) fun v S1 ⟨hf1, hb2, r, hv, hr, hr2⟩ => ?_
      subst hv
      try trivial
      by_cases hr0 : r = 0
      · simp only [hr0, decide_true, if_true]
        exact kd _ _ (by omega) hb2 (FrW.app.trans (Fr.w hf1))
      · simp only [hr0, decide_false, Bool.false_eq_true, if_false]
        have g1 : S1[S.length]? = some (.lst (k.kids.map Kn.pv)) := by rw [hf1.2 _ (by omega)]; exact get_last
        rw [len_loc g1]
        try trivial
        rw [List.length_map]
        have hk2 := k.kids_len
        refine okR_mono (take_ok (T := fs) (im := 9) (it := 11) rfl rfl (d + N + 4) _ b _ (k.kids.length : Int) hb2 (by omega) (by omega) (by omega)) fun v S2 ⟨hf2, hb3, j, hv, hj, hj2⟩ => ?_
        subst hv
        try trivial
        have g2 : S2[S.length]? = some (.lst (k.kids.map Kn.pv)) := by rw [hf2.2 _ (by omega)]; exact g1
        obtain ⟨jn, rfl⟩ := Int.eq_ofNat_of_zero_le hj
        have hjl : jn < k.kids.length := by omega
        have hj3 : ixN (k.kids.map Kn.pv).length (jn : Int) = some jn := by
          unfold ixN
          rw [if_pos (by omega), if_pos (by rw [List.length_map]; omega)]
          rfl
        rw [ix_l g2]
        have hat : atI (k.kids.map Kn.pv) (jn : Int) = some (k.kids[jn]).pv := by
          unfold atI
          rw [hj3]
          simp [hjl]
        rw [hat]
        try trivial
        have hcm : k.kids[jn] ∈ k.kids := List.getElem_mem hjl
        have hcd := kids_dep hcm
        rw [show d + (N + 1) + 5 = d + N + 6 by omega]
        refine okR_mono (spoilt_k b names hN hN0 hNl N d _ (k.kids[jn]) S2 (by omega) (hI.kids hcm) hb3 (by omega)) fun u S3 ⟨l, hu, hl, hlI, hf3, hb4⟩ => ?_
        subst hu
        have hSl : S2.length = S.length + 1 := by rw [hf2.1, hf1.1]; simp
        have g3 : S3[S.length]? = some (.lst (k.kids.map Kn.pv)) := by rw [hf3.2 _ (by omega) (by omega)]; exact g2
        rw [set_l g3 hj3]
        try trivial
        have ho : k.isO = false := by cases k <;> first | rfl | (simp [Kn.kids] at hlen0; done)
        have g4 : (S3.set S.length (.lst ((k.kids.map Kn.pv).set jn l.pv)))[S.length]? = some (.lst ((k.kids.map Kn.pv).set jn l.pv)) := get_set g3
        rw [show d + N + 6 = d + N + 5 + 1 by omega]
        refine okR_mono (withl_k (d + N + 5) _ k ho S.length _ (by rw [List.length_set, List.length_map]; exact hk2) g4) fun u S4 ⟨hS4, hu⟩ => ?_
        subst hS4 hu
        try trivial
        obtain ⟨z, hz, hzd, hzI⟩ := wv_set (l := l) hjl (fun c hc => by
          have : k.kids[jn] = c := (List.getElem?_eq_some_iff.mp hc).2
          rw [← this]; exact hl) hI hlI
        rw [hz]
        have hfw : FrW b S (S3.set S.length (.lst ((k.kids.map Kn.pv).set jn l.pv))) := by
          have h0 := ((FrW.app (b := b) (l := [.lst (k.kids.map Kn.pv)])).trans (Fr.w hf1)).trans ((Fr.w hf2).trans hf3)
          refine ⟨by rw [List.length_set]; exact h0.1, fun j hj hl => ?_⟩
          rw [List.getElem?_set_ne (by omega)]
          exact h0.2 j hj hl
        have hbx : Bx b (n + 2 * (N + 1) + 64) (S3.set S.length (.lst ((k.kids.map Kn.pv).set jn l.pv))) := by
          obtain ⟨x0, x1, x2, r, h1, h2⟩ := hb4.up (show n + 1 + 1 + 2 * N + 64 ≤ n + 2 * (N + 1) + 64 by omega)
          exact ⟨x0, x1, x2, r, by rw [List.getElem?_set_ne (by omega)]; exact h1, h2⟩
        exact done_ok ⟨z, rfl, hzd, hzI, hfw, hbx⟩ fun _ => ⟨z, rfl, hzd, hzI, hfw.take, hbx.take hbl⟩
end
end L2.PF.KB

set_option Elab.async false
set_option linter.all false
set_option maxRecDepth 100000
set_option maxHeartbeats 4000000
namespace L2.PF.KB
open PySem PySem.Spec PyProof.Rows
open L2.PF.Kn
theorem fill_dep {f : Int → Option Kn} {m : Nat} (h : ∀ i v, f i = some v → v.dep ≤ m) : ∀ k : Kn, (k.fill f).dep ≤ k.dep + m
  | num => by simp only [Kn.fill, Kn.dep]; omega
  | o i => by
    simp only [Kn.fill]
    cases e : f i with
    | none => simp only [Option.getD_none, Kn.dep]; omega
    | some v => simp only [Option.getD_some, Kn.dep]; have := h i v e; omega
  | ref a => by have := fill_dep h a; simp only [Kn.fill, Kn.dep]; omega
  | fn a b => by have := fill_dep h a; have := fill_dep h b; simp only [Kn.fill, Kn.dep]; omega
  | m0 x => by simp only [Kn.fill, Kn.dep]; omega
  | m1 x a => by have := fill_dep h a; simp only [Kn.fill, Kn.dep]; omega
  | m2 x a b => by have := fill_dep h a; have := fill_dep h b; simp only [Kn.fill, Kn.dep]; omega
theorem fill_in {f : Int → Option Kn} {m : Nat} (h : ∀ i v, f i = some v → v.In m) : ∀ {k : Kn}, k.In m → (k.fill f).In m
  | num, hk => hk
  | o i, hk => by
    simp only [Kn.fill]
    cases e : f i with
    | none => exact hk
    | some v => exact h i v e
  | ref a, hk => fill_in h (k := a) hk
  | fn a b, hk => fun i hi => by
    rcases mem_uni.mp hi with z | z
    · exact fill_in h (k := a) (fun j hj => hk j (mem_uni.mpr (.inl hj))) i z
    · exact fill_in h (k := b) (fun j hj => hk j (mem_uni.mpr (.inr hj))) i z
  | m0 x, hk => hk
  | m1 x a, hk => fill_in h (k := a) hk
  | m2 x a b, hk => fun i hi => by
    rcases mem_uni.mp hi with z | z
    · exact fill_in h (k := a) (fun j hj => hk j (mem_uni.mpr (.inl hj))) i z
    · exact fill_in h (k := b) (fun j hj => hk j (mem_uni.mpr (.inr hj))) i z
theorem num_dep {L : List Int} (i : Int) (v : Kn) (h : List.lookup i (numL L) = some v) : v.dep ≤ 1 := by
  rw [num_look] at h
  cases e : L.idxOf? i with
  | none => rw [e] at h; cases h
  | some j => rw [e] at h; cases h; exact Nat.le_refl _
theorem c_ne_bl {S : Store} {a b : Bool} : cmpV .NotEq S (.bl a) (.bl b) = some (!(a == b)) := by
  show (eqX S (.bl a) (.bl b)).map (!·) = _
  have : eqX S (.bl a) (.bl b) = eqD S (.bl a) (.bl b) := rfl
  rw [this, eqD_flat rfl rfl]
  rfl
theorem exs_app {cf : Nat → List PV → Store → R PV} : ∀ (a b : List Sm) (e : Env) (S : Store), exs cf (a ++ b) e S = (exs cf a e S).then fun e S => exs cf b e S
  | [], b, e, S => rfl
  | s :: a, b, e, S => by
    rw [List.cons_append, exs, exs]
    cases ex cf s e S with
    | nx e1 S1 => rw [SR.then_nx, SR.then_nx]; exact exs_app a b e1 S1
    | _ => rfl
def lbody : List Sm := match f21.body with | .forS _ _ _ b :: _ => b | _ => []
def EnvL (fz : PV) (e : Env) : Prop := ∃ o1 o2 o3 o4 o5 o6 o7 o8 o9 o10 o11 o12 o13, e = [some fz, o1, o2, o3, o4, o5, o6, o7, o8, o9, o10, o11, o12, o13]
/-- a kind of the law -/
def KOk (m : Nat) (k : Kn) : Prop := k.dep ≤ m ∧ k.In 60
theorem kd_ok {m : Int} {n j : Nat} {v : PV} (h : Kd m n v) (hm : m ≤ 60) (hj : n ≤ j) : ∃ k : Kn, v = k.pv ∧ KOk j k := by
  obtain ⟨k, h1, h2, h3⟩ := kd_kn h hm
  exact ⟨k, h1, by omega, h3⟩
section
local macro_rules | `(tactic| trivial) => `(tactic| simp only [startE, exs, ex, ev, evs, okS_then, okS_toS, okR_bind, okS_nx, okS_rt, okR_ok, okS_ite, okR_ite, List.length_cons, List.length_nil, List.map_cons, List.map_nil, List.replicate, List.cons_append, List.nil_append, List.getElem?_cons_zero, List.getElem?_cons_succ, put_n, put2, put3, List.set_cons_zero, List.set_cons_succ, okR_some, o_add, o_sub, o_mul, o_div, o_mod, o_pow, c_lt, c_le, c_gt, c_ge, c_eq, c_ne, PF.t_bl, map_some', decide_eq_true_eq, R.bind_ok, R.ofO_some, ifs0, ifs1, compR_f, wipeE, mk_f, mk_t, sz0, sz1, sz2, sz3, sz4, sz5, sz6, sz7, sz8, if_true, dic0, dic0v, dic1, len_str, len_fz, len_lv, len_tup, tup_lv, list_tup, max_i, min_i, okR_only, ix_tup, atI0, atI1, atI2, sl1, bound, Bool.false_eq_true, if_false, iter_tup, iter_lv, Bool.not_true, Bool.not_false, tmm, tnm, tom, tfm, trm, tnf, tof, tff, trf, tnr, tor, trr, tno, too, tfo, tro, tmo, tnn, tfn_, trn, tmn, ton, Kn.ix0, Kn.ixo, Kn.is_o, Kn.is_m, Kn.is_n, c_neq, isnot_non, c_ne_bl])
/-- a kind is drawn -/
theorem head_ok (ns : List Int) (k : Int) (hk : 0 ≤ k) (hk2 : k < 1000) (o2 o3 o4 o5 o6 o7 o8 o9 o10 o11 o12 o13 : Option PV) (S : Store) (D : En) :
    okS (exs (call fs 199) (lbody.take 4) [some (.fz (ns.map PV.int)), some (.int k), o2, o3, o4, o5, o6, o7, o8, o9, o10, o11, o12, o13] S)
      { nx := fun e S' => ∃ b n names kk o12 o13, e = [some (.fz (ns.map PV.int)), some (.int k), some (.loc b), some (.lv names), some (Kn.pv kk), o5, o6, o7, o8, o9, o10, o11, o12, o13] ∧ Bx b n S' ∧ n < 2 ^ 40 ∧ KOk 45 kk ∧
        (∀ v ∈ names, ∃ x, v = .str x ∧ Nm x) ∧ names.length = 3, rt := D.rt } := by
  simp only [f21, lbody, List.take]
  trivial
  refine okR_mono (box3_ok (T := fs) (ic := 8) (ib := 10) rfl rfl 197 S ns k hk (by omega)) fun u S1 ⟨e1, ⟨ob, e2⟩, hb1⟩ => ?_
  subst e1
  try trivial
  rw [iter_rng (by decide) (by decide)]
  try trivial
  refine compL_ok (fun (i : Nat) (a : List PV) (S' : Store) => Bx S.length (15 * i) S' ∧ a.length = i ∧ ∀ v ∈ a, ∃ x, v = .str x ∧ Nm x) ⟨hb1, rfl, fun v h => by cases h⟩ (fun _ _ _ _ _ => rfl) ?_ ?_
  · rintro i x a S2 hx ⟨hb2, ha, hall⟩
    obtain ⟨rfl, hi⟩ := intRow_at hx
    have hi : i < 3 := hi
    try trivial
    refine okR_mono (name_ok (T := fs) (im := 9) (it := 11) (iw := 12) (iN := 13) rfl rfl rfl rfl 195 S2 S.length (15 * i) hb2 (by omega)) fun v S3 ⟨hf, hb3, x, hv, hx⟩ => ?_
    refine ⟨by rw [Nat.mul_add]; exact hb3, by simp [ha], fun k hk => ?_⟩
    rcases List.mem_append.mp hk with h | h
    · exact hall k h
    · rw [List.mem_singleton.mp h]; exact ⟨x, hv, hx⟩
  · rintro a S2 ⟨hb2, ha, hall⟩
    rw [intRow_length] at ha hb2
    have ha : a.length = 3 := ha
    have hb2 : Bx S.length 45 S2 := hb2
    try trivial
    refine okR_mono (knd_ok (T := fs) (im := 9) (it := 11) (ik := 14) rfl rfl rfl S.length a hall (fun z => by rw [z] at ha; cases ha) (by omega) 5 (by decide) (by decide) 4 192 45 S2 hb2 (by decide)) fun v S4 ⟨hf4, hb4, hkd⟩ => ?_
    try trivial
    refine okR_mono (take_ok (T := fs) (im := 9) (it := 11) rfl rfl 197 S4 S.length _ 8 hb4 (by decide) (by decide) (by decide)) fun w S5 ⟨hf5, hb5, r5, hw, h50, h51⟩ => ?_
    subst hw
    try trivial
    by_cases h5 : r5 = 0
    · simp only [h5, decide_true, if_true]
      match a, ha, hall with
      | a0 :: ar, ha, hall =>
        obtain ⟨x0, rfl, hx0⟩ := hall a0 List.mem_cons_self
        refine okR_mono (deep_ks (T := fs) (im := 9) (it := 11) (idp := 15) (cnt := 42) rfl rfl rfl (by decide) (by decide) S.length x0 ar hx0 4 (by decide) (by decide) 196 _ S5 hb5 (by decide)) fun v S6 ⟨hf6, hb6, k1, k2⟩ => ?_
        obtain ⟨kk, rfl, hkk⟩ := kd_ok (j := 45) k1 (by decide) (by decide)
        exact ⟨_, _, _, _, _, _, rfl, hb6, by decide, hkk, hall, ha⟩
    · simp only [h5, decide_false, Bool.false_eq_true, if_false]
      obtain ⟨kk, rfl, hkk⟩ := kd_ok (j := 45) hkd (by decide) (by decide)
      exact ⟨_, _, _, _, _, _, rfl, hb5, by decide, hkk, hall, ha⟩
/-- it is filled, spoilt; any one -/
theorem mid_ok (fz k : PV) (b n : Nat) (names : List PV) (kk : Kn) (o5 o6 o7 o8 o9 o10 o11 o12 o13 : Option PV) (S : Store) (hb : Bx b n S) (hn : n < 2 ^ 40) (hk : KOk 45 kk) (hN : ∀ v ∈ names, ∃ x, v = .str x ∧ Nm x) (hl : names.length = 3) (D : En) :
    okS (exs (call fs 199) ((lbody.drop 4).take 5) [some fz, some k, some (.loc b), some (.lv names), some kk.pv, o5, o6, o7, o8, o9, o10, o11, o12, o13] S)
      { nx := fun e S' => ∃ (q : Nat) (F : Fil) (oth sp an : Kn) (o6 : Option PV), e = [some fz, some k, some (.loc b), some (.lv names), some kk.pv, some (.loc q), o6, some oth.pv, some sp.pv, some an.pv, o10, o11, o12, o13] ∧
        S'[q]? = some (.dic (kvF F)) ∧ FOk F ∧ mat kk oth [] = some F ∧ KOk 60 oth ∧ KOk 60 sp ∧ KOk 60 an, rt := D.rt } := by
  simp only [f21, lbody, List.take, List.drop]
  trivial
  have hbl := hb.lt
  have hN0 : names ≠ [] := fun z => by rw [z] at hl; cases hl
  rw [okR_det (opens_d (T := fs) (iw := 0) (io := 1) rfl rfl (m := 60) (by decide) _ kk (by have := hk.1; omega) hk.2)]
  try trivial
  refine forL_ok (fun (i : Nat) (e : Env) (S' : Store) => ∃ (F : Fil) (o6 : Option PV), e = [some fz, some k, some (.loc b), some (.lv names), some kk.pv, some (.loc S.length), o6, o7, o8, o9, o10, o11, o12, o13] ∧
      S'[S.length]? = some (.dic (kvF F)) ∧ F.map (·.1) = kk.opens.take i ∧ (∀ p ∈ F, KOk 3 p.2) ∧ Bx b (n + i * 512) S')
    ⟨[], _, rfl, get_last, by simp, (fun p h => by cases h), hb.ext.up (by omega)⟩ (fun _ _ _ _ _ => rfl) ?_ ?_
  · rintro i x e S1 hx ⟨F, o6, rfl, hS1, hF, hFk, hb1⟩
    rw [List.getElem?_map] at hx
    cases hz : kk.opens[i]? with
    | none => rw [hz] at hx; cases hx
    | some z =>
      rw [hz] at hx
      cases hx
      have hil : i < kk.opens.length := (List.getElem?_eq_some_iff.mp hz).1
      have hi60 : kk.opens.length ≤ 60 := hk.2.len
      have hFl : F.length ≤ 60 := by have := congrArg List.length hF; rw [List.length_map, List.length_take] at this; omega
      try trivial
      refine okR_mono (knd_ok (T := fs) (im := 9) (it := 11) (ik := 14) rfl rfl rfl b names hN hN0 (by omega) 5 (by decide) (by decide) 2 194 _ S1 hb1 (by have : i * 512 ≤ 60 * 512 := Nat.mul_le_mul_right _ (by omega); omega)) fun v S2 ⟨hf2, hb2, hkd⟩ => ?_
      obtain ⟨w, rfl, hw⟩ := kd_ok (j := 3) hkd (by decide) (by decide)
      have hS2 : S2[S.length]? = some (.dic (kvF F)) := by rw [hf2.2 _ (by omega)]; exact hS1
      have hnone : F.lookup z = none := lookup_none.mpr (by
        rw [hF]
        intro h
        obtain ⟨j, hj, e⟩ := List.mem_take_iff_getElem.mp h
        have hk : kk.opens[i]'hil = z := (List.getElem?_eq_some_iff.mp hz).2
        have := (opens_nodup kk)
        rw [List.nodup_iff_pairwise_ne] at this
        exact List.pairwise_iff_getElem.mp this j i _ hil (by omega) (by rw [e, hk]))
      try trivial
      rw [dic_set hS2 hnone (by omega)]
      try trivial
      refine ⟨F ++ [(z, w)], _, rfl, get_set hS2, ?_, ?_, ?_⟩
      · rw [List.map_append, hF, List.take_add_one, hz]; rfl
      · intro p hp
        rcases List.mem_append.mp hp with h | h
        · exact hFk p h
        · rw [List.mem_singleton.mp h]; exact hw
      · obtain ⟨x0, x1, x2, r, h1, h2⟩ := hb2.up (show n + i * 512 + 8 ^ (2 + 1) ≤ n + (i + 1) * 512 by rw [Nat.add_mul]; omega)
        exact ⟨x0, x1, x2, r, by rw [List.getElem?_set_ne (by omega)]; exact h1, h2⟩
  · rintro e S1 ⟨F, o6, rfl, hS1, hF, hFk, hb1⟩
    rw [List.length_map] at hF hb1
    rw [List.take_length] at hF
    have hi60 : kk.opens.length ≤ 60 := hk.2.len
    have hb1 : Bx b (n + 60 * 512) S1 := hb1.up (by have : kk.opens.length * 512 ≤ 60 * 512 := Nat.mul_le_mul_right _ hi60; omega)
    have hFk2 : FOk F := ⟨by rw [hF]; exact opens_nodup kk, fun p hp => by
      have h1 := hk.2 p.1 (by rw [← hF]; exact List.mem_map.mpr ⟨p, hp, rfl⟩)
      have h2 := (hFk p hp).1
      exact ⟨h1.1, h1.2, by omega⟩⟩
    try trivial
    rw [okR_det (filled_d (T := fs) (iw := 0) (ix := 2) (ifl := 3) rfl rfl rfl (dg_loc hS1) kk (by have := hk.1; omega))]
    try trivial
    have hoth : KOk 48 (kk.fill (List.lookup · F)) := ⟨by
      have := fill_dep (f := (List.lookup · F)) (m := 3) (fun i v h => (hFk _ (lookup_mem h)).1) kk
      have := hk.1
      omega, fill_in (fun i v h => (hFk _ (lookup_mem h)).2) hk.2⟩
    have hsp := spoilt_k b names hN hN0 (by omega) 48 145 _ _ S1 hoth.1 hoth.2 hb1 (by omega)
    refine okR_mono hsp fun u S2 ⟨l, hu, hl1, hl2, hfw, hb2⟩ => ?_
    subst hu
    try trivial
    refine okR_mono (knd_ok (T := fs) (im := 9) (it := 11) (ik := 14) rfl rfl rfl b names hN hN0 (by omega) 5 (by decide) (by decide) 4 192 _ S2 hb2 (by omega)) fun v S3 ⟨hf3, hb3, hkd⟩ => ?_
    obtain ⟨w, rfl, hw⟩ := kd_ok (j := 60) hkd (by decide) (by decide)
    try trivial
    have hlen1 : S.length < S1.length := (List.getElem?_eq_some_iff.mp hS1).1
    refine ⟨_, F, _, _, _, _, rfl, ?_, hFk2, mat_same hF, ⟨by have := hoth.1; omega, hoth.2⟩, ⟨by have := hoth.1; omega, hl2⟩, hw⟩
    rw [hf3.2 _ (by omega), hfw.2 _ (by omega) hlen1]
    exact hS1
theorem right_d {d : Nat} (k l : Kn) (S : Store) (hd : k.dep + 5 ≤ d) (hk : KOk 80 k) (hl : KOk 80 l) : okR (call fs d 20 [k.pv, l.pv] S) fun u S' => S' = S ∧ u = .bl true := by
  obtain ⟨e, rfl⟩ := Nat.exists_eq_add_of_le hd
  have := right_k k.dep e k l S (Nat.le_refl _) hk.1 hk.2 hl.1
  rwa [show e + k.dep + 5 = k.dep + 5 + e by omega] at this
theorem KOk.up {m n : Nat} {k : Kn} (h : KOk m k) (hn : m ≤ n) : KOk n k := ⟨Nat.le_trans h.1 hn, h.2⟩
theorem numbs {d : Nat} (k : Kn) (S : Store) (hd : k.dep + 2 ≤ d) (hk : KOk 80 k) : okR (call fs d 7 [k.pv] S) fun u S' => S' = S ∧ u = k.numd.pv := numbered_d (T := fs) (iw := 0) (ix := 2) (io := 1) (ifl := 3) (inu := 7) rfl rfl rfl rfl rfl (m := 60) (by decide) S k hd hk.2
theorem tail_ok (fz k b names : PV) (kk oth sp an : Kn) (q : Nat) (F : Fil) (o6 o10 o11 o12 o13 : Option PV) (S : Store) (hS : S[q]? = some (.dic (kvF F))) (hF : FOk F) (hm : mat kk oth [] = some F) (hk : KOk 60 kk) (h1 : KOk 60 oth) (h2 : KOk 60 sp) (h3 : KOk 60 an) (D : En) :
    okS (exs (call fs 199) (lbody.drop 9) [some fz, some k, some b, some names, some kk.pv, some (.loc q), o6, some oth.pv, some sp.pv, some an.pv, o10, o11, o12, o13] S)
      { nx := fun e S' => EnvL fz e, rt := D.rt } := by
  simp only [f21, lbody, List.drop]
  trivial
  have hmt := matched_d (d := 199) kk oth S (by have := hk.1; omega) hk.2 (by have := h1.1; omega)
  rw [hm] at hmt
  refine okR_mono hmt fun u S1 ⟨e1, e2, _⟩ => ?_
  subst e1 e2
  have hq := (List.getElem?_eq_some_iff.mp hS).1
  rw [ne_dd get_last (by rw [List.getElem?_append_left hq]; exact hS) hF]
  try trivial
  rw [okR_det (right_d (d := 199) kk sp _ (by have := hk.1; omega) (hk.up (by omega)) (h2.up (by omega)))]
  try trivial
  rw [okR_det (right_d (d := 199) sp kk _ (by have := h2.1; omega) (h2.up (by omega)) (hk.up (by omega)))]
  try trivial
  generalize (S ++ [PO.dic (kvF F)]) = S0
  refine forL_ok (fun (i : Nat) (e : Env) (S' : Store) => ∃ o10 o11, e = [some fz, some k, some b, some names, some kk.pv, some (.loc q), o6, some oth.pv, some sp.pv, some an.pv, o10, o11, o12, o13])
    ⟨_, _, rfl⟩ (fun _ _ _ _ _ => rfl) ?_ ?_
  · rintro i x e S1 hx ⟨o10, o11, rfl⟩
    have : ∃ l, x = Kn.pv l ∧ KOk 60 l := by
      have := List.mem_of_getElem? hx
      simp only [List.mem_cons, List.not_mem_nil, or_false] at this
      rcases this with e | e | e
      · exact ⟨_, e, h3⟩
      · exact ⟨_, e, h1⟩
      · exact ⟨_, e, h2⟩
    obtain ⟨l, rfl, hl⟩ := this
    try trivial
    rw [okR_det (right_d (d := 199) kk l _ (by have := hk.1; omega) (hk.up (by omega)) (hl.up (by omega)))]
    try trivial
    rw [okR_det (right_d (d := 199) l kk _ (by have := hl.1; omega) (hl.up (by omega)) (hk.up (by omega)))]
    try trivial
    have m1 : okR (call fs 199 6 [kk.pv, l.pv] S1) fun u S' => (decide (u = .non)) = !(mat kk l []).isSome := by
      refine okR_mono (matched_d (d := 199) kk l S1 (by have := hk.1; omega) hk.2 (by have := hl.1; omega)) fun u S' h => ?_
      cases e : mat kk l [] with
      | none => rw [e] at h; rw [h.1]; rfl
      | some G => rw [e] at h; rw [h.1]; rfl
    have m2 : ∀ S1, okR (call fs 199 6 [l.pv, kk.pv] S1) fun u S' => (decide (u = .non)) = !(mat l kk []).isSome := fun S1 => by
      refine okR_mono (matched_d (d := 199) l kk S1 (by have := hl.1; omega) hl.2 (by have := hk.1; omega)) fun u S' h => ?_
      cases e : mat l kk [] with
      | none => rw [e] at h; rw [h.1]; rfl
      | some G => rw [e] at h; rw [h.1]; rfl
    have fin : ∀ (S' : Store), okR (call fs 199 7 [kk.pv] S') (fun a S_1 => okR (call fs 199 7 [l.pv] S_1) fun a_1 S_2 => okR (R.ofO (Option.map PV.bl (cmpV .Eq S_2 a a_1)) S_2) fun v S' => v = .bl (decide (kk.numd = l.numd))) := fun S' => by
      rw [okR_det (numbs kk S' (by have := hk.1; omega) (hk.up (by omega)))]
      try trivial
      rw [okR_det (numbs l S' (by have := hl.1; omega) (hl.up (by omega)))]
      try trivial
      have := fill_dep (m := 1) (num_dep (L := kk.opens)) kk
      have h60 := hk.1
      rw [Kn.c_eq (k := kk.numd) (by unfold numd; omega)]
      try trivial
    have hb := both_iff (k := kk) (l := l)
    have last : ∀ (c : Bool) (S' : Store) (Q : PV → Store → Prop), c = ((mat kk l []).isSome && (mat l kk []).isSome) → (∀ S, Q (.bl false) S) → okR (call fs 199 7 [kk.pv] S') fun a S_1 => okR (call fs 199 7 [l.pv] S_1) fun a_1 S_2 => okR (R.ofO (Option.map PV.bl (cmpV .Eq S_2 a a_1)) S_2) fun a S_3 =>
        okR (R.ofO (Option.map PV.bl (cmpV .NotEq S_3 (.bl c) a)) S_3) Q := fun c S' Q hc hQ => by
      refine okR_mono (fin S') fun a S1 h => okR_mono h fun a S2 h => okR_mono h fun a S3 h => ?_
      subst h
      try trivial
      have : c = decide (kk.numd = l.numd) := by
        rw [hc, Bool.eq_iff_iff, Bool.and_eq_true, hb, decide_eq_true_eq]
      rw [this]
      simp only [beq_self_eq_true, Bool.not_true]
      exact hQ _
    refine okR_mono m1 fun u S2 hu => ?_
    rw [hu, Bool.not_not]
    cases e1 : (mat kk l []).isSome with
    | false =>
      simp only [Bool.false_eq_true, if_false]
      refine last false S2 _ (by rw [e1]; rfl) fun S => ?_
      try trivial
      exact ⟨_, _, rfl⟩
    | true =>
      simp only [if_true]
      refine okR_mono (m2 S2) fun u S3 hu => ?_
      rw [hu, Bool.not_not]
      refine last _ S3 _ (by rw [e1]; rfl) fun S => ?_
      try trivial
      exact ⟨_, _, rfl⟩
  · rintro e S1 ⟨o10, o11, rfl⟩
    try trivial
    exact ⟨_, _, _, _, _, _, _, _, _, _, _, _, _, rfl⟩
theorem law_true : ∀ ns : List Int, ns.length ≤ 63 → ∃ S, call fs 200 21 [.fz (ns.map PV.int)] [] = .ok (.bl true) S := by
  intro ns hn
  have : okR (call fs (199 + 1) 21 [.fz (ns.map PV.int)] []) fun v _ => v = .bl true := by
    refine okR_call (F := f21) rfl rfl ?_
    rw [show f21.body = [.forS (.n 1) .rng1 [(.blt .max2 [(.c (.int 3)), (.blt .min2 [(.c (.int 20)), (.blt .len [(.v 0)])])])] lbody, (.ret (.c (.bl true)))] from rfl]
    rw [show f21.nN = 14 from rfl, show f21.frz = false from rfl]
    trivial
    rw [List.length_map]
    have hm : ∃ j : Int, (if (if (ns.length : Int) < 20 then (ns.length : Int) else 20) > 3 then (if (ns.length : Int) < 20 then (ns.length : Int) else 20) else 3) = j ∧ 0 ≤ j ∧ j ≤ 40 := ⟨_, rfl, by split <;> split <;> omega, by split <;> split <;> omega⟩
    obtain ⟨j, e, j0, j1⟩ := hm
    rw [e, iter_rng j0 (by omega)]
    try trivial
    refine forL_ok (fun (i : Nat) (e : Env) (_ : Store) => EnvL (.fz (ns.map PV.int)) e) ⟨_, _, _, _, _, _, _, _, _, _, _, _, _, rfl⟩ (fun _ _ _ _ _ => rfl) ?_ ?_
    · rintro i x e S hx ⟨o1, o2, o3, o4, o5, o6, o7, o8, o9, o10, o11, o12, o13, rfl⟩
      obtain ⟨rfl, hi⟩ := intRow_at hx
      try trivial
      rw [show lbody = lbody.take 4 ++ ((lbody.drop 4).take 5 ++ lbody.drop 9) from rfl, exs_app, okS_then]
      refine okS_mono (head_ok ns (0 + (i : Int)) (by omega) (by omega) o2 o3 o4 o5 o6 o7 o8 o9 o10 o11 o12 o13 S ⟨fun _ _ => False, fun _ _ => False, fun _ _ => False, fun _ _ => False⟩) ?_ (fun _ _ z => z.elim) (fun _ _ z => z.elim) (fun _ _ z => z.elim)
      rintro e S1 ⟨b, n, names, kk, o12, o13, rfl, hb, hn, hk, hN, hl⟩
      dsimp only
      rw [exs_app, okS_then]
      refine okS_mono (mid_ok _ _ b n names kk o5 o6 o7 o8 o9 o10 o11 o12 o13 S1 hb hn hk hN hl ⟨fun _ _ => False, fun _ _ => False, fun _ _ => False, fun _ _ => False⟩) ?_ (fun _ _ z => z.elim) (fun _ _ z => z.elim) (fun _ _ z => z.elim)
      rintro e S2 ⟨q, F, oth, sp, an, o6, rfl, hq, hF, hm, h1, h2, h3⟩
      dsimp only
      refine okS_mono (tail_ok _ _ _ _ kk oth sp an q F o6 o10 o11 o12 o13 S2 hq hF hm (hk.up (by omega)) h1 h2 h3 ⟨fun _ _ => False, fun _ _ => False, fun _ _ => False, fun _ _ => False⟩) ?_ (fun _ _ z => z.elim) (fun _ _ z => z.elim) (fun _ _ z => z.elim)
      intro e S3 h
      exact h
    · rintro e S ⟨o1, o2, o3, o4, o5, o6, o7, o8, o9, o10, o11, o12, o13, rfl⟩
      try trivial
      exact done_ok rfl fun _ => rfl
  obtain ⟨v, S, h1, h2⟩ := okR_eq this
  exact ⟨S, by rw [h1, h2]⟩
end
end L2.PF.KB

open PySem PySem.W PyProof.Rows
set_option maxHeartbeats 0 in
theorem PySem.Challenge.cw_kindbooks_k13_whole_kinds_matched_holds : PySem.Challenge.rw_kindbooks_k13_whole_kinds_matched.Holds :=
  by
  w_on; o_law; k_head; (case hw => w_witness2)
  k_fill
  refine L2.PF.law_end (l := PySem.Challenge.rw_kindbooks_k13_whole_kinds_matched) (n := 63) (k := 200) (f := 21) (x := L2.PF.S "_law_script") (B := L2.PF.KB.tb) (T := L2.PF.KB.fs) L2.PF.XR0 rfl (by decide) rfl ⟨rfl, by decide, by decide⟩ (fun w h Y => PySem.W.kIn_of Y) ?pfM L2.PF.KB.law_true
  intro w mg h KX G
  refine ⟨⟨?pfF, ?pfV, ?pfU⟩, ?pfL⟩
  case pfF =>
    refine L2.PF.fns_cons (L2.PF.defAt_mk (st := L2.PF.KB.topS 1) KX G (by k_is) (by k_is) (by k_is) (by k_is) L2.PF.KB.s0 L2.PF.KB.t0 rfl rfl (fun _ _ _ _ _ _ us hl => match us, hl with | [_], _ => rfl)) ?_
    refine L2.PF.fns_cons (L2.PF.defAt_mk (st := L2.PF.KB.topS 2) KX G (by k_is) (by k_is) (by k_is) (by k_is) L2.PF.KB.s1 L2.PF.KB.t1 rfl rfl (fun _ _ _ _ _ _ us hl => match us, hl with | [_], _ => rfl)) ?_
    refine L2.PF.fns_cons (L2.PF.defAt_mk (st := L2.PF.KB.topS 3) KX G (by k_is) (by k_is) (by k_is) (by k_is) L2.PF.KB.s2 L2.PF.KB.t2 rfl rfl (fun _ _ _ _ _ _ us hl => match us, hl with | [_, _], _ => rfl)) ?_
    refine L2.PF.fns_cons (L2.PF.defAt_mk (st := L2.PF.KB.topS 4) KX G (by k_is) (by k_is) (by k_is) (by k_is) L2.PF.KB.s3 L2.PF.KB.t3 rfl rfl (fun _ _ _ _ _ _ us hl => match us, hl with | [_, _], _ => rfl)) ?_
    refine L2.PF.fns_cons (L2.PF.defAt_mk (st := L2.PF.KB.topS 5) KX G (by k_is) (by k_is) (by k_is) (by k_is) L2.PF.KB.s4 L2.PF.KB.t4 rfl rfl (fun _ _ _ _ _ _ us hl => match us, hl with | [_, _], _ => rfl)) ?_
    refine L2.PF.fns_cons (L2.PF.defAt_mk (st := L2.PF.KB.topS 6) KX G (by k_is) (by k_is) (by k_is) (by k_is) L2.PF.KB.s5 L2.PF.KB.t5 rfl rfl (fun _ _ _ _ _ _ us hl => match us, hl with | [_, _, _], _ => rfl)) ?_
    refine L2.PF.fns_cons (L2.PF.defAt_mk (st := L2.PF.KB.topS 7) KX G (by k_is) (by k_is) (by k_is) (by k_is) L2.PF.KB.s6 L2.PF.KB.t6 rfl rfl (fun _ _ _ _ _ _ us hl => match us, hl with | [_, _], _ => rfl)) ?_
    refine L2.PF.fns_cons (L2.PF.defAt_mk (st := L2.PF.KB.topS 8) KX G (by k_is) (by k_is) (by k_is) (by k_is) L2.PF.KB.s7 L2.PF.KB.t7 rfl rfl (fun _ _ _ _ _ _ us hl => match us, hl with | [_], _ => rfl)) ?_
    refine L2.PF.fns_cons (L2.PF.defAt_mk (st := L2.PF.KB.topS 10) KX G (by k_is) (by k_is) (by k_is) (by k_is) L2.PF.KB.s8 L2.PF.KB.t8 rfl rfl (fun _ _ _ _ _ _ us hl => match us, hl with | [_, _], _ => rfl)) ?_
    refine L2.PF.fns_cons (L2.PF.defAt_mk (st := L2.PF.KB.topS 11) KX G (by k_is) (by k_is) (by k_is) (by k_is) L2.PF.KB.s9 L2.PF.KB.t9 rfl rfl (fun _ _ _ _ _ _ us hl => match us, hl with | [_, _], _ => rfl)) ?_
    refine L2.PF.fns_cons (L2.PF.defAt_mk (st := L2.PF.KB.topS 12) KX G (by k_is) (by k_is) (by k_is) (by k_is) L2.PF.KB.s10 L2.PF.KB.t10 rfl rfl (fun _ _ _ _ _ _ us hl => match us, hl with | [_, _], _ => rfl)) ?_
    refine L2.PF.fns_cons (L2.PF.defAt_mk (st := L2.PF.KB.topS 13) KX G (by k_is) (by k_is) (by k_is) (by k_is) L2.PF.KB.s11 L2.PF.KB.t11 rfl rfl (fun _ _ _ _ _ _ us hl => match us, hl with | [_, _], _ => rfl)) ?_
    refine L2.PF.fns_cons (L2.PF.defAt_mk (st := L2.PF.KB.topS 14) KX G (by k_is) (by k_is) (by k_is) (by k_is) L2.PF.KB.s12 L2.PF.KB.t12 rfl rfl (fun _ _ _ _ _ _ us hl => match us, hl with | [_], _ => rfl)) ?_
    refine L2.PF.fns_cons (L2.PF.defAt_mk (st := L2.PF.KB.topS 15) KX G (by k_is) (by k_is) (by k_is) (by k_is) L2.PF.KB.s13 L2.PF.KB.t13 rfl rfl (fun _ _ _ _ _ _ us hl => match us, hl with | [_], _ => rfl)) ?_
    refine L2.PF.fns_cons (L2.PF.defAt_mk (st := L2.PF.KB.topS 16) KX G (by k_is) (by k_is) (by k_is) (by k_is) L2.PF.KB.s14 L2.PF.KB.t14 rfl rfl (fun _ _ _ _ _ _ us hl => match us, hl with | [_, _, _, _], _ => rfl)) ?_
    refine L2.PF.fns_cons (L2.PF.defAt_mk (st := L2.PF.KB.topS 17) KX G (by k_is) (by k_is) (by k_is) (by k_is) L2.PF.KB.s15 L2.PF.KB.t15 rfl rfl (fun _ _ _ _ _ _ us hl => match us, hl with | [_, _, _], _ => rfl)) ?_
    refine L2.PF.fns_cons (L2.PF.defAt_mk (st := L2.PF.KB.topS 18) KX G (by k_is) (by k_is) (by k_is) (by k_is) L2.PF.KB.s16 L2.PF.KB.t16 rfl rfl (fun _ _ _ _ _ _ us hl => match us, hl with | [_], _ => rfl)) ?_
    refine L2.PF.fns_cons (L2.PF.defAt_mk (st := L2.PF.KB.topS 19) KX G (by k_is) (by k_is) (by k_is) (by k_is) L2.PF.KB.s17 L2.PF.KB.t17 rfl rfl (fun _ _ _ _ _ _ us hl => match us, hl with | [_, _], _ => rfl)) ?_
    refine L2.PF.fns_cons (L2.PF.defAt_mk (st := L2.PF.KB.topS 20) KX G (by k_is) (by k_is) (by k_is) (by k_is) L2.PF.KB.s18 L2.PF.KB.t18 rfl rfl (fun _ _ _ _ _ _ us hl => match us, hl with | [_, _, _], _ => rfl)) ?_
    refine L2.PF.fns_cons (L2.PF.defAt_mk (st := L2.PF.KB.topS 21) KX G (by k_is) (by k_is) (by k_is) (by k_is) L2.PF.KB.s19 L2.PF.KB.t19 rfl rfl (fun _ _ _ _ _ _ us hl => match us, hl with | [_, _, _], _ => rfl)) ?_
    refine L2.PF.fns_cons (L2.PF.defAt_mk (st := L2.PF.KB.topS 22) KX G (by k_is) (by k_is) (by k_is) (by k_is) L2.PF.KB.s20 L2.PF.KB.t20 rfl rfl (fun _ _ _ _ _ _ us hl => match us, hl with | [_, _], _ => rfl)) ?_
    refine L2.PF.fns_cons (L2.PF.defAt_mk (st := L2.PF.KB.topS 23) KX G (by k_is) (by k_is) (by k_is) (by k_is) L2.PF.KB.s21 L2.PF.KB.t21 rfl rfl (fun _ _ _ _ _ _ us hl => match us, hl with | [_], _ => rfl)) ?_
    exact L2.PF.fns_nil
  case pfV =>
    exact L2.PF.gls_nil
  case pfU =>
    refine L2.PF.bls_cons (PySem.W.mg_none_of KX G (by k_is)) ?_
    refine L2.PF.bls_cons (PySem.W.mg_none_of KX G (by k_is)) ?_
    refine L2.PF.bls_cons (PySem.W.mg_none_of KX G (by k_is)) ?_
    refine L2.PF.bls_cons (PySem.W.mg_none_of KX G (by k_is)) ?_
    refine L2.PF.bls_cons (PySem.W.mg_none_of KX G (by k_is)) ?_
    refine L2.PF.bls_cons (PySem.W.mg_none_of KX G (by k_is)) ?_
    refine L2.PF.bls_cons (PySem.W.mg_none_of KX G (by k_is)) ?_
    refine L2.PF.bls_cons (PySem.W.mg_none_of KX G (by k_is)) ?_
    refine L2.PF.bls_cons (PySem.W.mg_none_of KX G (by k_is)) ?_
    refine L2.PF.bls_cons (PySem.W.mg_none_of KX G (by k_is)) ?_
    refine L2.PF.bls_cons (PySem.W.mg_none_of KX G (by k_is)) ?_
    exact L2.PF.bls_nil
  case pfL =>
    exact L2.PF.lawAt_mk (st := L2.PF.KB.topS 23) KX G (by k_is) (by k_is) (by k_is) (by k_is) L2.PF.KB.s21 L2.PF.KB.t21 rfl (fun _ _ _ _ _ _ _ => rfl)

