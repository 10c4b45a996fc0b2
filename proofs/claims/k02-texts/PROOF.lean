import PyProof.Rows.All
import PySem.Str
import PySem.PyData
import PyProof.P3Statements
import HandS.Text
import HandS.ForMost
import HandS.Exc
import HandS.ExcOwn
import HandS.TryOnly
import HandS.WordsExc
import HandS.Walk
import HandS.Zip
import HandS.Wide
import HandS.WideBits
import HandS.Gcd
import HandS.IsInst
import HandS.Style
import HandS.Flow
import HandS.Defaults
import HandS.More
import HandS.DictTup
import HandS.SetKeys
import HandS.SortInts
import HandS.TupAny
import HandS.TupMul
import HandS.TryMany
import HandS.FStr
import HandS.TupLe
import HandS.Deep
import PyProof.Rows.SeqMore
import HandS.Conv
import HandS.SortOrd
import KE.KDictSum
import HandS.DictSub
import PyProof.WalksMore
import HandS.ExcIs
import HandS.ExcInit
import KE.KExcIs
import HandS.Codes
import HandS.NoneIn
import HandS.Small
import HandS.HeadHook2
import HandS.HeadEnd
import HandS.Head3
import PyProof.EqLayable
import PySem.Challenge.RW_motionsheld_k02_fraction_texts
section
set_option linter.all false
/-! MP: a small language of pure values. Its runs are total functions; MPSound shows that the model's runs of the same text go alike. -/
namespace MP
open PySem (Str PyData)
/-- a value: a tuple is its parts; what may change is a number of the store -/
inductive PV where
  | non | bl (b : Bool) | int (i : Int) | str (x : Str) | tup (xs : List PV) | lst (xs : List PV) | obj (c : Nat) (fs : List PV) | ref (k : Nat)
mutual
def PV.beq : PV → PV → Bool
  | .non, .non => true
  | .bl a, .bl b => a == b
  | .int a, .int b => a == b
  | .str a, .str b => decide (a = b)
  | .tup a, .tup b => PV.beqs a b
  | .lst a, .lst b => PV.beqs a b
  | .obj c a, .obj d b => c == d && PV.beqs a b
  | .ref a, .ref b => a == b
  | _, _ => false
def PV.beqs : List PV → List PV → Bool
  | [], [] => true
  | a :: as, b :: bs => PV.beq a b && PV.beqs as bs
  | _, _ => false
end
mutual
theorem PV.beq_eq : ∀ {a b : PV}, PV.beq a b = true → a = b
  | .non, b, h => by cases b <;> simp_all [PV.beq]
  | .bl _, b, h => by cases b <;> simp_all [PV.beq]
  | .int _, b, h => by cases b <;> simp_all [PV.beq]
  | .str _, b, h => by cases b <;> simp_all [PV.beq]
  | .tup xs, b, h => by
    cases b with
    | tup ys => rw [PV.beqs_eq (show PV.beqs xs ys = true by simpa [PV.beq] using h)]
    | _ => simp [PV.beq] at h
  | .lst xs, b, h => by
    cases b with
    | lst ys => rw [PV.beqs_eq (show PV.beqs xs ys = true by simpa [PV.beq] using h)]
    | _ => simp [PV.beq] at h
  | .obj c xs, b, h => by
    cases b with
    | obj d ys =>
      have h' : c = d ∧ PV.beqs xs ys = true := by simpa [PV.beq] using h
      rw [PV.beqs_eq h'.2, h'.1]
    | _ => simp [PV.beq] at h
  | .ref _, b, h => by cases b <;> simp_all [PV.beq]
theorem PV.beqs_eq : ∀ {a b : List PV}, PV.beqs a b = true → a = b
  | [], [], _ => rfl
  | [], _ :: _, h => by simp [PV.beqs] at h
  | _ :: _, [], h => by simp [PV.beqs] at h
  | x :: xs, y :: ys, h => by
    have h' : PV.beq x y = true ∧ PV.beqs xs ys = true := by simpa [PV.beqs] using h
    rw [PV.beq_eq h'.1, PV.beqs_eq h'.2]
end
mutual
theorem PV.beq_refl : ∀ a : PV, PV.beq a a = true
  | .non => rfl
  | .bl _ => by simp [PV.beq]
  | .int _ => by simp [PV.beq]
  | .str _ => by simp [PV.beq]
  | .tup xs => by simp [PV.beq, PV.beqs_refl xs]
  | .lst xs => by simp [PV.beq, PV.beqs_refl xs]
  | .obj _ xs => by simp [PV.beq, PV.beqs_refl xs]
  | .ref _ => by simp [PV.beq]
theorem PV.beqs_refl : ∀ a : List PV, PV.beqs a a = true
  | [] => rfl
  | x :: xs => by simp [PV.beqs, PV.beq_refl x, PV.beqs_refl xs]
end
instance : DecidableEq PV := fun a b =>
  if h : PV.beq a b = true then .isTrue (PV.beq_eq h) else .isFalse fun e => h (e ▸ PV.beq_refl a)
abbrev Key := Sum Int Str
/-- a thing that may change (ro: a list that is only read) -/
inductive Cell where
  | lst (xs : List PV) | ro (xs : List PV) | dT (kvs : List (List Int × PV)) | dK (kvs : List (Key × PV)) | ins (c : Nat) (fs : List PV)
  deriving DecidableEq
mutual
def PV.pure : PV → Bool
  | .ref _ => false
  | .tup xs => PV.pures xs
  | .lst xs => PV.pures xs
  | .obj _ xs => PV.pures xs
  | _ => true
def PV.pures : List PV → Bool
  | [] => true
  | x :: xs => x.pure && PV.pures xs
end
mutual
def PV.und (n : Nat) : PV → Bool
  | .ref k => decide (k < n)
  | .tup xs => PV.unds n xs
  | .lst xs => PV.unds n xs
  | .obj _ xs => PV.unds n xs
  | _ => true
def PV.unds (n : Nat) : List PV → Bool
  | [] => true
  | x :: xs => x.und n && PV.unds n xs
end
def Cell.und (n : Nat) : Cell → Bool
  | .lst xs => PV.unds n xs
  | .ro xs => PV.unds n xs
  | .dT kvs => PV.unds n (kvs.map (·.2))
  | .dK kvs => PV.unds n (kvs.map (·.2))
  | .ins _ fs => PV.unds n fs
structure Sto where
  cells : List Cell
  dirty : Bool
def Sto.push (S : Sto) (c : Cell) : Sto := ⟨S.cells ++ [c], S.dirty⟩
/-- the cell k is written with a value (p: it is pure); b: what stood at the def's entry -/
def Sto.wr (S : Sto) (b k : Nat) (c : Cell) (p : Bool) : Sto := ⟨S.cells.set k c, S.dirty || (decide (k < b) && !p)⟩
def Sto.lst? (S : Sto) (k : Nat) : Option (List PV) := match S.cells[k]? with
  | some (.lst xs) => some xs
  | some (.ro xs) => some xs
  | _ => none
def Sto.len (S : Sto) : Nat := S.cells.length
inductive R (α : Type) where
  | ok (a : α) (S : Sto) | exc (c : Nat) (as : List PV) (S : Sto) | bad
def R.bd {α β : Type} (r : R α) (f : α → Sto → R β) : R β := match r with
  | .ok a S => f a S
  | .exc c as S => .exc c as S
  | .bad => .bad
abbrev Env := List (Option PV)
inductive RS where
  | next (σ : Env) (S : Sto) | ret (v : PV) (S : Sto) | brk (σ : Env) (S : Sto) | cont (σ : Env) (S : Sto) | exc (c : Nat) (as : List PV) (σ : Env) (S : Sto) | bad
/-- an expression's run within a statement -/
def R.st {α : Type} (r : R α) (σ : Env) (f : α → Sto → RS) : RS := match r with
  | .ok a S => f a S
  | .exc c as S => .exc c as σ S
  | .bad => .bad
/-! ### the text -/
inductive Op where | add | sub | mul | fdiv | mod | pow | shl
inductive Cm where | eq | ne | lt | le | gt | ge | isn | nisn | inn | nin
/-- built-in functions -/
inductive Bi where | abs | int | len | list | tuple | gcd | max2 | min2 | str | sum | sorted | all | any | bool | maxL | minL
/-- built-in types, for isinstance -/
inductive Ty where | int | bool | str | tup
mutual
/-- a target of names -/
inductive Tg where
  | name (i : Nat) | tup (ts : Tgs)
inductive Tgs where
  | nil | cons (t : Tg) (ts : Tgs)
end
mutual
inductive E where
  | var (i : Nat)
  | cst (v : PV)
  | tup (es : Es)
  | lst (es : Es)
  | bin (o : Op) (a b : E)
  | neg (a : E)
  | not (a : E)
  | and (a b : E)
  | or (a b : E)
  | cmp (o : Cm) (a b : E)
  | chain (o o' : Cm) (a b c : E)
  | ife (c a b : E)
  | ix (a b : E)
  | slc (a : E) (lo hi : Eo)
  | call (f : Nat) (es : Es)
  | bi (f : Bi) (es : Es)
  | isi (a : E) (t : Ty)
  | eat (i j : Nat)
  | eisi (i : Nat)
  | lc (t : Tg) (own : List Nat) (it : It) (c : Eo) (e : E)
  /-- a list that is made here and may be changed -/
  | new (e : E)
  /-- a list that is no longer changed -/
  | frz (e : E)
  /-- an attribute, by the classes that have it and its places there -/
  | att (e : E) (ps : List (Nat × Nat))
  /-- a method, by its def's number, of the classes cs -/
  | meth (f : Nat) (cs : List Nat) (e : E) (es : Es)
  /-- a new instance of the class c, f its __init__; fr: it does not change afterwards -/
  | mk (f c : Nat) (fr : Bool) (es : Es)
  | isr (e : E) (c : Nat)
  | dnew (t : Bool)
  | dget (d k x : E)
  | sdef (d k x : E)
  | disp (ks : List PV) (es : Es)
  | fstr (es : Es)
  | maxD (e d : E)
inductive Eo where
  | none | some (e : E)
inductive Es where
  | nil | cons (e : E) (es : Es)
/-- what a for walks -/
inductive It where
  | seq (e : E) | rng1 (e : E) | rng2 (a b : E) | rng3 (a b : E) | zip (a b : E) | enum (e : E)
end
/-- a target -/
inductive Tt where
  | of (t : Tg) | sub (a i : E) | att (a : E) (ps : List (Nat × Nat))
mutual
inductive St where
  | asg (t : Tt) (e : E)
  | par (i j : Nat) (a b : E)
  | aug (i : Nat) (o : Op) (e : E)
  | augA (a : E) (ps : List (Nat × Nat)) (e : E)
  | expr (e : E)
  | append (a e : E)
  | ifs (c : E) (a b : Ss)
  | fors (t : Tg) (it : It) (b : Ss)
  | whiles (c : E) (b : Ss)
  | ret (e : E)
  | retN
  | raise (c : Nat) (es : Es)
  | tryo (b : Ss) (c : Nat) (i : Option Nat) (h : Ss)
  | pass | brk | cont
inductive Ss where
  | nil | cons (s : St) (ss : Ss)
end
/-! ### operators -/
def lenMax : Nat := 16777216
/-- a product's size -/
def mulOk (a b : Int) : Bool := decide (a.natAbs < 2 ^ 64) || decide (b.natAbs < 2 ^ 64) || decide (a.natAbs.log2 + b.natAbs.log2 + 2 ≤ 134217728)
def shlOk (a b : Int) : Bool := decide (0 ≤ b) && decide ((a.natAbs.log2 : Int) + 1 + b ≤ 134217728)
def powOk (a b : Int) : Bool := decide (0 ≤ b) && decide (b ≤ 1000000) && decide (a.natAbs < 2 ^ 64)
def divOk (b : Int) : Bool := decide (b ≠ 0)
/-- the items of a list or tuple that stays or stands in the store -/
def seqOf (S : Sto) : PV → Option (List PV)
  | .tup xs => some xs
  | .lst xs => some xs
  | .ref k => S.lst? k
  | _ => none
def lstOf (S : Sto) : PV → Option (List PV)
  | .lst xs => some xs
  | .ref k => S.lst? k
  | _ => none
/-- an operator on values -/
def opV (S : Sto) (o : Op) (x y : PV) : Option PV := match o, x, y with
  | .add, .int a, .int b => some (.int (a + b))
  | .sub, .int a, .int b => some (.int (a - b))
  | .mul, .int a, .int b => if mulOk a b then some (.int (a * b)) else none
  | .fdiv, .int a, .int b => if divOk b then some (.int (a.fdiv b)) else none
  | .mod, .int a, .int b => if b = 0 then none else some (.int (a.fmod b))
  | .pow, .int a, .int b => if powOk a b then some (.int (a ^ b.toNat)) else none
  | .shl, .int a, .int b => if shlOk a b then some (.int (a * 2 ^ b.toNat)) else none
  | .add, .str a, .str b => if a.length + b.length ≤ lenMax then some (.str (a ++ b)) else none
  | .add, .tup a, .tup b => if a.length + b.length ≤ lenMax then some (.tup (a ++ b)) else none
  | .mul, .tup a, .int k => if !a.isEmpty && decide (2 ≤ k) && decide (k ≤ 1000) && decide (a.length ≤ 1000) then some (.tup (List.replicate k.toNat a).flatten) else none
  | .add, a, b => match lstOf S a, lstOf S b with
    | some xs, some ys => if xs.length + ys.length ≤ lenMax then some (.lst (xs ++ ys)) else none
    | _, _ => none
  | _, _, _ => none
mutual
def PV.toD : PV → Option PyData
  | .non => some .none
  | .bl b => some (.bool b)
  | .int i => some (.int i)
  | .str x => some (.str x)
  | .tup xs => (PV.toDs xs).map .tuple
  | .lst xs => (PV.toDs xs).map .list
  | .obj _ _ => none
  | .ref _ => none
def PV.toDs : List PV → Option (List PyData)
  | [] => some []
  | x :: xs => match x.toD, PV.toDs xs with
    | some d, some ds => some (d :: ds)
    | _, _ => none
end
def toDS (S : Sto) : PV → Option PyData
  | .ref k => match S.lst? k with
    | some xs => (PV.toDs xs).map .list
    | none => none
  | v => v.toD
def shaped (d : PyData) : Bool := d.canLay0 && decide (d.depth ≤ 64)
def eqV (S : Sto) (x y : PV) : Option Bool := match toDS S x, toDS S y with
  | some d, some e => if shaped d && shaped e then some (d.eqv e) else none
  | _, _ => none
/-- a flat value: neither a tuple nor a number of the store -/
def PV.flat : PV → Bool
  | .ref _ => false
  | .tup _ => false
  | .lst _ => false
  | .obj _ _ => false
  | _ => true
def PV.eqF : PV → PV → Bool
  | .non, .non => true
  | .bl a, .bl b => a == b
  | .bl a, .int b => (if a then 1 else 0) == b
  | .int a, .bl b => a == (if b then 1 else 0)
  | .int a, .int b => a == b
  | .str a, .str b => a == b
  | _, _ => false
/-- `in` over a list of data of any depth -/
def inDeep (S : Sto) (x y : PV) : Option Bool := match toDS S x, toDS S y with
  | some d, some (.list ds) => if shaped d && shaped (.list ds) then some (ds.any fun z => z.eqv d) else none
  | _, _ => none
def inSeq (S : Sto) (x y : PV) : Option Bool := match y with
  | .str z => match x with
    | .str z1 => match z1.cps.toList with
      | [c] => some (decide (c ∈ z.cps.toList))
      | _ => none
    | _ => none
  | _ => match seqOf S y with
    | some xs => if x.flat && xs.all PV.flat then some (xs.any fun z => z.eqF x) else inDeep S x y
    | none => none
def intsOf : List PV → Option (List Int)
  | [] => some []
  | .int i :: xs => (intsOf xs).map (i :: ·)
  | _ => none
def blsOf : List PV → Option (List Bool)
  | [] => some []
  | .bl i :: xs => (blsOf xs).map (i :: ·)
  | _ => none
/-- the order of rows of ints -/
def lexI : List Int → List Int → Bool
  | [], [] => false
  | [], _ :: _ => true
  | _ :: _, [] => false
  | a :: as, b :: bs => if a = b then lexI as bs else decide (a < b)
def cmI (f : Int → Int → Bool) : PV → PV → Option Bool
  | .int a, .int b => some (f a b)
  | _, _ => none
def cmL : PV → PV → Option Bool
  | .int a, .int b => some (decide (a < b))
  | .tup xs, .tup ys => match intsOf xs, intsOf ys with
    | some as, some bs => some (lexI as bs)
    | _, _ => none
  | _, _ => none
def isV (x y : PV) : Option Bool := match y with
  | .non => some (decide (x = .non))
  | .bl d => match x with
    | .bl c => some (decide (c = d))
    | _ => none
  | _ => none
def cmV (S : Sto) (o : Cm) (x y : PV) : Option Bool := match o with
  | .eq => eqV S x y
  | .ne => (eqV S x y).map (!·)
  | .lt => cmL x y
  | .le => cmI (fun a b => decide (a ≤ b)) x y
  | .gt => cmI (fun a b => decide (b < a)) x y
  | .ge => cmI (fun a b => decide (b ≤ a)) x y
  | .isn => isV x y
  | .nisn => (isV x y).map (!·)
  | .inn => inSeq S x y
  | .nin => (inSeq S x y).map (!·)
def truV (S : Sto) : PV → Option Bool
  | .non => some false
  | .bl b => some b
  | .int i => some (i != 0)
  | .str x => if x.length ≤ lenMax then some (x.length != 0) else none
  | .tup xs => some (!xs.isEmpty)
  | .lst xs => some (!xs.isEmpty)
  | .obj _ _ => none
  | .ref k => match S.cells[k]? with
    | some (.lst xs) => some (!xs.isEmpty)
    | some (.ro xs) => some (!xs.isEmpty)
    | _ => none
/-- the place that an index tells in a row of so many things -/
def placeOf (len : Nat) (i : Int) : Option Nat :=
  if 0 ≤ i then (if i < len then some i.toNat else none) else if -(len : Int) ≤ i then some (i + len).toNat else none
def itemAt {α : Type} (xs : List α) (i : Int) : Option α := (placeOf xs.length i).bind fun j => xs[j]?
/-- a key of a dict -/
def keyOf : PV → Option Key
  | .int i => some (.inl i)
  | .str x => some (.inr x)
  | _ => none
def valK {κ : Type} [DecidableEq κ] (kvs : List (κ × PV)) (k : κ) : Option PV := (kvs.find? fun kv => decide (kv.1 = k)).map (·.2)
/-- in its place, or at the end -/
def putK {κ : Type} [DecidableEq κ] (kvs : List (κ × PV)) (k : κ) (v : PV) : List (κ × PV) :=
  if (kvs.any fun kv => decide (kv.1 = k)) = true then kvs.map (fun kv => if kv.1 = k then (kv.1, v) else kv) else kvs ++ [(k, v)]
/-- what a dict holds: none if it cannot be asked -/
def dAsk (S : Sto) (k : Nat) (y : PV) : Option (Option PV) := match S.cells[k]? with
  | some (.dK kvs) => (keyOf y).map fun q => valK kvs q
  | some (.dT kvs) => match y with
    | .tup ys => (intsOf ys).map fun q => valK kvs q
    | _ => none
  | _ => none
def dPut (S : Sto) (k : Nat) (y v : PV) : Option Cell := match S.cells[k]? with
  | some (.dK kvs) => if kvs.length < lenMax then (keyOf y).map fun q => .dK (putK kvs q v) else none
  | some (.dT kvs) => match y with
    | .tup ys => if kvs.length < lenMax then (intsOf ys).map fun q => .dT (putK kvs q v) else none
    | _ => none
  | _ => none
def ixV (S : Sto) (x y : PV) : Option PV := match x, y with
  | .tup xs, .int i => itemAt xs i
  | .lst xs, .int i => itemAt xs i
  | .str z, .int i => if z.length ≤ lenMax then (itemAt z.cps.toList i).map fun c => .str ⟨#[c]⟩ else none
  | .ref k, y => match S.lst? k, y with
    | some xs, .int i => itemAt xs i
    | none, y => (dAsk S k y).bind id
    | _, _ => none
  | _, _ => none
/-- where a slice begins or ends -/
def edge (len d : Nat) : Option Int → Nat
  | none => d
  | some v => if v < 0 then (v + (len : Int)).toNat else min v.toNat len
def cut {α : Type} (xs : List α) (lo hi : Option Int) : List α := (xs.drop (edge xs.length 0 lo)).take (edge xs.length xs.length hi - edge xs.length 0 lo)
def slV (S : Sto) (x : PV) (lo hi : Option Int) : Option PV := match x with
  | .tup xs => some (.tup (cut xs lo hi))
  | .lst xs => some (.lst (cut xs lo hi))
  | .ref k => (S.lst? k).map fun xs => .lst (cut xs lo hi)
  | .str z => if z.length ≤ lenMax then some (.str ⟨(cut z.cps.toList lo hi).toArray⟩) else none
  | _ => none
def isTy : PV → Ty → Option Bool
  | .non, _ => some false
  | .bl _, .bool => some true
  | .bl _, .int => some true
  | .bl _, _ => some false
  | .int _, .int => some true
  | .int _, _ => some false
  | .str _, .str => some true
  | .str _, _ => some false
  | .tup _, .tup => some true
  | .tup _, _ => some false
  | _, _ => none
/-- rows of ints, none of them empty -/
def rowsOf : List PV → Option (List (List Int))
  | [] => some []
  | .tup ys :: xs => match intsOf ys, rowsOf xs with
    | some y, some r => if y.isEmpty then none else some (y :: r)
    | _, _ => none
  | _ => none
/-- x put behind what is not above it -/
def insL {α : Type} (lt : α → α → Bool) (x : α) : List α → List α
  | [] => [x]
  | y :: ys => if lt x y then x :: y :: ys else y :: insL lt x ys
def sortL {α : Type} (lt : α → α → Bool) (xs : List α) : List α := xs.foldl (fun acc x => insL lt x acc) []
def rowPV (r : List Int) : PV := .tup (r.map .int)
/-- sorted: rows of ints, or ints -/
def sortV (xs : List PV) : Option (List PV) := match intsOf xs with
  | some ns => some ((sortL (fun a b => decide (a < b)) ns).map .int)
  | none => (rowsOf xs).map fun rs => (sortL lexI rs).map rowPV
def biV (S : Sto) (f : Bi) (xs : List PV) : Option PV := match f, xs with
  | .abs, [.int i] => some (.int (if i < 0 then -i else i))
  | .int, [.int i] => some (.int i)
  | .int, [.bl b] => some (.int (if b then 1 else 0))
  | .int, [.str z] => if z.length ≤ 640 then (PySem.intText? z).map .int else none
  | .len, [.tup ys] => some (.int ys.length)
  | .len, [.str z] => if z.length ≤ lenMax then some (.int z.length) else none
  | .len, [v] => (lstOf S v).map fun ys => .int ys.length
  | .list, [.ref k] => match S.cells[k]? with
    | some (.lst ys) => some (.lst ys)
    | some (.ro ys) => some (.lst ys)
    | some (.dT kvs) => some (.lst (kvs.map fun p => rowPV p.1))
    | _ => none
  | .list, [v] => (seqOf S v).map .lst
  | .tuple, [v] => (seqOf S v).map .tup
  | .gcd, [.int a, .int b] => some (.int ((Nat.gcd a.natAbs b.natAbs : Nat) : Int))
  | .max2, [.int a, .int b] => some (.int (if b > a then b else a))
  | .min2, [.int a, .int b] => some (.int (if b < a then b else a))
  | .str, [.int a] => if a.natAbs.log2 < 1920 then some (.str (toString a)) else none
  | .sum, [v] => ((seqOf S v).bind intsOf).map fun ns => .int ns.sum
  | .all, [v] => ((lstOf S v).bind blsOf).map fun ns => .bl (ns.all id)
  | .any, [v] => ((lstOf S v).bind blsOf).map fun ns => .bl (ns.any id)
  | .sorted, [.ref k] => match S.cells[k]? with
    | some (.dT kvs) => if (kvs.map (·.1)).any (·.isEmpty) then none else some (.lst ((sortL lexI (kvs.map (·.1))).map rowPV))
    | some (.lst ys) => (sortV ys).map .lst
    | some (.ro ys) => (sortV ys).map .lst
    | _ => none
  | .sorted, [.lst ys] => (sortV ys).map .lst
  | _, _ => none
/-- max(dict with int keys, default=..) -/
def maxDV (S : Sto) (x d : PV) : Option PV := match x with
  | .ref k => match S.cells[k]? with
    | some (.dK kvs) => match intsOf (kvs.map fun p => match p.1 with
        | .inl i => PV.int i
        | .inr z => PV.str z) with
      | some [] => some d
      | some (i :: is) => some (.int (is.foldl max i))
      | none => none
    | _ => none
  | .lst xs => match intsOf xs with
    | some [] => some d
    | some (i :: is) => some (.int (is.foldl max i))
    | none => none
  | _ => none
def attV (S : Sto) (v : PV) (ps : List (Nat × Nat)) : Option PV := match v with
  | .obj c fs => (ps.lookup c).bind fun p => fs[p]?
  | .ref k => match S.cells[k]? with
    | some (.ins c fs) => (ps.lookup c).bind fun p => fs[p]?
    | _ => none
  | _ => none
/-- an instance's class -/
def clsV (S : Sto) (v : PV) : Option Nat := match v with
  | .obj c _ => some c
  | .ref k => match S.cells[k]? with
    | some (.ins c _) => some c
    | _ => none
  | _ => none
/-- an attribute is stored: in its place, or as the next one -/
def putA (fs : List PV) (p : Nat) (v : PV) : Option (List PV) := if p < fs.length then some (fs.set p v) else if p = fs.length then some (fs ++ [v]) else none
/-- what is walked: the items; the lists that must stand as they are meanwhile -/
abbrev Walk := List PV × List (Nat × List PV)
def stands (S : Sto) (g : List (Nat × List PV)) : Bool := g.all fun p => decide (S.lst? p.1 = some p.2)
def walkV (S : Sto) (v : PV) : Option Walk := match v with
  | .tup xs => some (xs, [])
  | .lst xs => some (xs, [])
  | .ref k => (S.lst? k).map fun xs => (xs, [(k, xs)])
  | _ => none
def small (i : Int) : Bool := decide (-(2 ^ 62) ≤ i) && decide (i < 2 ^ 62)
def rngL (a : Int) (n : Nat) : List PV := (List.range n).map fun (i : Nat) => .int (a + (i : Int))
def rngD (a : Int) (n : Nat) : List PV := (List.range n).map fun (i : Nat) => .int (a - (i : Int))
def enumL : Nat → List PV → List PV
  | _, [] => []
  | i, x :: xs => .tup [.int (i : Int), x] :: enumL (i + 1) xs
def pairs (xs ys : List PV) : List PV := (xs.zip ys).map fun r => .tup [r.1, r.2]
def isTup : PV → Bool
  | .tup _ => true
  | _ => false
def zipV (S : Sto) (v u : PV) : Option Walk := match isTup v, isTup u with
  | true, true => match walkV S v, walkV S u with
    | some w, some w' => some (pairs w.1 w'.1, w.2 ++ w'.2)
    | _, _ => none
  | false, false => match walkV S v, walkV S u with
    | some w, some w' => some (pairs w.1 w'.1, w.2 ++ w'.2)
    | _, _ => none
  | _, _ => none
def enumV (S : Sto) (v : PV) : Option Walk := match isTup v, walkV S v with
  | false, some w => some (enumL 0 w.1, w.2)
  | _, _ => none
mutual
def bindT : Tg → PV → Env → Option Env
  | .name i, v, σ => some (σ.set i (some v))
  | .tup ts, .tup xs, σ => bindTs ts xs σ
  | .tup ts, .lst xs, σ => bindTs ts xs σ
  | .tup _, _, _ => none
def bindTs : Tgs → List PV → Env → Option Env
  | .nil, [], σ => some σ
  | .cons t ts, x :: xs, σ => match bindT t x σ with
    | some σ' => bindTs ts xs σ'
    | none => none
  | _, _, _ => none
end
def wipe (σ : Env) : List Nat → Env
  | [] => σ
  | v :: vs => (wipe σ vs).set v none
def opt {α : Type} (o : Option α) (S : Sto) : R α := match o with
  | some a => .ok a S
  | none => .bad
/-- a list comprehension's turns -/
def lcLoop (g : Sto → Bool) (bind : PV → Option Env) (test : Env → Sto → R Bool) (elt : Env → Sto → R PV) : List PV → List PV → Sto → R (List PV)
  | [], acc, S => if g S then .ok acc S else .bad
  | x :: xs, acc, S => if g S then (match bind x with
    | none => .bad
    | some σ => (test σ S).bd fun c S1 => match c with
      | true => (elt σ S1).bd fun y S2 => if acc.length < lenMax then lcLoop g bind test elt xs (acc ++ [y]) S2 else .bad
      | false => lcLoop g bind test elt xs acc S1) else .bad
def noExc {α : Type} (r : R α) : R α := match r with
  | .exc _ _ _ => .bad
  | r => r
/-- the parts of an f-string -/
def fparts : List PV → Option Str
  | [] => some Str.empty
  | .str x :: r => (fparts r).map (x ++ ·)
  | .int i :: r => if i.natAbs.log2 < 1920 then (fparts r).map (Str.ofString (toString i) ++ ·) else none
  | _ => none
def dispK : List PV → List PV → Option (List (Key × PV))
  | [], [] => some []
  | k :: ks, v :: vs => match keyOf k, dispK ks vs with
    | some q, some r => if r.all fun p => decide (p.1 ≠ q) then some ((q, v) :: r) else none
    | _, _ => none
  | _, _ => none
def thaw (v : PV) (S : Sto) : R PV := match v with
  | .lst xs => .ok (.ref S.len) (S.push (.lst xs))
  | _ => .bad
def freeze (v : PV) (S : Sto) : R PV := match v with
  | .ref k => match S.cells[k]? with
    | some (.lst xs) => .ok (.lst xs) ⟨S.cells.set k (.ro xs), S.dirty⟩
    | _ => .bad
  | _ => .bad
/-- behind __init__: k the instance's number -/
def made (k : Nat) (fr : Bool) (v : PV) (S : Sto) : R PV := match v with
  | .non => if fr then (match S.cells[k]? with
      | some (.ins c fs) => if PV.pures fs && !S.dirty && decide (S.cells.length = k + 1) then .ok (.obj c fs) ⟨S.cells.take k, S.dirty⟩ else .bad
      | _ => .bad) else .ok (.ref k) S
  | _ => .bad
def sdefR (S : Sto) (b : Nat) (d k x : PV) : R PV := match d with
  | .ref j => match dAsk S j k with
    | some (some v) => .ok v S
    | some none => match dPut S j k x with
      | some c => .ok x (S.wr b j c x.pure)
      | none => .bad
    | none => .bad
  | _ => .bad
section
variable (C : Nat → List PV → Sto → R PV) (b : Nat)
mutual
def ev : E → Env → Sto → R PV
  | .var i, σ, S => match σ[i]? with
    | some (some v) => .ok v S
    | _ => .bad
  | .cst v, _, S => .ok v S
  | .tup es, σ, S => (evs es σ S).bd fun vs S1 => .ok (.tup vs) S1
  | .lst es, σ, S => (evs es σ S).bd fun vs S1 => .ok (.lst vs) S1
  | .bin o x y, σ, S => (ev x σ S).bd fun v S1 => (ev y σ S1).bd fun u S2 => opt (opV S2 o v u) S2
  | .neg x, σ, S => (ev x σ S).bd fun v S1 => match v with
    | .int i => .ok (.int (-i)) S1
    | _ => .bad
  | .not x, σ, S => (ev x σ S).bd fun v S1 => (opt (truV S1 v) S1).bd fun c S2 => .ok (.bl (!c)) S2
  | .and x y, σ, S => (ev x σ S).bd fun v S1 => match v with
    | .bl true => ev y σ S1
    | .bl false => .ok (.bl false) S1
    | _ => .bad
  | .or x y, σ, S => (ev x σ S).bd fun v S1 => match v with
    | .bl true => .ok (.bl true) S1
    | .bl false => ev y σ S1
    | _ => .bad
  | .cmp o x y, σ, S => (ev x σ S).bd fun v S1 => (ev y σ S1).bd fun u S2 => (opt (cmV S2 o v u) S2).bd fun c S3 => .ok (.bl c) S3
  | .chain o o' x y z, σ, S => (ev x σ S).bd fun v S1 => (ev y σ S1).bd fun u S2 => (opt (cmV S2 o v u) S2).bd fun c S3 => match c with
    | true => (ev z σ S3).bd fun w S4 => (opt (cmV S4 o' u w) S4).bd fun d S5 => .ok (.bl d) S5
    | false => .ok (.bl false) S3
  | .ife c x y, σ, S => (evT c σ S).bd fun d S1 => match d with
    | true => ev x σ S1
    | false => ev y σ S1
  | .ix x y, σ, S => (ev x σ S).bd fun v S1 => (ev y σ S1).bd fun u S2 => opt (ixV S2 v u) S2
  | .slc x lo hi, σ, S => (ev x σ S).bd fun v S1 => (evo lo σ S1).bd fun l S2 => (evo hi σ S2).bd fun h S3 => opt (slV S3 v l h) S3
  | .call f es, σ, S => (evs es σ S).bd fun vs S1 => C f vs S1
  | .bi f es, σ, S => (evs es σ S).bd fun vs S1 => opt (biV S1 f vs) S1
  | .isi x t, σ, S => (ev x σ S).bd fun v S1 => (opt (isTy v t) S1).bd fun c S2 => .ok (.bl c) S2
  | .eat i j, σ, S => match σ[i]? with
    | some (some (.tup (_ :: as))) => opt as[j]? S
    | _ => .bad
  | .eisi i, σ, S => match σ[i]? with
    | some (some (.tup (_ :: _))) => .ok (.bl true) S
    | _ => .bad
  | .lc t own it c e, σ, S => (evi it σ S).bd fun w S1 => noExc ((lcLoop (fun S => stands S w.2) (fun x => bindT t x (wipe σ own)) (evc c) (ev e) w.1 [] S1).bd fun ys S2 => .ok (.lst ys) S2)
  | .new e, σ, S => (ev e σ S).bd thaw
  | .frz e, σ, S => (ev e σ S).bd freeze
  | .att e ps, σ, S => (ev e σ S).bd fun v S1 => opt (attV S1 v ps) S1
  | .meth f cs e es, σ, S => (ev e σ S).bd fun v S1 => if ((clsV S1 v).any fun c => cs.contains c) then (evs es σ S1).bd fun vs S2 => C f (v :: vs) S2 else .bad
  | .mk f c fr es, σ, S => (evs es σ S).bd fun vs S1 => (C f (.ref S1.len :: vs) (S1.push (.ins c []))).bd fun v S2 => made S1.len fr v S2
  | .isr e c, σ, S => (ev e σ S).bd fun v S1 => (opt (clsV S1 v) S1).bd fun d S2 => .ok (.bl (decide (d = c))) S2
  | .dnew t, _, S => .ok (.ref S.len) (S.push (if t then .dT [] else .dK []))
  | .dget d k x, σ, S => (ev d σ S).bd fun v S1 => (ev k σ S1).bd fun y S2 => (ev x σ S2).bd fun z S3 => match v with
    | .ref j => (opt (dAsk S3 j y) S3).bd fun o S4 => .ok (o.getD z) S4
    | _ => .bad
  | .sdef d k x, σ, S => (ev d σ S).bd fun v S1 => (ev k σ S1).bd fun y S2 => (ev x σ S2).bd fun z S3 => sdefR S3 b v y z
  | .disp ks es, σ, S => (evs es σ S).bd fun vs S1 => (opt (dispK ks vs) S1).bd fun kvs S2 => .ok (.ref S2.len) (S2.push (.dK kvs))
  | .fstr es, σ, S => (noExc (evs es σ S)).bd fun vs S1 => (opt (fparts vs) S1).bd fun z S2 => if z.length ≤ lenMax then .ok (.str z) S2 else .bad
  | .maxD e d, σ, S => (ev e σ S).bd fun v S1 => (ev d σ S1).bd fun u S2 => opt (maxDV S2 v u) S2
def evT : E → Env → Sto → R Bool
  | .not x, σ, S => (evT x σ S).bd fun c S1 => .ok (!c) S1
  | .and x y, σ, S => (evT x σ S).bd fun c S1 => match c with
    | true => evT y σ S1
    | false => .ok false S1
  | .or x y, σ, S => (evT x σ S).bd fun c S1 => match c with
    | true => .ok true S1
    | false => evT y σ S1
  | .cmp o x y, σ, S => (ev x σ S).bd fun v S1 => (ev y σ S1).bd fun u S2 => opt (cmV S2 o v u) S2
  | .chain o o' x y z, σ, S => (ev x σ S).bd fun v S1 => (ev y σ S1).bd fun u S2 => (opt (cmV S2 o v u) S2).bd fun c S3 => match c with
    | true => (ev z σ S3).bd fun w S4 => opt (cmV S4 o' u w) S4
    | false => .ok false S3
  | .var i, σ, S => match σ[i]? with
    | some (some v) => opt (truV S v) S
    | _ => .bad
  | .ix x y, σ, S => (ev x σ S).bd fun v S1 => (ev y σ S1).bd fun u S2 => (opt (ixV S2 v u) S2).bd fun z S3 => opt (truV S3 z) S3
  | .call f es, σ, S => ((evs es σ S).bd fun vs S1 => C f vs S1).bd fun z S3 => opt (truV S3 z) S3
  | .bi f es, σ, S => ((evs es σ S).bd fun vs S1 => opt (biV S1 f vs) S1).bd fun z S3 => opt (truV S3 z) S3
  | .isi x t, σ, S => (ev x σ S).bd fun v S1 => opt (isTy v t) S1
  | .eisi i, σ, S => match σ[i]? with
    | some (some (.tup (_ :: _))) => .ok true S
    | _ => .bad
  | .att e ps, σ, S => ((ev e σ S).bd fun v S1 => opt (attV S1 v ps) S1).bd fun z S3 => opt (truV S3 z) S3
  | .isr e c, σ, S => (ev e σ S).bd fun v S1 => (opt (clsV S1 v) S1).bd fun d S2 => .ok (decide (d = c)) S2
  | .meth f cs e es, σ, S => ((ev e σ S).bd fun v S1 => if ((clsV S1 v).any fun c => cs.contains c) then (evs es σ S1).bd fun vs S2 => C f (v :: vs) S2 else .bad).bd fun z S3 => opt (truV S3 z) S3
  | _, _, _ => .bad
def evs : Es → Env → Sto → R (List PV)
  | .nil, _, S => .ok [] S
  | .cons e es, σ, S => (ev e σ S).bd fun v S1 => (evs es σ S1).bd fun vs S2 => .ok (v :: vs) S2
def evo : Eo → Env → Sto → R (Option Int)
  | .none, _, S => .ok none S
  | .some e, σ, S => (ev e σ S).bd fun v S1 => match v with
    | .int i => .ok (some i) S1
    | _ => .bad
def evc : Eo → Env → Sto → R Bool
  | .none, _, S => .ok true S
  | .some e, σ, S => evT e σ S
def evi : It → Env → Sto → R Walk
  | .seq e, σ, S => (ev e σ S).bd fun v S1 => opt (walkV S1 v) S1
  | .rng1 e, σ, S => (ev e σ S).bd fun v S1 => match v with
    | .int n => if small n then .ok (rngL 0 n.toNat, []) S1 else .bad
    | _ => .bad
  | .rng2 x y, σ, S => (ev x σ S).bd fun v S1 => (ev y σ S1).bd fun u S2 => match v, u with
    | .int a, .int c => if small a && small c then .ok (rngL a (c - a).toNat, []) S2 else .bad
    | _, _ => .bad
  | .rng3 x y, σ, S => (ev x σ S).bd fun v S1 => (ev y σ S1).bd fun u S2 => match v, u with
    | .int a, .int c => if small a && small c then .ok (rngD a (a - c).toNat, []) S2 else .bad
    | _, _ => .bad
  | .zip x y, σ, S => (ev x σ S).bd fun v S1 => (ev y σ S1).bd fun u S2 => opt (zipV S2 v u) S2
  | .enum e, σ, S => (ev e σ S).bd fun v S1 => opt (enumV S1 v) S1
end
/-- a for's turns -/
def forLoop (g : Sto → Bool) (bind : PV → Env → Option Env) (body : Env → Sto → RS) : List PV → Env → Sto → RS
  | [], σ, S => if g S then .next σ S else .bad
  | x :: xs, σ, S => if g S then (match bind x σ with
    | none => .bad
    | some σ1 => match body σ1 S with
      | .next σ2 S2 => forLoop g bind body xs σ2 S2
      | .cont σ2 S2 => forLoop g bind body xs σ2 S2
      | .brk σ2 S2 => .next σ2 S2
      | r => r) else .bad
def whileLoop (test : Env → Sto → R Bool) (body : Env → Sto → RS) : Nat → Env → Sto → RS
  | 0, _, _ => .bad
  | n + 1, σ, S => (test σ S).st σ fun c S1 => match c with
    | false => .next σ S1
    | true => match body σ S1 with
      | .next σ2 S2 => whileLoop test body n σ2 S2
      | .cont σ2 S2 => whileLoop test body n σ2 S2
      | .brk σ2 S2 => .next σ2 S2
      | r => r
def RS.seq (r : RS) (f : Env → Sto → RS) : RS := match r with
  | .next σ S => f σ S
  | r => r
def fuel : Nat := 2 ^ 40
/-- an except clause: the exception's class and what it holds stand in the slot -/
def hold (c : Nat) (as : List PV) (σ : Env) : Option Nat → Env
  | some k => σ.set k (some (.tup (.int (c : Int) :: as)))
  | none => σ
def holdOk (σ : Env) : Option Nat → Bool
  | some k => decide (k < σ.length)
  | none => true
def unhold (σ : Env) : Option Nat → Env
  | some k => σ.set k none
  | none => σ
def unslot (i : Option Nat) : RS → RS
  | .next σ S => .next (unhold σ i) S
  | .ret v S => .ret v S
  | .brk σ S => .brk (unhold σ i) S
  | .cont σ S => .cont (unhold σ i) S
  | _ => .bad
def caught (c : Nat) (i : Option Nat) (h : Env → Sto → RS) : RS → RS
  | .exc d as σ S => if d = c then (if holdOk σ i then unslot i (h (hold c as σ i) S) else .bad) else .exc d as σ S
  | r => r
/-- a[k] = v -/
def subR (σ : Env) (o k v : PV) (S : Sto) : RS := match o with
  | .ref a => match S.cells[a]? with
    | some (.lst xs) => match k with
      | .int n => match placeOf xs.length n with
        | some j => .next σ (S.wr b a (.lst (xs.set j v)) v.pure)
        | none => .bad
      | _ => .bad
    | _ => match dPut S a k v with
      | some c => .next σ (S.wr b a c v.pure)
      | none => .bad
  | _ => .bad
/-- o.f = v -/
def attR (σ : Env) (o : PV) (ps : List (Nat × Nat)) (v : PV) (S : Sto) : RS := match o with
  | .ref a => match S.cells[a]? with
    | some (.ins c fs) => match (ps.lookup c).bind fun p => putA fs p v with
      | some gs => .next σ (S.wr b a (.ins c gs) v.pure)
      | none => .bad
    | _ => .bad
  | _ => .bad
mutual
def xst : St → Env → Sto → RS
  | .asg (.of t) e, σ, S => (ev C b e σ S).st σ fun v S1 => match bindT t v σ with
    | some σ1 => .next σ1 S1
    | none => .bad
  | .asg (.sub x i) e, σ, S => (ev C b e σ S).st σ fun v S1 => (ev C b x σ S1).st σ fun o S2 => (ev C b i σ S2).st σ fun k S3 => subR b σ o k v S3
  | .asg (.att x ps) e, σ, S => (ev C b e σ S).st σ fun v S1 => (ev C b x σ S1).st σ fun o S2 => attR b σ o ps v S2
  | .par i j x y, σ, S => (ev C b x σ S).st σ fun v S1 => (ev C b y σ S1).st σ fun u S2 => .next ((σ.set i (some v)).set j (some u)) S2
  | .aug i o e, σ, S => match σ[i]? with
    | some (some x) => (ev C b e σ S).st σ fun v S1 => match o, x, v with
      | .add, .int a, .int c => .next (σ.set i (some (.int (a + c)))) S1
      | _, _, _ => .bad
    | _ => .bad
  | .augA x ps e, σ, S => (ev C b x σ S).st σ fun o S1 => (opt (attV S1 o ps) S1).st σ fun u S2 => (ev C b e σ S2).st σ fun v S3 => match u, v with
    | .int a, .int c => attR b σ o ps (.int (a + c)) S3
    | _, _ => .bad
  | .expr e, σ, S => (ev C b e σ S).st σ fun _ S1 => .next σ S1
  | .append x e, σ, S => (ev C b x σ S).st σ fun o S1 => match o with
    | .ref a => match S1.cells[a]? with
      | some (.lst _) => (ev C b e σ S1).st σ fun v S2 => match S2.cells[a]? with
        | some (.lst xs) => if xs.length < lenMax then .next σ (S2.wr b a (.lst (xs ++ [v])) v.pure) else .bad
        | _ => .bad
      | _ => .bad
    | _ => .bad
  | .ifs c p q, σ, S => (evT C b c σ S).st σ fun d S1 => match d with
    | true => xss p σ S1
    | false => xss q σ S1
  | .fors t it p, σ, S => (evi C b it σ S).st σ fun w S1 => forLoop (fun S => stands S w.2) (bindT t) (xss p) w.1 σ S1
  | .whiles c p, σ, S => whileLoop (evT C b c) (xss p) fuel σ S
  | .ret e, σ, S => (ev C b e σ S).st σ fun v S1 => .ret v S1
  | .retN, _, S => .ret .non S
  | .raise c es, σ, S => (evs C b es σ S).st σ fun vs S1 => .exc c vs σ S1
  | .tryo p c i h, σ, S => caught c i (xss h) (xss p σ S)
  | .pass, σ, S => .next σ S
  | .brk, σ, S => .brk σ S
  | .cont, σ, S => .cont σ S
def xss : Ss → Env → Sto → RS
  | .nil, σ, S => .next σ S
  | .cons s ss, σ, S => match xst s σ S with
    | .next σ1 S1 => xss ss σ1 S1
    | r => r
end
end
/-- a def: how many parameters, how many names, its body -/
structure FDef where
  np : Nat
  nn : Nat
  body : Ss
/-- leaving a def: what it made is gone, unless it may be told of -/
def fin (S : Sto) (v : PV) (S1 : Sto) : R PV := if v.pure && !S1.dirty then .ok v ⟨S1.cells.take S.cells.length, S.dirty⟩ else .ok v ⟨S1.cells, S.dirty || S1.dirty⟩
def runF (C : Nat → List PV → Sto → R PV) (fd : FDef) (args : List PV) (S : Sto) : R PV :=
  match xss C S.cells.length fd.body (args.map some ++ List.replicate (fd.nn - fd.np) none) ⟨S.cells, false⟩ with
  | .next _ S1 => fin S .non S1
  | .ret v S1 => fin S v S1
  | .exc c as _ S1 => if PV.pures as && !S1.dirty then .exc c as ⟨S1.cells.take S.cells.length, S.dirty⟩ else .bad
  | _ => .bad
def callN (T : List FDef) : Nat → Nat → List PV → Sto → R PV
  | 0, _, _, _ => .bad
  | d + 1, f, args, S => match T[f]? with
    | some fd => if args.length = fd.np then runF (callN T d) fd args S else .bad
    | none => .bad
end MP
end
section
set_option Elab.async false
set_option linter.all false
set_option maxRecDepth 100000
/-! MPSound1: how a value of MP stands in the model's heap; what a run of MP promises. -/
namespace MP
open PySem L2
/-- the text's classes of records: where they stand, the names of their attributes -/
class RT where
  rc : Nat → Addr
  rf : Nat → List Str
variable [RT]
/-- a list that is only read -/
def RoL (K : PySem.W.Frag) (H : Hp) (a : Addr) (vs : List V) : Prop :=
  (∃ o, H a = some (.frz o (.lst vs))) ∨ ∃ (o : Obj) (its : Array Value) (n : Nat), K.lookup a = some o ∧ o.cls = .type "list" ∧ o.dict = none ∧ o.data = .seq its n ∧ its.size ≤ sizeLine ∧ Vals vs its.toList
theorem RoL.sq {K : PySem.W.Frag} {H : Hp} {a : Addr} {vs : List V} (h : RoL K H a vs) : SqL K H a vs := by
  rcases h with h | h
  · exact .inl (.inr h)
  · exact .inr h
/-! ### values in the heap -/
mutual
inductive RelP (K : PySem.W.Frag) (ρ : List Addr) (H : Hp) : PV → V → Prop
  | non : RelP K ρ H .non .non
  | bl (b : Bool) : RelP K ρ H (.bl b) (.bl b)
  | int (i : Int) : RelP K ρ H (.int i) (.int i)
  | str (x : Str) : RelP K ρ H (.str x) (.str x)
  | tup {a : Addr} {xs : List PV} {vs : List V} : SqT K H a vs → RelPs K ρ H xs vs → RelP K ρ H (.tup xs) (.ref a)
  | lst {a : Addr} {xs : List PV} {vs : List V} : RoL K H a vs → RelPs K ρ H xs vs → RelP K ρ H (.lst xs) (.ref a)
  | obj {a dx : Addr} {o : Obj} {c : Nat} {fs : List PV} {vs : List V} : H a = some (.frz o (.ins (RT.rc c) dx ((RT.rf c).zip vs))) → RelPs K ρ H fs vs → RelP K ρ H (.obj c fs) (.ref a)
  | ref {k : Nat} {a : Addr} : ρ[k]? = some a → RelP K ρ H (.ref k) (.ref a)
inductive RelPs (K : PySem.W.Frag) (ρ : List Addr) (H : Hp) : List PV → List V → Prop
  | nil : RelPs K ρ H [] []
  | cons {x : PV} {v : V} {xs : List PV} {vs : List V} : RelP K ρ H x v → RelPs K ρ H xs vs → RelPs K ρ H (x :: xs) (v :: vs)
end
/-- what is never lost -/
structure Keep (H H' : Hp) : Prop where
  tup : ∀ a xs, H a = some (.tup xs) → H' a = some (.tup xs)
  frz : ∀ a o u, H a = some (.frz o u) → H' a = some (.frz o u)
  xd : ∀ a fs, H a = some (.xd fs) → H' a = some (.xd fs)
theorem Keep.refl (H : Hp) : Keep H H := ⟨fun _ _ h => h, fun _ _ _ h => h, fun _ _ h => h⟩
theorem Keep.trans {H H1 H2 : Hp} (a : Keep H H1) (b : Keep H1 H2) : Keep H H2 :=
  ⟨fun x y h => b.tup x y (a.tup x y h), fun x y z h => b.frz x y z (a.frz x y z h), fun x y h => b.xd x y (a.xd x y h)⟩
theorem Keep.new {H : Hp} {p : Addr} {o : HO} (h : H p = none) : Keep H (upd H p o) :=
  ⟨fun a xs e => by rw [upd_ne (ne_of_none e h)]; exact e, fun a u v e => by rw [upd_ne (ne_of_none e h)]; exact e, fun a fs e => by rw [upd_ne (ne_of_none e h)]; exact e⟩
/-- what may be written: no tuple, nothing locked, no exception's dict -/
def Wr : HO → Prop
  | .tup _ => False
  | .frz _ _ => False
  | .xd _ => False
  | _ => True
theorem Keep.wr {H : Hp} {p : Addr} {u o : HO} (h : H p = some u) (hu : Wr u) : Keep H (upd H p o) :=
  ⟨fun a xs e => by rw [upd_ne (ne_of e h (by intro z; subst z; exact hu))]; exact e, fun a u v e => by rw [upd_ne (ne_of e h (by intro z; subst z; exact hu))]; exact e, fun a fs e => by rw [upd_ne (ne_of e h (by intro z; subst z; exact hu))]; exact e⟩
theorem Keep.wlst {H : Hp} {p : Addr} {ys : List V} {o : HO} (h : H p = some (.lst ys)) : Keep H (upd H p o) := .wr h trivial
section
variable {K : PySem.W.Frag} {ρ ρ' : List Addr} {H H' : Hp}
theorem Keep.sqT (k : Keep H H') {a : Addr} {xs : List V} (h : SqT K H a xs) : SqT K H' a xs := by
  rcases h with (h | ⟨o, h⟩) | h
  · exact .inl (.inl (k.tup _ _ h))
  · exact .inl (.inr ⟨o, k.frz _ _ _ h⟩)
  · exact .inr h
theorem pre_get {ρ ρ' : List Addr} (p : ρ <+: ρ') {k : Nat} {a : Addr} (h : ρ[k]? = some a) : ρ'[k]? = some a := by
  obtain ⟨t, rfl⟩ := p
  rw [List.getElem?_append_left (List.getElem?_eq_some_iff.mp h).1]
  exact h
theorem Keep.roL (k : Keep H H') {a : Addr} {xs : List V} (h : RoL K H a xs) : RoL K H' a xs := by
  rcases h with ⟨o, h⟩ | h
  · exact .inl ⟨o, k.frz _ _ _ h⟩
  · exact .inr h
mutual
theorem RelP.mono (k : Keep H H') (p : ρ <+: ρ') : ∀ {x : PV} {v : V}, RelP K ρ H x v → RelP K ρ' H' x v
  | _, _, .non => .non
  | _, _, .bl b => .bl b
  | _, _, .int i => .int i
  | _, _, .str x => .str x
  | _, _, .tup h hs => .tup (k.sqT h) (RelPs.mono k p hs)
  | _, _, .lst h hs => .lst (k.roL h) (RelPs.mono k p hs)
  | _, _, .obj h hs => .obj (k.frz _ _ _ h) (RelPs.mono k p hs)
  | _, _, .ref h => .ref (pre_get p h)
theorem RelPs.mono (k : Keep H H') (p : ρ <+: ρ') : ∀ {xs : List PV} {vs : List V}, RelPs K ρ H xs vs → RelPs K ρ' H' xs vs
  | _, _, .nil => .nil
  | _, _, .cons h hs => .cons (RelP.mono k p h) (RelPs.mono k p hs)
end
mutual
/-- a value without numbers of the store from n on -/
theorem RelP.cut {n : Nat} (hn : ρ.take n <+: ρ') : ∀ {x : PV} {v : V}, x.und n = true → RelP K ρ H x v → RelP K ρ' H x v
  | _, _, _, .non => .non
  | _, _, _, .bl b => .bl b
  | _, _, _, .int i => .int i
  | _, _, _, .str x => .str x
  | _, _, e, .tup h hs => .tup h (RelPs.cut hn (by simpa [PV.und] using e) hs)
  | _, _, e, .lst h hs => .lst h (RelPs.cut hn (by simpa [PV.und] using e) hs)
  | _, _, e, .obj h hs => .obj h (RelPs.cut hn (by simpa [PV.und] using e) hs)
  | .ref k, _, e, .ref h => .ref (pre_get hn (by
      have e' : k < n := by simpa [PV.und] using e
      rw [List.getElem?_take_of_lt e']; exact h))
theorem RelPs.cut {n : Nat} (hn : ρ.take n <+: ρ') : ∀ {xs : List PV} {vs : List V}, PV.unds n xs = true → RelPs K ρ H xs vs → RelPs K ρ' H xs vs
  | _, _, _, .nil => .nil
  | _, _, e, .cons h hs => by
    have e' := Bool.and_eq_true_iff.mp (by simpa [PV.unds] using e)
    exact .cons (RelP.cut hn e'.1 h) (RelPs.cut hn e'.2 hs)
end
mutual
theorem PV.und_of_pure {n : Nat} : ∀ {x : PV}, x.pure = true → x.und n = true
  | .non, _ => rfl
  | .bl _, _ => rfl
  | .int _, _ => rfl
  | .str _, _ => rfl
  | .tup xs, h => by simpa [PV.und] using PV.unds_of_pures (show PV.pures xs = true by simpa [PV.pure] using h)
  | .lst xs, h => by simpa [PV.und] using PV.unds_of_pures (show PV.pures xs = true by simpa [PV.pure] using h)
  | .obj _ xs, h => by simpa [PV.und] using PV.unds_of_pures (show PV.pures xs = true by simpa [PV.pure] using h)
  | .ref _, h => by simp [PV.pure] at h
theorem PV.unds_of_pures {n : Nat} : ∀ {xs : List PV}, PV.pures xs = true → PV.unds n xs = true
  | [], _ => rfl
  | x :: xs, h => by
    have h' := Bool.and_eq_true_iff.mp (by simpa [PV.pures] using h)
    simp [PV.unds, PV.und_of_pure h'.1, PV.unds_of_pures h'.2]
end
mutual
theorem PV.und_mono {n m : Nat} (h : n ≤ m) : ∀ {x : PV}, x.und n = true → x.und m = true
  | .non, _ => rfl
  | .bl _, _ => rfl
  | .int _, _ => rfl
  | .str _, _ => rfl
  | .tup xs, e => by simpa [PV.und] using PV.unds_mono h (show PV.unds n xs = true by simpa [PV.und] using e)
  | .lst xs, e => by simpa [PV.und] using PV.unds_mono h (show PV.unds n xs = true by simpa [PV.und] using e)
  | .obj _ xs, e => by simpa [PV.und] using PV.unds_mono h (show PV.unds n xs = true by simpa [PV.und] using e)
  | .ref k, e => by
    have e' : k < n := by simpa [PV.und] using e
    simp [PV.und]; omega
theorem PV.unds_mono {n m : Nat} (h : n ≤ m) : ∀ {xs : List PV}, PV.unds n xs = true → PV.unds m xs = true
  | [], _ => rfl
  | x :: xs, e => by
    have e' := Bool.and_eq_true_iff.mp (by simpa [PV.unds] using e)
    simp [PV.unds, PV.und_mono h e'.1, PV.unds_mono h e'.2]
end
mutual
theorem RelP.und : ∀ {x : PV} {v : V}, RelP K ρ H x v → x.und ρ.length = true
  | _, _, .non => rfl
  | _, _, .bl _ => rfl
  | _, _, .int _ => rfl
  | _, _, .str _ => rfl
  | _, _, .tup _ hs => by simpa [PV.und] using RelPs.und hs
  | _, _, .lst _ hs => by simpa [PV.und] using RelPs.und hs
  | _, _, .obj _ hs => by simpa [PV.und] using RelPs.und hs
  | _, _, .ref h => by simpa [PV.und] using (List.getElem?_eq_some_iff.mp h).1
theorem RelPs.und : ∀ {xs : List PV} {vs : List V}, RelPs K ρ H xs vs → PV.unds ρ.length xs = true
  | _, _, .nil => rfl
  | _, _, .cons h hs => by simp [PV.unds, RelP.und h, RelPs.und hs]
end
theorem RelP.pure_any {x : PV} {v : V} (h : x.pure = true) (r : RelP K ρ H x v) : RelP K ρ' H x v :=
  RelP.cut (n := 0) (by simp) (PV.und_of_pure h) r
theorem RelPs.pure_any {x : List PV} {v : List V} (h : PV.pures x = true) (r : RelPs K ρ H x v) : RelPs K ρ' H x v :=
  RelPs.cut (n := 0) (by simp) (PV.unds_of_pures h) r
theorem RelPs.length : ∀ {xs : List PV} {vs : List V}, RelPs K ρ H xs vs → xs.length = vs.length
  | _, _, .nil => rfl
  | _, _, .cons _ t => congrArg (· + 1) (RelPs.length t)
theorem RelPs.get : ∀ {xs : List PV} {vs : List V} {i : Nat} {x : PV}, RelPs K ρ H xs vs → xs[i]? = some x → ∃ v, vs[i]? = some v ∧ RelP K ρ H x v
  | _, _, _, _, .nil, e => by simp at e
  | _, _, 0, _, .cons r _, e => by simp at e; subst e; exact ⟨_, rfl, r⟩
  | _, _, i + 1, x, .cons _ t, e => by
    obtain ⟨v, h1, h2⟩ := RelPs.get (i := i) (x := x) t (by simpa using e)
    exact ⟨v, by simpa using h1, h2⟩
theorem RelPs.set {x : PV} {v : V} (r : RelP K ρ H x v) : ∀ {xs : List PV} {vs : List V} (i : Nat), RelPs K ρ H xs vs → RelPs K ρ H (xs.set i x) (vs.set i v)
  | _, _, _, .nil => .nil
  | _, _, 0, .cons _ t => .cons r t
  | _, _, i + 1, .cons q t => .cons q (RelPs.set r i t)
theorem RelPs.app : ∀ {xs ys : List PV} {vs ws : List V}, RelPs K ρ H xs vs → RelPs K ρ H ys ws → RelPs K ρ H (xs ++ ys) (vs ++ ws)
  | _, _, _, _, .nil, s => s
  | _, _, _, _, .cons r t, s => .cons r (RelPs.app t s)
theorem RelPs.take : ∀ {xs : List PV} {vs : List V} (n : Nat), RelPs K ρ H xs vs → RelPs K ρ H (xs.take n) (vs.take n)
  | _, _, 0, _ => .nil
  | _, _, _ + 1, .nil => .nil
  | _, _, n + 1, .cons r t => .cons r (RelPs.take n t)
theorem RelPs.drop : ∀ {xs : List PV} {vs : List V} (n : Nat), RelPs K ρ H xs vs → RelPs K ρ H (xs.drop n) (vs.drop n)
  | _, _, 0, r => r
  | _, _, _ + 1, .nil => .nil
  | _, _, n + 1, .cons _ t => RelPs.drop n t
theorem RelPs.one {x : PV} {vs : List V} (h : RelPs K ρ H [x] vs) : ∃ v, vs = [v] ∧ RelP K ρ H x v := by
  cases h with
  | cons r t => cases t; exact ⟨_, rfl, r⟩
theorem RelPs.two {x y : PV} {vs : List V} (h : RelPs K ρ H [x, y] vs) : ∃ v w, vs = [v, w] ∧ RelP K ρ H x v ∧ RelP K ρ H y w := by
  cases h with
  | cons r t => obtain ⟨w, rfl, q⟩ := t.one; exact ⟨_, _, rfl, r, q⟩
theorem RelP.of_int {i : Int} {v : V} (h : RelP K ρ H (.int i) v) : v = .int i := by cases h; rfl
theorem RelP.of_bl {i : Bool} {v : V} (h : RelP K ρ H (.bl i) v) : v = .bl i := by cases h; rfl
theorem RelP.of_str {i : Str} {v : V} (h : RelP K ρ H (.str i) v) : v = .str i := by cases h; rfl
theorem RelP.of_non {v : V} (h : RelP K ρ H .non v) : v = .non := by cases h; rfl
theorem RelP.of_tup {xs : List PV} {v : V} (h : RelP K ρ H (.tup xs) v) : ∃ a vs, v = .ref a ∧ SqT K H a vs ∧ RelPs K ρ H xs vs := by cases h; exact ⟨_, _, rfl, by assumption, by assumption⟩
theorem RelP.of_lst {xs : List PV} {v : V} (h : RelP K ρ H (.lst xs) v) : ∃ a vs, v = .ref a ∧ RoL K H a vs ∧ RelPs K ρ H xs vs := by cases h; exact ⟨_, _, rfl, by assumption, by assumption⟩
theorem RelP.of_obj {c : Nat} {fs : List PV} {v : V} (h : RelP K ρ H (.obj c fs) v) : ∃ a dx o vs, v = .ref a ∧ H a = some (.frz o (.ins (RT.rc c) dx ((RT.rf c).zip vs))) ∧ RelPs K ρ H fs vs := by cases h; exact ⟨_, _, _, _, rfl, by assumption, by assumption⟩
theorem RelP.of_ref {k : Nat} {v : V} (h : RelP K ρ H (.ref k) v) : ∃ a, v = .ref a ∧ ρ[k]? = some a := by cases h; exact ⟨_, rfl, by assumption⟩
theorem RelP.is_non {x : PV} {v : V} (h : RelP K ρ H x v) : decide (v = .non) = decide (x = .non) := by
  cases h <;> simp
end
/-! ### the store in the heap -/
/-- one entry of a dict whose keys are rows of ints -/
def entI (x : List Int × Addr × Value) : DictEntry := ⟨PySem.reduceHash (PySem.Builtin.Tuple.tupleHashOf (x.1.map hashInt)), .ref x.2.1, x.2.2⟩
theorem entI_eq (P : Program) (w : World) : entryOfKey (tupleKind (intKind P w)) = entI := rfl
/-- a dict whose keys are rows of ints, as its object is -/
def dTO (a : Addr) (xs : List (List Int × Addr × Value)) : HO := .ext fun h => ∃ o es ep, h.get? a = some o ∧ o.ExactDict ∧ o.data = .dict es ep ∧ es.toList = xs.map entI ∧ (xs.map (·.1)).Nodup
/-- the entries' values -/
structure DtOk (K : PySem.W.Frag) (ρ : List Addr) (H : Hp) (kvs : List (List Int × PV)) (xs : List (List Int × Addr × Value)) : Prop where
  rel : Paired (fun (p : List Int × PV) (q : List Int × Addr × Value) => p.1 = q.1 ∧ SqT K H q.2.1 (p.1.map V.int) ∧ ∃ v, RelP K ρ H p.2 v ∧ RelV v q.2.2) kvs xs
def CellOk (K : PySem.W.Frag) (ρ : List Addr) (H : Hp) (a : Addr) : Cell → Prop
  | .lst xs => ∃ vs, RelPs K ρ H xs vs ∧ H a = some (.lst vs)
  | .ro xs => ∃ vs, RelPs K ρ H xs vs ∧ ∃ o, H a = some (.frz o (.lst vs))
  | .dT kvs => ∃ xs, DtOk K ρ H kvs xs ∧ xs.length ≤ sizeLine ∧ (a == sysModules) = false ∧ H a = some (dTO a xs)
  | .dK kvs => ∃ ws : List (Key × V), Paired (fun p q => p.1 = q.1 ∧ RelP K ρ H p.2 q.2) kvs ws ∧ H a = some (.dK ws)
  | .ins c fs => ∃ dx vs, RelPs K ρ H fs vs ∧ fs.length ≤ (RT.rf c).length ∧ H a = some (.ins (RT.rc c) dx ((RT.rf c).zip vs))
def Cell.isRo : Cell → Bool
  | .ro _ => true
  | _ => false
structure StOk (K : PySem.W.Frag) (b : Nat) (ρ : List Addr) (S : Sto) (H : Hp) : Prop where
  len : ρ.length = S.cells.length
  cell : ∀ (k : Nat) (c : Cell) (a : Addr), S.cells[k]? = some c → ρ[k]? = some a → CellOk K ρ H a c
  inj : ∀ (j k : Nat) (a : Addr) (c d : Cell), ρ[j]? = some a → ρ[k]? = some a → S.cells[j]? = some c → S.cells[k]? = some d → c.isRo = false → d.isRo = false → j = k
  base : b ≤ S.cells.length
def okU (n : Nat) (cells : List Cell) : Prop := ∀ (k : Nat) (c : Cell), k < n → cells[k]? = some c → c.und n = true
structure Grow (b : Nat) (ρ ρ' : List Addr) (S S' : Sto) (H H' : Hp) : Prop where
  keep : Keep H H'
  pre : ρ <+: ρ'
  len : S.cells.length ≤ S'.cells.length
  frame : ∀ a o, H a = some o → a ∉ ρ → H' a = some o ∧ a ∉ ρ'
  und : S'.dirty = false → S.dirty = false ∧ ∀ n, n ≤ b → okU n S.cells → okU n S'.cells
section
variable {K : PySem.W.Frag} {b : Nat} {ρ ρ' ρ1 : List Addr} {S S' S1 : Sto} {H H' H1 : Hp}
theorem Grow.refl : Grow b ρ ρ S S H H := ⟨.refl _, List.prefix_refl _, Nat.le_refl _, fun _ _ e n => ⟨e, n⟩, fun h => ⟨h, fun _ _ h => h⟩⟩
theorem Grow.trans (x : Grow b ρ ρ1 S S1 H H1) (y : Grow b ρ1 ρ' S1 S' H1 H') : Grow b ρ ρ' S S' H H' :=
  ⟨x.keep.trans y.keep, x.pre.trans y.pre, Nat.le_trans x.len y.len, fun a o e n => let ⟨e1, n1⟩ := x.frame a o e n; y.frame a o e1 n1, fun h => by
    obtain ⟨h1, h2⟩ := y.und h
    obtain ⟨h3, h4⟩ := x.und h1
    exact ⟨h3, fun n hn u => h2 n hn (h4 n hn u)⟩⟩
theorem Grow.less {c : Nat} (x : Grow c ρ ρ' S S' H H') (h : b ≤ c) : Grow b ρ ρ' S S' H H' :=
  ⟨x.keep, x.pre, x.len, x.frame, fun e => ⟨(x.und e).1, fun n hn => (x.und e).2 n (Nat.le_trans hn h)⟩⟩
theorem StOk.lt (so : StOk K b ρ S H) {k : Nat} {c : Cell} (h : S.cells[k]? = some c) : ∃ a, ρ[k]? = some a := by
  have h1 := (List.getElem?_eq_some_iff.mp h).1
  rw [← so.len] at h1
  exact ⟨ρ[k], by simp [h1]⟩
theorem StOk.sql (so : StOk K b ρ S H) {k : Nat} {xs : List PV} (h : S.lst? k = some xs) {a : Addr} (e : ρ[k]? = some a) : ∃ vs, RelPs K ρ H xs vs ∧ SqL K H a vs := by
  unfold Sto.lst? at h
  cases q : S.cells[k]? with
  | none => rw [q] at h; cases h
  | some c =>
    rw [q] at h
    have co := so.cell k c a q e
    cases c with
    | lst ys => cases h; obtain ⟨vs, r, z⟩ := co; exact ⟨vs, r, SqL.of z⟩
    | ro ys => cases h; obtain ⟨vs, r, z⟩ := co; exact ⟨vs, r, .inl (.inr z)⟩
    | _ => cases h
theorem StOk.lst (so : StOk K b ρ S H) {k : Nat} {xs : List PV} (h : S.cells[k]? = some (.lst xs)) {a : Addr} (e : ρ[k]? = some a) : ∃ vs, RelPs K ρ H xs vs ∧ H a = some (.lst vs) := so.cell k _ a h e
theorem DtOk.keep {kvs : List (List Int × PV)} {xs : List (List Int × Addr × Value)} (d : DtOk K ρ H kvs xs) (k : Keep H H') (p : ρ <+: ρ') : DtOk K ρ' H' kvs xs :=
  ⟨Paired.mapP d.rel fun _ _ z => ⟨z.1, k.sqT z.2.1, let ⟨v, r, q⟩ := z.2.2; ⟨v, r.mono k p, q⟩⟩⟩
theorem CellOk.keep {a : Addr} {c : Cell} (co : CellOk K ρ H a c) (k : Keep H H') (p : ρ <+: ρ') (h : c.isRo = false → ∀ o, Wr o → H a = some o → H' a = some o) : CellOk K ρ' H' a c := by
  cases c with
  | lst xs => obtain ⟨vs, r, z⟩ := co; exact ⟨vs, r.mono k p, h rfl _ trivial z⟩
  | ro xs => obtain ⟨vs, r, o, z⟩ := co; exact ⟨vs, r.mono k p, o, k.frz _ _ _ z⟩
  | dT kvs => obtain ⟨xs, r, z1, z2, z⟩ := co; exact ⟨xs, r.keep k p, z1, z2, h rfl _ trivial z⟩
  | dK kvs => obtain ⟨ws, r, z⟩ := co; exact ⟨ws, Paired.mapP r fun _ _ z => ⟨z.1, z.2.mono k p⟩, h rfl _ trivial z⟩
  | ins c fs => obtain ⟨dx, vs, r, l, z⟩ := co; exact ⟨dx, vs, r.mono k p, l, h rfl _ trivial z⟩
/-- a cell that may change stands at a thing that may be written -/
theorem CellOk.wr {a : Addr} {c : Cell} (co : CellOk K ρ H a c) (h : c.isRo = false) : ∃ o, H a = some o ∧ Wr o := by
  cases c with
  | lst xs => obtain ⟨vs, r, z⟩ := co; exact ⟨_, z, trivial⟩
  | ro xs => cases h
  | dT kvs => obtain ⟨xs, r, z1, z2, z⟩ := co; exact ⟨_, z, trivial⟩
  | dK kvs => obtain ⟨ws, r, z⟩ := co; exact ⟨_, z, trivial⟩
  | ins c fs => obtain ⟨dx, vs, r, l, z⟩ := co; exact ⟨_, z, trivial⟩
/-- every cell stands at something -/
theorem CellOk.some {a : Addr} {c : Cell} (co : CellOk K ρ H a c) : H a ≠ none := by
  cases c with
  | lst xs => obtain ⟨vs, r, z⟩ := co; rw [z]; simp
  | ro xs => obtain ⟨vs, r, o, z⟩ := co; rw [z]; simp
  | dT kvs => obtain ⟨xs, r, z1, z2, z⟩ := co; rw [z]; simp
  | dK kvs => obtain ⟨ws, r, z⟩ := co; rw [z]; simp
  | ins c fs => obtain ⟨dx, vs, r, l, z⟩ := co; rw [z]; simp
theorem StOk.nin (so : StOk K b ρ S H) {a : Addr} (h : H a = none) : a ∉ ρ := fun m => by
  obtain ⟨k, hk⟩ := List.mem_iff_getElem?.mp m
  have hkl := (List.getElem?_eq_some_iff.mp hk).1
  have hkc : k < S.cells.length := by rw [← so.len]; exact hkl
  exact (so.cell k (S.cells[k]) a (by simp [hkc]) hk).some h
/-- a new object that no number tells of -/
theorem StOk.alloc (so : StOk K b ρ S H) {p : Addr} {o : HO} (h : H p = none) : StOk K b ρ S (upd H p o) :=
  ⟨so.len, fun k c a q e => (so.cell k c a q e).keep (.new h) (List.prefix_refl _) fun _ vs _ z => by rw [upd_ne (ne_of_none z h)]; exact z, so.inj, so.base⟩
theorem Grow.alloc {p : Addr} {o : HO} (h : H p = none) : Grow b ρ ρ S S H (upd H p o) := ⟨.new h, List.prefix_refl _, Nat.le_refl _, fun a u e n => ⟨by rw [upd_ne (ne_of_none e h)]; exact e, n⟩, fun h => ⟨h, fun _ _ h => h⟩⟩
theorem get_snoc {α : Type} {xs : List α} {x y : α} {k : Nat} (h : (xs ++ [x])[k]? = some y) : xs[k]? = some y ∨ (k = xs.length ∧ y = x) := by
  by_cases hk : k < xs.length
  · rw [List.getElem?_append_left hk] at h; exact .inl h
  · rw [List.getElem?_append_right (by omega)] at h
    have h2 := (List.getElem?_eq_some_iff.mp h).1
    have h3 : k - xs.length = 0 := by simp at h2; omega
    rw [h3] at h
    exact .inr ⟨by omega, by simpa using h.symm⟩
/-- a new cell -/
theorem StOk.pushC (so : StOk K b ρ S H) {p : Addr} {c : Cell} {o : HO} (h : H p = none) (hc : CellOk K (ρ ++ [p]) (upd H p o) p c) : StOk K b (ρ ++ [p]) (S.push c) (upd H p o) := by
  have kp : Keep H (upd H p o) := .new h
  have pp : ρ <+: ρ ++ [p] := List.prefix_append _ _
  have old : ∀ (j : Nat) (a : Addr) (c : Cell), ρ[j]? = some a → S.cells[j]? = some c → c.isRo = false → a ≠ p := fun j a c e q hc z => by
    obtain ⟨u, w, _⟩ := (so.cell j c a q e).wr hc
    rw [z, h] at w; cases w
  have L := so.len
  have gc : ∀ {k : Nat} {d : Cell}, (S.push c).cells[k]? = some d → (k < S.cells.length ∧ S.cells[k]? = some d) ∨ (k = S.cells.length ∧ d = c) := fun {k d} q => by
    rcases get_snoc (show (S.cells ++ [c])[k]? = some d from q) with q | q
    · exact .inl ⟨(List.getElem?_eq_some_iff.mp q).1, q⟩
    · exact .inr q
  have ga : ∀ {k : Nat} {a : Addr}, (ρ ++ [p])[k]? = some a → (k < S.cells.length ∧ ρ[k]? = some a) ∨ (k = S.cells.length ∧ a = p) := fun {k a} e => by
    rcases get_snoc e with e | ⟨e, f⟩
    · have := (List.getElem?_eq_some_iff.mp e).1
      exact .inl ⟨by omega, e⟩
    · exact .inr ⟨by omega, f⟩
  refine ⟨by simp [Sto.push, so.len], fun k d a q e => ?_, fun j k a d d' e1 e2 q1 q2 n1 n2 => ?_, by have := so.base; simp [Sto.push]; omega⟩
  · rcases gc q with ⟨l1, q⟩ | ⟨l1, hd⟩ <;> rcases ga e with ⟨l2, e⟩ | ⟨l2, ha⟩
    · refine (so.cell k d a q e).keep kp pp fun _ u _ z => ?_
      rw [upd_ne (ne_of_none z h)]; exact z
    · omega
    · omega
    · rw [hd, ha]; exact hc
  · rcases gc q1 with ⟨l1, q1⟩ | ⟨l1, hd1⟩ <;> rcases gc q2 with ⟨l2, q2⟩ | ⟨l2, hd2⟩
    · rcases ga e1 with ⟨m1, e1⟩ | ⟨m1, _⟩
      · rcases ga e2 with ⟨m2, e2⟩ | ⟨m2, _⟩
        · exact so.inj j k a d d' e1 e2 q1 q2 n1 n2
        · omega
      · omega
    · rcases ga e1 with ⟨m1, f1⟩ | ⟨m1, _⟩
      · rcases ga e2 with ⟨m2, _⟩ | ⟨_, f2⟩
        · omega
        · exact absurd f2 (old j a d f1 q1 n1)
      · omega
    · rcases ga e2 with ⟨m2, f2⟩ | ⟨m2, _⟩
      · rcases ga e1 with ⟨m1, _⟩ | ⟨_, f1⟩
        · omega
        · exact absurd f1 (old k a d' f2 q2 n2)
      · omega
    · omega
/-- a new list -/
theorem StOk.push (so : StOk K b ρ S H) {p : Addr} {xs : List PV} {vs : List V} (h : H p = none) (r : RelPs K ρ H xs vs) : StOk K b (ρ ++ [p]) (S.push (.lst xs)) (upd H p (.lst vs)) :=
  so.pushC h ⟨vs, r.mono (.new h) (List.prefix_append _ _), upd_same⟩
theorem Grow.push {p : Addr} {c : Cell} {o : HO} (hb : b ≤ S.cells.length) (h : H p = none) : Grow b ρ (ρ ++ [p]) S (S.push c) H (upd H p o) :=
  ⟨.new h, List.prefix_append _ _, by simp [Sto.push], fun a u e n => ⟨by rw [upd_ne (ne_of_none e h)]; exact e, fun m => (List.mem_append.mp m).elim n fun z => ne_of_none e h (List.mem_singleton.mp z)⟩, fun e => ⟨e, fun n hn u k d hk q => by
    rw [show (S.push c).cells = S.cells ++ [c] from rfl, List.getElem?_append_left (by omega)] at q
    exact u k d hk q⟩⟩
/-- a cell is written -/
theorem StOk.writeC (so : StOk K b ρ S H) {k : Nat} {a : Addr} {c d : Cell} {o : HO} {p : Bool} (hk : S.cells[k]? = some c) (nc : c.isRo = false) (e : ρ[k]? = some a) (kp : Keep H (upd H a o)) (hd : CellOk K ρ (upd H a o) a d) : StOk K b ρ (S.wr b k d p) (upd H a o) := by
  have hkl := (List.getElem?_eq_some_iff.mp hk).1
  have get : ∀ {j : Nat} {c : Cell}, (S.cells.set k d)[j]? = some c → (j = k ∧ c = d) ∨ (j ≠ k ∧ S.cells[j]? = some c) := fun {j c} q => by
    by_cases hj : k = j
    · subst hj
      rw [List.getElem?_set_self hkl] at q
      cases q; exact .inl ⟨rfl, rfl⟩
    · rw [List.getElem?_set_ne hj] at q
      exact .inr ⟨fun z => hj z.symm, q⟩
  have get' : ∀ {j : Nat} {c : Cell}, (S.cells.set k d)[j]? = some c → c.isRo = false → ∃ c', S.cells[j]? = some c' ∧ c'.isRo = false := fun {j c} q hc => by
    rcases get q with ⟨rfl, rfl⟩ | ⟨_, q⟩
    · exact ⟨_, hk, nc⟩
    · exact ⟨_, q, hc⟩
  refine ⟨by simp [Sto.wr, so.len], fun j c a' q e' => ?_, fun j i a' c d e1 e2 q1 q2 n1 n2 => ?_, by have := so.base; simp [Sto.wr]; omega⟩
  · rcases get (show (S.cells.set k d)[j]? = some c from q) with ⟨rfl, rfl⟩ | ⟨hj, q⟩
    · rw [e] at e'; cases e'
      exact hd
    · refine (so.cell j c a' q e').keep kp (List.prefix_refl _) fun nr u _ z => ?_
      rw [upd_ne fun (z' : a' = a) => hj (so.inj j k a c _ (by rw [← z']; exact e') e q hk nr nc)]
      exact z
  · obtain ⟨c', q1', n1'⟩ := get' (show (S.cells.set k _)[j]? = some c from q1) n1
    obtain ⟨d', q2', n2'⟩ := get' (show (S.cells.set k _)[i]? = some d from q2) n2
    exact so.inj j i a' c' d' e1 e2 q1' q2' n1' n2'
/-- a list is written -/
theorem StOk.write (so : StOk K b ρ S H) {k : Nat} {a : Addr} {ys xs : List PV} {vs : List V} {p : Bool} (hk : S.cells[k]? = some (.lst ys)) (e : ρ[k]? = some a) (r : RelPs K ρ H xs vs) : StOk K b ρ (S.wr b k (.lst xs) p) (upd H a (.lst vs)) := by
  obtain ⟨ws, _, hw⟩ := so.lst hk e
  exact so.writeC hk rfl e (.wlst hw) ⟨vs, r.mono (.wlst hw) (List.prefix_refl _), upd_same⟩
end
end MP
end
section
set_option Elab.async false
set_option linter.all false
set_option maxRecDepth 100000
/-! MPSound2: what a run promises; how promises are joined. -/
namespace MP
open PySem L2
variable [RT]
/-- a cell is written -/
theorem Grow.writeC {b : Nat} {ρ : List Addr} {S : Sto} {H : Hp} {k : Nat} {a : Addr} {c d : Cell} {o : HO} {v : PV} (hk : S.cells[k]? = some c) (ha : ρ[k]? = some a) (kp : Keep H (upd H a o))
    (hu : ∀ n, c.und n = true → v.und n = true → d.und n = true) : Grow b ρ ρ S (S.wr b k d v.pure) H (upd H a o) := by
  have hkl := (List.getElem?_eq_some_iff.mp hk).1
  refine ⟨kp, List.prefix_refl _, by simp [Sto.wr], fun q u e n => ⟨by rw [upd_ne fun z => n (by rw [z]; exact List.mem_of_getElem? ha)]; exact e, n⟩, fun e => ?_⟩
  have e' : S.dirty = false ∧ (decide (k < b) && !v.pure) = false := by simpa [Sto.wr] using e
  refine ⟨e'.1, fun n hn u j c' hj q => ?_⟩
  by_cases hjk : k = j
  · subst hjk
    rw [show (S.wr b k d v.pure).cells = S.cells.set k d from rfl, List.getElem?_set_self hkl] at q
    cases q
    have hkb : decide (k < b) = true := by simp; omega
    have pv : v.pure = true := by
      have := e'.2
      rw [hkb] at this
      simpa using this
    exact hu n (u k _ hj hk) (PV.und_of_pure pv)
  · rw [show (S.wr b k d v.pure).cells = S.cells.set k d from rfl, List.getElem?_set_ne hjk] at q
    exact u j c' hj q
theorem Grow.write {b : Nat} {ρ : List Addr} {S : Sto} {H : Hp} {k : Nat} {a : Addr} {ys xs : List PV} {vs ws : List V} {v : PV} (hk : S.cells[k]? = some (.lst ys)) (ha : ρ[k]? = some a) (hw : H a = some (.lst ws))
    (hu : ∀ n, PV.unds n ys = true → v.und n = true → PV.unds n xs = true) : Grow b ρ ρ S (S.wr b k (.lst xs) v.pure) H (upd H a (.lst vs)) :=
  .writeC hk ha (.wlst hw) fun n h1 h2 => by simpa [Cell.und] using hu n (by simpa [Cell.und] using h1) h2
/-! ### things that are locked -/
/-- what is wanted, or it is wanted once a thing is locked -/
def lk (Q : VK) : VK := fun v H => Q v H ∨ ∃ p u, H p = some u ∧ Mut (some u) ∧ ∀ o, Q v (upd H p (.frz o u))
theorem EP.unlk {X : Cx} {pins : List (Addr × Obj)} {σ : L2.St} {Q : VK} {u : Value} {s : Shared} (h : EP X pins σ (lk Q) u s) : EP X pins σ Q u s := by
  obtain ⟨v, H, I, r, q⟩ := h
  rcases q with q | ⟨p, w, e, mu, q⟩
  · exact ⟨v, H, I, r, q⟩
  · obtain ⟨o, J⟩ := I.lock e mu
    exact ⟨v, _, J, r, q o⟩
theorem PE.lock {X : Cx} {e : Expr} {t : TE} (h : PE X e t) : PE X e (fun σ H Q => t σ H (lk Q)) :=
  ⟨fun pins s σ H Q I q => thn (h.run pins s σ H _ I q) fun _ _ z => EP.unlk z⟩
/-- a list that is new and locked -/
theorem lock_new {b : Nat} {ρ : List Addr} {S : Sto} {H : Hp} {K : PySem.W.Frag} {Q : VK} {p : Addr} {xs : List PV} {vs : List V} (so : StOk K b ρ S H) (hp : H p = none) (r : RelPs K ρ H xs vs)
    (h : ∀ H' w, Grow b ρ ρ S S H H' → StOk K b ρ S H' → RelP K ρ H' (.lst xs) w → Q w H') : lk Q (.ref p) (upd H p (.lst vs)) := by
  refine .inr ⟨p, .lst vs, upd_same, trivial, fun o => ?_⟩
  rw [upd_upd]
  exact h _ _ (.alloc hp) (so.alloc hp) (.lst (.inl ⟨o, upd_same⟩) (r.mono (.new hp) (List.prefix_refl _)))
/-! ### exceptions -/
/-- the text's exception classes: where they stand, the names of their attributes -/
structure Exc where
  n : Nat
  at_ : Nat → Addr
  attrs : Nat → List Str
def ExcOk (K : PySem.W.Frag) (T : Exc) (ρ : List Addr) (H : Hp) (c : Nat) (as : List PV) (cls : Value) (d : Option Addr) : Prop :=
  c < T.n ∧ cls = .ref (T.at_ c) ∧ as.length = (T.attrs c).length ∧ ((T.attrs c = [] ∧ d = none) ∨ T.attrs c ≠ [] ∧ ∃ dd fs ws, d = some dd ∧ H dd = some (.xd fs) ∧ (∀ f, fs.lookup f = ((T.attrs c).zip ws).lookup f) ∧ RelPs K ρ H as ws)
theorem ExcOk.mono {K : PySem.W.Frag} {T : Exc} {ρ ρ' : List Addr} {H H' : Hp} {c : Nat} {as : List PV} {cls : Value} {d : Option Addr} (k : Keep H H') (p : ρ <+: ρ') (x : ExcOk K T ρ H c as cls d) : ExcOk K T ρ' H' c as cls d := by
  obtain ⟨h0, h1, h2, h3⟩ := x
  refine ⟨h0, h1, h2, h3.imp id fun ⟨n, dd, fs, ws, e, z, l, r⟩ => ⟨n, dd, fs, ws, e, k.xd _ _ z, l, r.mono k p⟩⟩
/-! ### the slots -/
/-- the exception that a suite holds: its slot, its address, its class's number, its class and dict -/
structure Held where
  i : Nat
  a : Addr
  c : Nat
  cls : Value
  d : Option Addr
structure EnvOk (K : PySem.W.Frag) (T : Exc) (ex : Option Held) (ρ : List Addr) (H : Hp) (σ : Env) (τ : L2.St) : Prop where
  len : σ.length = τ.length
  val : ∀ (i : Nat) (v : PV), σ[i]? = some (some v) → (∀ x, ex = some x → x.i ≠ i) → ∃ w, τ[i]? = some (some w) ∧ RelP K ρ H v w
  held : ∀ x, ex = some x → ∃ as, σ[x.i]? = some (some (.tup (.int x.c :: as))) ∧ τ[x.i]? = some (some (.ref x.a)) ∧ ExcOk K T ρ H x.c as x.cls x.d
theorem EnvOk.mono {K : PySem.W.Frag} {T : Exc} {ex : Option Held} {ρ ρ' : List Addr} {H H' : Hp} {σ : Env} {τ : L2.St} (e : EnvOk K T ex ρ H σ τ) (k : Keep H H') (p : ρ <+: ρ') : EnvOk K T ex ρ' H' σ τ :=
  ⟨e.len, fun i v h n => let ⟨w, h1, h2⟩ := e.val i v h n; ⟨w, h1, h2.mono k p⟩, fun x hx => let ⟨as, h1, h2, h3⟩ := e.held x hx; ⟨as, h1, h2, h3.mono k p⟩⟩
theorem EnvOk.grow {K : PySem.W.Frag} {T : Exc} {ex : Option Held} {b : Nat} {ρ ρ' : List Addr} {S S' : Sto} {H H' : Hp} {σ : Env} {τ : L2.St} (e : EnvOk K T ex ρ H σ τ) (g : Grow b ρ ρ' S S' H H') : EnvOk K T ex ρ' H' σ τ := e.mono g.keep g.pre
theorem EnvOk.setH {K : PySem.W.Frag} {T : Exc} {ex : Option Held} {ρ : List Addr} {H : Hp} {σ : Env} {τ : L2.St} {v : PV} {w : V} (e : EnvOk K T ex ρ H σ τ) (i : Nat) (r : RelP K ρ H v w) (hi : ∀ x, ex = some x → x.i ≠ i) : EnvOk K T ex ρ H (σ.set i (some v)) (τ.set i (some w)) := by
  refine ⟨by simp [e.len], fun j u h n => ?_, fun x hx => by
    have ne := hi x hx
    obtain ⟨as, h1, h2, h3⟩ := e.held x hx
    exact ⟨as, by rw [List.getElem?_set_ne (Ne.symm ne)]; exact h1, by rw [List.getElem?_set_ne (Ne.symm ne)]; exact h2, h3⟩⟩
  by_cases hj : i = j
  · subst hj
    by_cases hi : i < σ.length
    · rw [List.getElem?_set_self hi] at h
      cases h
      exact ⟨w, by rw [List.getElem?_set_self (by rw [← e.len]; exact hi)], r⟩
    · rw [List.getElem?_eq_none (by simpa using hi)] at h; cases h
  · rw [List.getElem?_set_ne hj] at h
    rw [List.getElem?_set_ne hj]
    exact e.val j u h n
theorem EnvOk.set {K : PySem.W.Frag} {T : Exc} {ρ : List Addr} {H : Hp} {σ : Env} {τ : L2.St} {v : PV} {w : V} (e : EnvOk K T none ρ H σ τ) (i : Nat) (r : RelP K ρ H v w) : EnvOk K T none ρ H (σ.set i (some v)) (τ.set i (some w)) := e.setH i r fun x hx => by cases hx
theorem EnvOk.unset {K : PySem.W.Frag} {T : Exc} {ρ : List Addr} {H : Hp} {σ : Env} {τ : L2.St} (e : EnvOk K T none ρ H σ τ) (i : Nat) : EnvOk K T none ρ H (σ.set i none) (τ.set i none) := by
  refine ⟨by simp [e.len], fun j u h n => ?_, fun x hx => by cases hx⟩
  by_cases hj : i = j
  · subst hj
    by_cases hi : i < σ.length
    · rw [List.getElem?_set_self hi] at h; cases h
    · rw [List.getElem?_eq_none (by simpa using hi)] at h; cases h
  · rw [List.getElem?_set_ne hj] at h
    rw [List.getElem?_set_ne hj]
    exact e.val j u h n
theorem EnvOk.wipe {K : PySem.W.Frag} {T : Exc} {ρ : List Addr} {H : Hp} {σ : Env} {τ : L2.St} (e : EnvOk K T none ρ H σ τ) : ∀ own : List Nat, EnvOk K T none ρ H (MP.wipe σ own) (L2.wipe τ own)
  | [] => e
  | v :: vs => (EnvOk.wipe e vs).unset v
/-! ### promises of runs -/
section
variable (K : PySem.W.Frag) (T : Exc) (b : Nat)
/-- rel: how a result lies -/
def At {α β : Type} (E : XK) (rel : List Addr → Hp → α → β → Prop) (ρ : List Addr) (S : Sto) (H : Hp) (res : R α) (Q : β → Hp → Prop) : Prop := match res with
  | .ok v S' => ∀ ρ' H' w, Grow b ρ ρ' S S' H H' → StOk K b ρ' S' H' → rel ρ' H' v w → Q w H'
  | .exc c as S' => ∀ ρ' H' cls d, Grow b ρ ρ' S S' H H' → StOk K b ρ' S' H' → ExcOk K T ρ' H' c as cls d → E cls d H'
  | .bad => False
def tG {α β : Type} (ex : Option Held) (W : WX) (rel : List Addr → Hp → α → β → Prop) (r : Env → Sto → R α) : L2.St → Hp → (β → Hp → Prop) → Prop := fun τ H Q =>
  ∃ ρ σ S, StOk K b ρ S H ∧ EnvOk K T ex ρ H σ τ ∧ At K T b (fun cls d H' => W cls d τ H') rel ρ S H (r σ S) Q
/-- how a walk lies: the items as the iterator gives them -/
structure WalkOk (ρ : List Addr) (H : Hp) (w : Walk) (J : L2.It) : Prop where
  ex : ∃ (n : Nat) (G : Hp → Prop) (Y : Nat → Hp → V → Hp → Prop), L2.Walk J n G Y ∧ w.1.length = n ∧
    (∀ ρ' S' H', Keep H H' → ρ <+: ρ' → StOk K b ρ' S' H' → stands S' w.2 = true → G H') ∧
    (∀ ρ' S' H' i x it H2, Keep H H' → ρ <+: ρ' → StOk K b ρ' S' H' → stands S' w.2 = true → w.1[i]? = some it → Y i H' x H2 → Grow b ρ' ρ' S' S' H' H2 ∧ StOk K b ρ' S' H2 ∧ RelP K ρ' H2 it x)
def relE : List Addr → Hp → PV → V → Prop := fun ρ H => RelP K ρ H
def relT : List Addr → Hp → Bool → Bool → Prop := fun _ _ a c => a = c
def relO : List Addr → Hp → Option Int → Option Int → Prop := fun _ _ a c => a = c
def relA : List Addr → Hp → List PV → List V → Prop := fun ρ H => RelPs K ρ H
def AtS (ex : Option Held) (W : WX) (D : Ends) (ρ : List Addr) (S : Sto) (H : Hp) (res : RS) : Prop := match res with
  | .next σ S' => ∀ ρ' H' τ, Grow b ρ ρ' S S' H H' → StOk K b ρ' S' H' → EnvOk K T ex ρ' H' σ τ → D.nx τ H'
  | .brk σ S' => ∀ ρ' H' τ, Grow b ρ ρ' S S' H H' → StOk K b ρ' S' H' → EnvOk K T ex ρ' H' σ τ → D.bk τ H'
  | .cont σ S' => ∀ ρ' H' τ, Grow b ρ ρ' S S' H H' → StOk K b ρ' S' H' → EnvOk K T ex ρ' H' σ τ → D.ct τ H'
  | .ret v S' => ∀ ρ' H' w, Grow b ρ ρ' S S' H H' → StOk K b ρ' S' H' → RelP K ρ' H' v w → D.rt w H'
  | .exc c as σ S' => ∀ ρ' H' τ cls d, Grow b ρ ρ' S S' H H' → StOk K b ρ' S' H' → EnvOk K T ex ρ' H' σ τ → ExcOk K T ρ' H' c as cls d → W cls d τ H'
  | .bad => False
def tS (ex : Option Held) (W : WX) (r : Env → Sto → RS) : TS := fun D τ H => ∃ ρ σ S, StOk K b ρ S H ∧ EnvOk K T ex ρ H σ τ ∧ AtS K T b ex W D ρ S H (r σ S)
end
section
variable {K : PySem.W.Frag} {T : Exc} {b : Nat} {E : XK} {α β γ δ : Type} {rel : List Addr → Hp → α → β → Prop} {rel2 : List Addr → Hp → γ → δ → Prop} {ρ ρ1 : List Addr} {S S1 : Sto} {H H1 : Hp}
theorem At.mono {res : R α} {Q Q' : β → Hp → Prop} (h : At K T b E rel ρ S H res Q) (hq : ∀ w H', Q w H' → Q' w H') : At K T b E rel ρ S H res Q' := by
  cases res with
  | ok v S' => exact fun ρ' H' w g s r => hq _ _ (h ρ' H' w g s r)
  | exc c as S' => exact h
  | bad => exact h
theorem At.grow {res : R α} {Q : β → Hp → Prop} (g : Grow b ρ ρ1 S S1 H H1) (h : At K T b E rel ρ S H res Q) : At K T b E rel ρ1 S1 H1 res Q := by
  cases res with
  | ok v S' => exact fun ρ' H' w g' s r => h ρ' H' w (g.trans g') s r
  | exc c as S' => exact fun ρ' H' cls d g' s r => h ρ' H' cls d (g.trans g') s r
  | bad => exact h
theorem At.less {c : Nat} {res : R α} {Q : β → Hp → Prop} (hb : b ≤ c) (hs : b ≤ S.cells.length) (h : At K T b E rel ρ S H res Q) : At K T c E rel ρ S H res Q := by
  have so : ∀ {ρ' : List Addr} {S' : Sto} {H' : Hp}, Grow c ρ ρ' S S' H H' → StOk K c ρ' S' H' → StOk K b ρ' S' H' := fun {ρ' S' H'} g s => ⟨s.len, s.cell, s.inj, Nat.le_trans hs g.len⟩
  cases res with
  | ok v S' => exact fun ρ' H' w g' s r => h ρ' H' w (g'.less hb) (so g' s) r
  | exc c as S' => exact fun ρ' H' cls d g' s r => h ρ' H' cls d (g'.less hb) (so g' s) r
  | bad => exact h
/-- one run behind another -/
theorem At.bd {r : R α} {f : α → Sto → R γ} {Q : δ → Hp → Prop} (h : At K T b E rel2 ρ S H (r.bd f) Q) :
    At K T b E rel ρ S H r (fun w H1 => ∃ ρ1 v S1, r = .ok v S1 ∧ Grow b ρ ρ1 S S1 H H1 ∧ StOk K b ρ1 S1 H1 ∧ rel ρ1 H1 v w ∧ At K T b E rel2 ρ1 S1 H1 (f v S1) Q) := by
  cases r with
  | ok v S' => exact fun ρ' H' w g s r => ⟨ρ', v, S', rfl, g, s, r, At.grow g (show At K T b E rel2 ρ S H (f v S') Q from h)⟩
  | exc c as S' => exact h
  | bad => exact h
theorem At.ok {v : α} {w : β} {Q : β → Hp → Prop} (so : StOk K b ρ S H) (h : At K T b E rel ρ S H (.ok v S) Q) (r : rel ρ H v w) : Q w H := h ρ H w .refl so r
theorem At.opt {o : Option α} {Q : β → Hp → Prop} (h : At K T b E rel ρ S H (MP.opt o S) Q) : ∃ v, o = some v ∧ At K T b E rel ρ S H (.ok v S) Q := by
  cases o with
  | none => exact h.elim
  | some v => exact ⟨v, rfl, h⟩
theorem AtS.grow {ex : Option Held} {W : WX} {D : Ends} {res : RS} (g : Grow b ρ ρ1 S S1 H H1) (h : AtS K T b ex W D ρ S H res) : AtS K T b ex W D ρ1 S1 H1 res := by
  cases res with
  | next σ S' => exact fun ρ' H' τ g' s e => h ρ' H' τ (g.trans g') s e
  | brk σ S' => exact fun ρ' H' τ g' s e => h ρ' H' τ (g.trans g') s e
  | cont σ S' => exact fun ρ' H' τ g' s e => h ρ' H' τ (g.trans g') s e
  | ret v S' => exact fun ρ' H' τ g' s e => h ρ' H' τ (g.trans g') s e
  | exc c as σ S' => exact fun ρ' H' τ cls d g' s e => h ρ' H' τ cls d (g.trans g') s e
  | bad => exact h
/-- an expression's run ahead of the rest of a statement -/
theorem AtS.st {ex : Option Held} {W : WX} {D : Ends} {r : R α} {σ : Env} {τ : L2.St} {f : α → Sto → RS} (eo : EnvOk K T ex ρ H σ τ) (h : AtS K T b ex W D ρ S H (r.st σ f)) :
    At K T b (fun cls d H' => W cls d τ H') rel ρ S H r (fun w H1 => ∃ ρ1 v S1, r = .ok v S1 ∧ Grow b ρ ρ1 S S1 H H1 ∧ StOk K b ρ1 S1 H1 ∧ EnvOk K T ex ρ1 H1 σ τ ∧ rel ρ1 H1 v w ∧ AtS K T b ex W D ρ1 S1 H1 (f v S1)) := by
  cases r with
  | ok v S' => exact fun ρ' H' w g s r => ⟨ρ', v, S', rfl, g, s, eo.grow g, r, AtS.grow g (show AtS K T b ex W D ρ S H (f v S') from h)⟩
  | exc c as S' => exact fun ρ' H' cls d g s x => h ρ' H' τ cls d g s (eo.grow g) x
  | bad => exact h
end
end MP
end
section
set_option Elab.async false
set_option linter.all false
set_option maxRecDepth 100000
/-! MPSound3: the operators. -/
namespace MP
open PySem PySem.Spec PyProof.Rows L2
theorem PE.weak {X : Cx} {e : Expr} {t t' : TE} (h : PE X e t) (w : ∀ σ H Q, t' σ H Q → t σ H Q) : PE X e t' := ⟨fun pins s σ H Q I q => h.run pins s σ H Q I (w σ H Q q)⟩
theorem PT.weak {X : Cx} {e : Expr} {t t' : TT} (h : PT X e t) (w : ∀ σ H Q, t' σ H Q → t σ H Q) : PT X e t' := ⟨fun pins s σ H Q I q => h.run pins s σ H Q I (w σ H Q q)⟩
theorem PW.weak {X : Cx} {e : Expr} {t t' : TT} (h : PW X e t) (w : ∀ σ H Q, t' σ H Q → t σ H Q) : PW X e t' := ⟨fun wh pins s σ H Q I q => h.run wh pins s σ H Q I (w σ H Q q)⟩
theorem PA.weak {X : Cx} {e : List Expr} {t t' : TA} (h : PA X e t) (w : ∀ σ H Q, t' σ H Q → t σ H Q) : PA X e t' := ⟨fun pos pins s σ H Q I q => h.run pos pins s σ H Q I (w σ H Q q)⟩
theorem PO.weak {X : Cx} {e : Option Expr} {t t' : TO} (h : PO X e t) (w : ∀ σ H Q, t' σ H Q → t σ H Q) : PO X e t' := ⟨fun pins s σ H Q I q => h.run pins s σ H Q I (w σ H Q q)⟩
theorem PS.weak {X : Cx} {e : Stmt} {t t' : TS} (h : PS X e t) (w : ∀ D σ H, t' D σ H → t D σ H) : PS X e t' := ⟨fun pins s σ H D I q => h.run pins s σ H D I (w D σ H q)⟩
theorem PSs.weak {X : Cx} {e : List Stmt} {t t' : TS} (h : PSs X e t) (w : ∀ D σ H, t' D σ H → t D σ H) : PSs X e t' := ⟨fun pins s σ H D I q => h.run pins s σ H D I (w D σ H q)⟩
theorem OpR.weak {X : Cx} {f : Value → Value → Sem Value} {r r' : R2} (h : OpR X f r) (w : ∀ x y H Q, r' x y H Q → r x y H Q) : OpR X f r' := fun pins s σ H x y v u Q I rx ry q => h pins s σ H x y v u Q I rx ry (w x y H Q q)
theorem line_eq : (sizeLine : Nat) = lenMax := by unfold lenMax; exact sizeLine_eq
theorem log_bits (x : Int) : Builtin.Int.intBits x ≤ x.natAbs.log2 + 1 := by
  unfold Builtin.Int.intBits
  split <;> omega
theorem bits64 {x : Int} (h : x.natAbs < 2 ^ 64) : Builtin.Int.intBits x ≤ 64 := intBits_le_64 (by omega) (by omega)
theorem mulOk_ok {i j : Int} (h : mulOk i j = true) : IntMulOk i j := by
  unfold mulOk at h
  rw [Bool.or_eq_true, Bool.or_eq_true] at h
  rcases h with (h | h) | h
  · exact .of_left (bits64 (of_decide_eq_true h))
  · exact .of_right (bits64 (of_decide_eq_true h))
  · refine CMulX.ok ?_
    have h1 := log_bits i
    have h2 := log_bits j
    have h3 := of_decide_eq_true h
    unfold CMulX
    omega
section
variable {X : Cx}
theorem op_mulM : OpR X (binaryOp .Mult) (rI (fun i j => mulOk i j = true) fun i j => .int (i * j)) := opI fun _ _ _ _ _ _ _ hc q => mul_int q (mulOk_ok hc)
/-- where very great numbers may be divided -/
structure WideX (X : Cx) : Prop where
  depth : X.A.depth + Builtin.pylongFrames < recursionLimit
  seer : X.base.NoSeer
  tree : X.prog.given.tree = none
  top : ∃ env l, X.stack = env :: l ∧ env.scope.isGenerator = false ∧ env.scope.isCoroutine = false ∧ env.builtins = builtinsNs ∧ env.globals = mainGlobals
theorem WideX.room (W : WideX X) {pins : List (Addr × Obj)} {σ : L2.St} {H : Hp} {s : Shared} (I : Inv X pins σ H s) : PySem.PylongRoom (model X.prog X.w) X.A s := by
  obtain ⟨env, l, f, g1, g2, g3, g4⟩ := W.top
  exact PySem.PylongRoom.of I.nolimit W.depth (PySem.SeerAt.of (W.seer.keeps I.bk) W.tree (I.ok.frames.trans (congrArg some f)) g1 g2 g3 g4)
theorem op_fdivM (W : WideX X) : OpR X (binaryOp .FloorDiv) (rI (fun _ j => divOk j = true) fun i j => .int (i.fdiv j)) := by
  intro pins s σ H x y v u Q I rx ry h
  obtain ⟨i, j, rfl, rfl, hc, q⟩ := h
  obtain ⟨t, rfl⟩ := rx
  obtain ⟨t', rfl⟩ := ry
  exact floordiv_int (of_decide_eq_true hc) ⟨.int (i.fdiv j), H, I.tok _, ⟨_, rfl⟩, q⟩ (.inr (W.room I))
/-- list + list, of lists that may be locked -/
def rCatS (K : PySem.W.Frag) : R2 := fun x y H Q => ∃ a b xs ys, x = .ref a ∧ y = .ref b ∧ SqL K H a xs ∧ SqL K H b ys ∧ xs.length + ys.length ≤ sizeLine ∧ ∀ p, H p = none → Q (.ref p) (upd H p (.lst (xs ++ ys)))
theorem op_catS : OpR X (binaryOp .Add) (rCatS X.K) := by
  intro pins s σ H x y v u Q I rx ry h
  obtain ⟨a, b, xs, ys, rfl, rfl, ha, hb, hz, q⟩ := h
  cases rx
  cases ry
  obtain ⟨its, r1, p1, _⟩ := I.list ha
  obtain ⟨its2, r2, p2, _⟩ := I.list hb
  have l1 := r1.length
  have l2 := r2.length
  obtain ⟨⟨c1, d1, t1, s1⟩, o1, e1, n1, f1⟩ := p1.isList
  obtain ⟨⟨c2, d2, t2, s2⟩, o2, e2, n2, f2⟩ := p2.isList
  simp only at e1 f1 e2 f2
  subst e1 f1 e2 f2
  refine concat_meets ⟨_, o1, rfl⟩ ⟨_, o2, rfl⟩ noFill_list_add seq_list_add PySem.F.slot_list_add PySem.F.entry_list_add (PySem.F.args_list_add_2 _ _) (list_addW a b its.toArray its2.toArray n1 n2 d1 d2 s1 s2 (by rw [List.size_toArray, List.size_toArray, ← l1, ← l2]; exact hz)) ⟨o1, o2, ?_⟩
  have ea : its.toArray ++ its2.toArray = (its ++ its2).toArray := by simp
  rw [ea]
  exact ⟨.ref _, _, I.lnew (t' := s.toks) (r1.append r2) (by rw [List.length_append]; exact hz), rfl, q _ I.fresh⟩
theorem op_powM : OpR X (binaryOp .Pow) (rI (fun i j => powOk i j = true) fun i j => .int (i ^ j.toNat)) := opI fun _ _ _ _ _ _ _ hc q => by
  have h := Bool.and_eq_true_iff.mp hc
  have h2 := Bool.and_eq_true_iff.mp h.1
  exact pow_int_small (of_decide_eq_true h2.1) (of_decide_eq_true h2.2) (of_decide_eq_true h.2) q
theorem op_shlM : OpR X (binaryOp .LShift) (rI (fun i j => shlOk i j = true) fun i j => .int (i * 2 ^ j.toNat)) := opI fun i _ _ _ _ _ _ hc q => by
  have h := Bool.and_eq_true_iff.mp hc
  have h2 := of_decide_eq_true h.2
  have h3 := log_bits i
  exact lshift_int (of_decide_eq_true h.1) (by omega) q
end
def opOf : Op → Operator
  | .add => .Add
  | .sub => .Sub
  | .mul => .Mult
  | .fdiv => .FloorDiv
  | .mod => .Mod
  | .pow => .Pow
  | .shl => .LShift
section
variable [RT] {b : Nat}
variable {ρ : List Addr} {S : Sto} {H : Hp}
/-- what is wanted of a result: a new list, not yet locked, or another thing -/
def ResV (K : PySem.W.Frag) (b : Nat) (ρ : List Addr) (S : Sto) (H : Hp) (z : PV) (Q : VK) : Prop :=
  (∃ xs, z = .lst xs ∧ ∀ p vs, H p = none → RelPs K ρ H xs vs → Q (.ref p) (upd H p (.lst vs))) ∨ ((∀ xs, z ≠ .lst xs) ∧ ∀ H' w, Grow b ρ ρ S S H H' → StOk K b ρ S H' → RelP K ρ H' z w → Q w H')
theorem ResV.val {K : PySem.W.Frag} {z : PV} {Q : VK} {w : V} (h : ResV K b ρ S H z Q) (so : StOk K b ρ S H) (n : ∀ xs, z ≠ .lst xs) (r : RelP K ρ H z w) : Q w H := by
  rcases h with ⟨xs, e, _⟩ | ⟨_, h⟩
  · exact absurd e (n xs)
  · exact h H w .refl so r
theorem ResV.gen {K : PySem.W.Frag} {z : PV} {Q : VK} {H' : Hp} {w : V} (h : ResV K b ρ S H z Q) (n : ∀ xs, z ≠ .lst xs) (g : Grow b ρ ρ S S H H') (so : StOk K b ρ S H') (r : RelP K ρ H' z w) : Q w H' := by
  rcases h with ⟨xs, e, _⟩ | ⟨_, h⟩
  · exact absurd e (n xs)
  · exact h H' w g so r
theorem ResV.new {K : PySem.W.Frag} {xs : List PV} {Q : VK} (h : ResV K b ρ S H (.lst xs) Q) {p : Addr} {vs : List V} (hp : H p = none) (r : RelPs K ρ H xs vs) : Q (.ref p) (upd H p (.lst vs)) := by
  rcases h with ⟨ys, e, h⟩ | ⟨n, _⟩
  · cases e; exact h p vs hp r
  · exact absurd rfl (n xs)
/-- what is wanted of a locked result -/
theorem ResV.of {K : PySem.W.Frag} {z : PV} {Q : VK} (so : StOk K b ρ S H) (h : ∀ H' w, Grow b ρ ρ S S H H' → StOk K b ρ S H' → RelP K ρ H' z w → Q w H') : ResV K b ρ S H z (lk Q) := by
  cases z with
  | lst xs => exact .inl ⟨xs, rfl, fun p vs hp r => lock_new so hp r h⟩
  | _ => exact .inr ⟨fun _ e => (by cases e), fun H' w g s r => .inl (h H' w g s r)⟩
/-- what is wanted of a list that may be changed -/
theorem ResV.thaw {K : PySem.W.Frag} {xs : List PV} {Q : VK} (so : StOk K b ρ S H) (h : ∀ p vs, H p = none → RelPs K ρ H xs vs → Q (.ref p) (upd H p (.lst vs))) : ResV K b ρ S H (.lst xs) Q := .inl ⟨xs, rfl, h⟩
def rB (K : PySem.W.Frag) (b : Nat) (o : Op) : R2 := fun x y H Q => ∃ ρ S v u z, StOk K b ρ S H ∧ RelP K ρ H v x ∧ RelP K ρ H u y ∧ opV S o v u = some z ∧ ResV K b ρ S H z Q
theorem StOk.new {K : PySem.W.Frag} {ρ : List Addr} {S : Sto} {H : Hp} {p : Addr} (so : StOk K b ρ S H) : (ρ ++ [p])[S.len]? = some p := by
  unfold Sto.len
  rw [← so.len, List.getElem?_append_right (Nat.le_refl _)]
  simp
theorem rel_ne {K : PySem.W.Frag} {ρ : List Addr} {H : Hp} {xs : List PV} {vs : List V} (r : RelPs K ρ H xs vs) : vs = [] ↔ xs = [] := by
  cases r <;> simp
theorem rep_rel {K : PySem.W.Frag} {ρ : List Addr} {H : Hp} {xs : List PV} {vs : List V} (r : RelPs K ρ H xs vs) : ∀ n : Nat, RelPs K ρ H (List.replicate n xs).flatten (List.replicate n vs).flatten
  | 0 => .nil
  | n + 1 => by
    rw [List.replicate_succ, List.replicate_succ, List.flatten_cons, List.flatten_cons]
    exact r.app (rep_rel r n)
theorem lst_of {K : PySem.W.Frag} {ρ : List Addr} {S : Sto} {H : Hp} {x : PV} {v : V} {xs : List PV} (so : StOk K b ρ S H) (r : RelP K ρ H x v) (e : lstOf S x = some xs) : ∃ a vs, v = .ref a ∧ SqL K H a vs ∧ RelPs K ρ H xs vs := by
  unfold lstOf at e
  split at e
  · cases e
    obtain ⟨a, vs, rfl, h, rs⟩ := r.of_lst
    exact ⟨a, vs, rfl, h.sq, rs⟩
  · obtain ⟨a, rfl, ea⟩ := r.of_ref
    obtain ⟨vs, rs, hs⟩ := so.sql e ea
    exact ⟨a, vs, rfl, hs, rs⟩
  · cases e
theorem binOp_ok {X : Cx} (W : WideX X) (o : Op) : OpR X (binaryOp (opOf o)) (rB X.K b o) := by
  intro pins s σ H x y vx vy Q I rx ry h
  obtain ⟨ρ, S, v, u, z, so, rv, ru, hz, hq⟩ := h
  have fin : ∀ {w : V}, (∀ xs, z ≠ .lst xs) → RelP X.K ρ H z w → Q w H := fun {w} n r => hq.val so n r
  unfold opV at hz
  split at hz
  · obtain rfl := rv.of_int; obtain rfl := ru.of_int; cases hz
    exact op_add pins s σ H _ _ vx vy Q I rx ry ⟨_, _, rfl, rfl, fin (fun _ e => by cases e) (.int _)⟩
  · obtain rfl := rv.of_int; obtain rfl := ru.of_int; cases hz
    exact op_sub pins s σ H _ _ vx vy Q I rx ry ⟨_, _, rfl, rfl, fin (fun _ e => by cases e) (.int _)⟩
  · obtain rfl := rv.of_int; obtain rfl := ru.of_int
    split at hz
    · rename_i hc; cases hz
      exact op_mulM pins s σ H _ _ vx vy Q I rx ry ⟨_, _, rfl, rfl, hc, fin (fun _ e => by cases e) (.int _)⟩
    · cases hz
  · obtain rfl := rv.of_int; obtain rfl := ru.of_int
    split at hz
    · rename_i hc; cases hz
      exact (op_fdivM W) pins s σ H _ _ vx vy Q I rx ry ⟨_, _, rfl, rfl, hc, fin (fun _ e => by cases e) (.int _)⟩
    · cases hz
  · obtain rfl := rv.of_int; obtain rfl := ru.of_int
    split at hz
    · cases hz
    · rename_i hc; cases hz
      exact op_modN pins s σ H _ _ vx vy Q I rx ry ⟨_, _, rfl, rfl, hc, fin (fun _ e => by cases e) (.int _)⟩
  · obtain rfl := rv.of_int; obtain rfl := ru.of_int
    split at hz
    · rename_i hc; cases hz
      exact op_powM pins s σ H _ _ vx vy Q I rx ry ⟨_, _, rfl, rfl, hc, fin (fun _ e => by cases e) (.int _)⟩
    · cases hz
  · obtain rfl := rv.of_int; obtain rfl := ru.of_int
    split at hz
    · rename_i hc; cases hz
      exact op_shlM pins s σ H _ _ vx vy Q I rx ry ⟨_, _, rfl, rfl, hc, fin (fun _ e => by cases e) (.int _)⟩
    · cases hz
  · obtain rfl := rv.of_str; obtain rfl := ru.of_str
    split at hz
    · rename_i hc; cases hz
      exact op_add_str pins s σ H _ _ vx vy Q I rx ry ⟨_, _, rfl, rfl, by rw [line_eq]; exact hc, fin (fun _ e => by cases e) (.str _)⟩
    · cases hz
  · obtain ⟨a1, xs, rfl, h1, h2⟩ := rv.of_tup
    obtain ⟨a2, ys, rfl, h3, h4⟩ := ru.of_tup
    split at hz
    · rename_i hc; cases hz
      refine op_catA pins s σ H _ _ vx vy Q I rx ry ⟨_, _, xs, ys, rfl, rfl, h1, h3, by rw [line_eq, ← h2.length, ← h4.length]; exact hc, ?_, ?_, ?_⟩
      · intro e
        have e' := (rel_ne h2).mp e
        subst e'
        exact fin (fun _ e => by cases e) (.tup h3 (by simpa using h4))
      · intro _ e
        have e' := (rel_ne h4).mp e
        subst e'
        exact fin (fun _ e => by cases e) (.tup h1 (by simpa using h2))
      · intro _ _ p hp
        exact hq.gen (fun _ e => by cases e) (.alloc hp) (so.alloc hp) (.tup (SqT.of upd_same) ((h2.app h4).mono (.new hp) (List.prefix_refl _)))
    · cases hz
  · obtain ⟨a1, xs, rfl, h1, h2⟩ := rv.of_tup
    obtain rfl := ru.of_int
    split at hz
    · rename_i hc; cases hz
      have hc' := Bool.and_eq_true_iff.mp hc
      have hc2 := Bool.and_eq_true_iff.mp hc'.1
      have hc3 := Bool.and_eq_true_iff.mp hc2.1
      refine op_repT pins s σ H _ _ vx vy Q I rx ry ⟨_, _, xs, rfl, rfl, h1, fun e => ?_, of_decide_eq_true hc3.2, of_decide_eq_true hc2.2, by rw [← h2.length]; exact of_decide_eq_true hc'.2, fun p hp => ?_⟩
      · have e' := (rel_ne h2).mp e
        rw [e'] at hc3
        simp at hc3
      · exact hq.gen (fun _ e => by cases e) (.alloc hp) (so.alloc hp) (.tup (SqT.of upd_same) ((rep_rel h2 _).mono (.new hp) (List.prefix_refl _)))
    · cases hz
  · split at hz
    · rename_i xs ys q1 q2
      obtain ⟨p1, vs, rfl, h1, r1⟩ := lst_of so rv q1
      obtain ⟨p2, ws, rfl, h2, r2⟩ := lst_of so ru q2
      split at hz
      · rename_i hc; cases hz
        exact op_catS pins s σ H _ _ vx vy Q I rx ry ⟨p1, p2, vs, ws, rfl, rfl, h1, h2, by rw [line_eq, ← r1.length, ← r2.length]; exact hc, fun p hp => hq.new hp (r1.app r2)⟩
      · cases hz
    · cases hz
  · cases hz
end
end MP
namespace MP
open PySem PySem.Spec PyProof.Rows L2
/-! ### comparisons -/
def cmOf : Cm → CmpOp
  | .eq => .Eq
  | .ne => .NotEq
  | .lt => .Lt
  | .le => .LtE
  | .gt => .Gt
  | .ge => .GtE
  | .isn => .Is
  | .nisn => .IsNot
  | .inn => .In
  | .nin => .NotIn
section
variable [RT] {b : Nat} {K : PySem.W.Frag} {ρ : List Addr} {S : Sto} {H : Hp}
mutual
theorem dp_of : ∀ {x : PV} {v : V} {d : PyData}, RelP K ρ H x v → x.toD = some d → Dp K H v d
  | _, _, _, .non, e => by cases e; exact .non
  | _, _, _, .bl b, e => by cases e; exact .bl b
  | _, _, _, .int i, e => by cases e; exact .int i
  | _, _, _, .str x, e => by cases e; exact .str x
  | .tup xs, _, d, .tup h hs, e => by
    cases q : PV.toDs xs with
    | none => simp [PV.toD, q] at e
    | some ds =>
      have e' : PyData.tuple ds = d := by simpa [PV.toD, q] using e
      subst e'
      exact .tup h (dps_of hs q)
  | .lst xs, _, d, .lst h hs, e => by
    cases q : PV.toDs xs with
    | none => simp [PV.toD, q] at e
    | some ds =>
      have e' : PyData.list ds = d := by simpa [PV.toD, q] using e
      subst e'
      exact .lst h.sq (dps_of hs q)
  | _, _, _, .obj _ _, e => by simp [PV.toD] at e
  | _, _, _, .ref _, e => by simp [PV.toD] at e
theorem dps_of : ∀ {xs : List PV} {vs : List V} {ds : List PyData}, RelPs K ρ H xs vs → PV.toDs xs = some ds → DpAll K H vs ds
  | _, _, _, .nil, e => by cases e; exact .nil
  | x :: xs, _, ds, .cons h hs, e => by
    cases q : x.toD with
    | none => simp [PV.toDs, q] at e
    | some d =>
      cases q2 : PV.toDs xs with
      | none => simp [PV.toDs, q, q2] at e
      | some es =>
        have e' : d :: es = ds := by simpa [PV.toDs, q, q2] using e
        subst e'
        exact .cons (dp_of h q) (dps_of hs q2)
end
theorem dpS_of (so : StOk K b ρ S H) {x : PV} {v : V} {d : PyData} (r : RelP K ρ H x v) (e : toDS S x = some d) : Dp K H v d := by
  unfold toDS at e
  split at e
  · obtain ⟨a, rfl, ea⟩ := r.of_ref
    split at e
    · rename_i xs q
      obtain ⟨vs, rs, hs⟩ := so.sql q ea
      cases q2 : PV.toDs xs with
      | none => rw [q2] at e; cases e
      | some ds =>
        rw [q2] at e; cases e
        exact .lst hs (dps_of rs q2)
    · cases e
  · exact dp_of r e
theorem flat_of {x : PV} {v : V} (r : RelP K ρ H x v) (f : x.flat = true) : flatV v = true := by
  cases r <;> first | rfl | cases f
theorem eqF_of {x y : PV} {v u : V} (r : RelP K ρ H x v) (q : RelP K ρ H y u) (f : x.flat = true) (g : y.flat = true) : x.eqF y = L2.eqV v u := by
  cases r <;> cases q <;> first | rfl | (exact absurd f (by decide)) | (exact absurd g (by decide)) | (simp [PV.flat] at f) | (simp [PV.flat] at g)
theorem flats_of : ∀ {xs : List PV} {vs : List V}, RelPs K ρ H xs vs → xs.all PV.flat = true → vs.all flatV = true
  | _, _, .nil, _ => rfl
  | _, _, .cons r t, f => by
    rw [List.all_cons, Bool.and_eq_true] at f
    rw [List.all_cons, flat_of r f.1, flats_of t f.2]
    rfl
theorem inF_of {y : PV} {u : V} (q : RelP K ρ H y u) (g : y.flat = true) : ∀ {xs : List PV} {vs : List V}, RelPs K ρ H xs vs → xs.all PV.flat = true → (xs.any fun z => z.eqF y) = inV u vs
  | _, _, .nil, _ => rfl
  | _, _, .cons r t, f => by
    rw [List.all_cons, Bool.and_eq_true] at f
    have ih := inF_of q g t f.2
    rw [List.any_cons, ih, eqF_of r q f.1 g]
    rfl
theorem seq_of (so : StOk K b ρ S H) {y : PV} {u : V} {xs : List PV} (r : RelP K ρ H y u) (e : seqOf S y = some xs) : ∃ a vs, u = .ref a ∧ RelPs K ρ H xs vs ∧ (SqL K H a vs ∨ SqT K H a vs) := by
  unfold seqOf at e
  split at e
  · cases e
    obtain ⟨a, vs, rfl, h, rs⟩ := r.of_tup
    exact ⟨a, vs, rfl, rs, .inr h⟩
  · cases e
    obtain ⟨a, vs, rfl, h, rs⟩ := r.of_lst
    exact ⟨a, vs, rfl, rs, .inl h.sq⟩
  · obtain ⟨a, rfl, ea⟩ := r.of_ref
    obtain ⟨vs, rs, hs⟩ := so.sql e ea
    exact ⟨a, vs, rfl, rs, .inl hs⟩
  · cases e
theorem ints_of : ∀ {xs : List PV} {vs : List V} {ns : List Int}, RelPs K ρ H xs vs → intsOf xs = some ns → vs = ns.map V.int
  | [], _, ns, .nil, e => by cases e; rfl
  | x :: xs, _, ns, .cons r t, e => by
    cases x with
    | int i =>
      cases q : intsOf xs with
      | none => simp [intsOf, q] at e
      | some ms =>
        have e' : i :: ms = ns := by simpa [intsOf, q] using e
        subst e'
        obtain rfl := r.of_int
        rw [ints_of t q]
        rfl
    | _ => simp [intsOf] at e
theorem lexI_eq : ∀ (as bs : List Int), lexI as bs = HT.lexLt as bs
  | [], [] => rfl
  | [], _ :: _ => rfl
  | _ :: _, [] => rfl
  | a :: as, b :: bs => by
    unfold lexI HT.lexLt
    rw [lexI_eq as bs]
def rC (K : PySem.W.Frag) (b : Nat) (o : Cm) : R2 := fun x y H Q => ∃ ρ S v u c, StOk K b ρ S H ∧ RelP K ρ H v x ∧ RelP K ρ H u y ∧ cmV S o v u = some c ∧ Q (.bl c) H
theorem cmOp_ok {X : Cx} (o : Cm) (hu' : X.A.units + 65 < cLine) : OpR X (compareOp (cmOf o)) (rC X.K b o) := by
  have hu : X.A.units + 64 < cLine := by omega
  intro pins s σ H x y vx vy Q I rx ry h
  obtain ⟨ρ, S, v, u, c, so, rv, ru, hc, q⟩ := h
  have int2 : ∀ {f : Int → Int → Bool}, cmI f v u = some c → ∃ i j, x = .int i ∧ y = .int j ∧ f i j = c := fun {f} e => by
    unfold cmI at e
    split at e
    · cases e
      exact ⟨_, _, rv.of_int, ru.of_int, rfl⟩
    · cases e
  have eqq : ∀ {d}, eqV S v u = some d → ∃ p e, Dp X.K H x p ∧ Dp X.K H y e ∧ SeqAt.shaped p = true ∧ SeqAt.shaped e = true ∧ PyData.eqv p e = d := fun {d} e => by
    unfold eqV at e
    split at e
    · rename_i p r q1 q2
      split at e
      · rename_i hs
        cases e
        have hs' := Bool.and_eq_true_iff.mp hs
        exact ⟨p, r, dpS_of so rv q1, dpS_of so ru q2, hs'.1, hs'.2, rfl⟩
      · cases e
    · cases e
  have isv : ∀ {d}, isV v u = some d → (y = .non ∧ d = decide (x = .non)) ∨ ∃ i j, x = .bl i ∧ y = .bl j ∧ d = decide (i = j) := fun {d} e => by
    unfold isV at e
    split at e
    · cases e; exact .inl ⟨ru.of_non, rv.is_non.symm⟩
    · split at e
      · cases e; exact .inr ⟨_, _, rv.of_bl, ru.of_bl, rfl⟩
      · cases e
    · cases e
  have inn : ∀ {d}, inSeq S v u = some d → (∃ p xs, y = .ref p ∧ (SqL X.K H p xs ∨ SqT X.K H p xs) ∧ flatV x = true ∧ xs.all flatV = true ∧ inV x xs = d) ∨ (∃ d' ds, Dp X.K H x d' ∧ Dp X.K H y (.list ds) ∧ SeqAt.shaped d' = true ∧ SeqAt.shaped (.list ds) = true ∧ (ds.any fun z => PyData.eqv z d') = d) ∨
      ∃ (k : Nat) (z : Str), x = .str ⟨#[k]⟩ ∧ y = .str z ∧ d = decide (k ∈ z.cps.toList) := fun {d} e => by
    unfold inSeq at e
    split at e
    · split at e
      · split at e
        · rename_i z _ z1 _ k hk
          cases e
          obtain rfl := rv.of_str
          obtain rfl := ru.of_str
          refine .inr (.inr ⟨k, z, ?_, rfl, rfl⟩)
          obtain ⟨cps⟩ := z1
          have hk' : cps = #[k] := by
            have h2 := congrArg List.toArray (show cps.toList = [k] from hk)
            simpa using h2
          rw [hk']
        · cases e
      · cases e
    · split at e
      · rename_i xs q1
        split at e
        · rename_i hs
          cases e
          have hs' := Bool.and_eq_true_iff.mp hs
          obtain ⟨a, vs, rfl, rs, hq⟩ := seq_of so ru q1
          exact .inl ⟨a, vs, rfl, hq, flat_of rv hs'.1, flats_of rs hs'.2, (inF_of rv hs'.1 rs hs'.2).symm⟩
        · unfold inDeep at e
          split at e
          · rename_i d' ds r1 r2
            split at e
            · rename_i hs
              cases e
              have hs' := Bool.and_eq_true_iff.mp hs
              exact .inr (.inl ⟨d', ds, dpS_of so rv r1, dpS_of so ru r2, hs'.1, hs'.2, rfl⟩)
            · cases e
          · cases e
      · cases e
  cases o with
  | eq =>
    obtain ⟨p, e, h1, h2, h3, h4, rfl⟩ := eqq hc
    exact op_eqD hu pins s σ H x y vx vy Q I rx ry ⟨p, e, h1, h2, h3, h4, q⟩
  | ne =>
    cases q1 : eqV S v u with
    | none => rw [show cmV S .ne v u = (eqV S v u).map (!·) from rfl, q1] at hc; cases hc
    | some d =>
      rw [show cmV S .ne v u = (eqV S v u).map (!·) from rfl, q1] at hc
      cases hc
      obtain ⟨p, e, h1, h2, h3, h4, rfl⟩ := eqq q1
      exact op_neD hu pins s σ H x y vx vy Q I rx ry ⟨p, e, h1, h2, h3, h4, q⟩
  | lt =>
    have hc : cmL v u = some c := hc
    unfold cmL at hc
    split at hc
    · cases hc
      obtain rfl := rv.of_int
      obtain rfl := ru.of_int
      exact op_lt pins s σ H _ _ vx vy Q I rx ry ⟨_, _, rfl, rfl, q⟩
    · split at hc
      · rename_i as bs q1 q2
        cases hc
        obtain ⟨a1, vs, rfl, h1, r1⟩ := rv.of_tup
        obtain ⟨a2, ws, rfl, h2, r2⟩ := ru.of_tup
        rw [ints_of r1 q1] at h1
        rw [ints_of r2 q2] at h2
        refine op_ltT (by omega) pins s σ H _ _ vx vy Q I rx ry ⟨a1, a2, as, bs, rfl, rfl, h1, h2, ?_⟩
        rw [lexI_eq] at q
        exact q
      · cases hc
    · cases hc
  | le =>
    obtain ⟨i, j, rfl, rfl, rfl⟩ := int2 (f := fun a b => decide (a ≤ b)) hc
    exact op_le pins s σ H _ _ vx vy Q I rx ry ⟨i, j, rfl, rfl, q⟩
  | gt =>
    obtain ⟨i, j, rfl, rfl, rfl⟩ := int2 (f := fun a b => decide (b < a)) hc
    exact op_gt pins s σ H _ _ vx vy Q I rx ry ⟨i, j, rfl, rfl, q⟩
  | ge =>
    obtain ⟨i, j, rfl, rfl, rfl⟩ := int2 (f := fun a b => decide (b ≤ a)) hc
    exact op_ge pins s σ H _ _ vx vy Q I rx ry ⟨i, j, rfl, rfl, q⟩
  | isn =>
    rcases isv hc with ⟨rfl, rfl⟩ | ⟨i, j, rfl, rfl, rfl⟩
    · exact op_isN pins s σ H x _ vx vy Q I rx ry ⟨rfl, q⟩
    · exact op_is_bl pins s σ H _ _ vx vy Q I rx ry ⟨_, _, rfl, rfl, q⟩
  | nisn =>
    cases q1 : isV v u with
    | none => rw [show cmV S .nisn v u = (isV v u).map (!·) from rfl, q1] at hc; cases hc
    | some d =>
      rw [show cmV S .nisn v u = (isV v u).map (!·) from rfl, q1] at hc
      cases hc
      rcases isv q1 with ⟨rfl, rfl⟩ | ⟨i, j, rfl, rfl, rfl⟩
      · exact op_notN pins s σ H x _ vx vy Q I rx ry ⟨rfl, q⟩
      · exact op_isnot_bl pins s σ H _ _ vx vy Q I rx ry ⟨_, _, rfl, rfl, q⟩
  | inn =>
    rcases inn hc with ⟨p, xs, h1, h2, h3, h4, rfl⟩ | ⟨d', ds, h1, h2, h3, h4, rfl⟩ | ⟨k, z, h1, h2, rfl⟩
    rotate_left 2
    · exact op_in_sign pins s σ H x y vx vy Q I rx ry ⟨k, z, h1, h2, q⟩
    · exact op_in_seq pins s σ H x y vx vy Q I rx ry ⟨p, xs, h1, h2, h3, h4, q⟩
    · exact op_inD hu' pins s σ H x y vx vy Q I rx ry ⟨d', ds, h1, h2, h3, h4, q⟩
  | nin =>
    cases q1 : inSeq S v u with
    | none => rw [show cmV S .nin v u = (inSeq S v u).map (!·) from rfl, q1] at hc; cases hc
    | some d =>
      rw [show cmV S .nin v u = (inSeq S v u).map (!·) from rfl, q1] at hc
      cases hc
      rcases inn q1 with ⟨p, xs, h1, h2, h3, h4, rfl⟩ | ⟨d', ds, h1, h2, h3, h4, rfl⟩ | ⟨k, z, h1, h2, rfl⟩
      rotate_left 2
      · exact op_notIn_sign pins s σ H x y vx vy Q I rx ry ⟨k, z, h1, h2, q⟩
      · exact op_notIn_seq pins s σ H x y vx vy Q I rx ry ⟨p, xs, h1, h2, h3, h4, q⟩
      · exact op_notInD hu' pins s σ H x y vx vy Q I rx ry ⟨d', ds, h1, h2, h3, h4, q⟩
end
/-! ### truth, items, slices -/
section
variable [RT] {b : Nat} {K : PySem.W.Frag} {ρ : List Addr} {S : Sto} {H : Hp}
theorem tru_of (so : StOk K b ρ S H) {x : PV} {v : V} {c : Bool} (r : RelP K ρ H x v) (e : truV S x = some c) : TruV K v H c := by
  have ie : ∀ {xs : List PV} {vs : List V}, RelPs K ρ H xs vs → (!xs.isEmpty) = !vs.isEmpty := fun {xs vs} r => by cases r <;> rfl
  unfold truV at e
  split at e
  · cases e; obtain rfl := r.of_non; rfl
  · cases e; obtain rfl := r.of_bl; rfl
  · cases e; obtain rfl := r.of_int; rfl
  · obtain rfl := r.of_str
    split at e
    · rename_i hl
      cases e
      refine ⟨by rw [line_eq]; exact hl, ?_⟩
      rw [Bool.eq_iff_iff]
      simp
    · cases e
  · cases e
    obtain ⟨a, vs, rfl, h, rs⟩ := r.of_tup
    exact .inr (.inl ⟨vs, h, ie rs⟩)
  · cases e
    obtain ⟨a, vs, rfl, h, rs⟩ := r.of_lst
    exact .inl ⟨vs, h.sq, ie rs⟩
  · cases e
  · obtain ⟨a, rfl, ea⟩ := r.of_ref
    split at e
    · rename_i xs q
      cases e
      obtain ⟨vs, rs, hs⟩ := so.sql (show S.lst? _ = some xs by unfold Sto.lst?; rw [q]) ea
      exact .inl ⟨vs, hs, ie rs⟩
    · rename_i xs q
      cases e
      obtain ⟨vs, rs, hs⟩ := so.sql (show S.lst? _ = some xs by unfold Sto.lst?; rw [q]) ea
      exact .inl ⟨vs, hs, ie rs⟩
    · cases e
theorem atI_rel {xs : List PV} {vs : List V} {i : Int} {x : PV} (r : RelPs K ρ H xs vs) (e : MP.itemAt xs i = some x) : ∃ v, L2.atI vs i = some v ∧ RelP K ρ H x v := by
  unfold MP.itemAt at e
  cases q : MP.placeOf xs.length i with
  | none => rw [q] at e; cases e
  | some j =>
    rw [q] at e
    have e' : xs[j]? = some x := e
    obtain ⟨v, h1, h2⟩ := r.get e'
    refine ⟨v, ?_, h2⟩
    unfold L2.atI
    rw [← r.length, show L2.ixN xs.length i = some j from q]
    exact h1
theorem edge_eq (n d : Nat) (o : Option Int) : HT.sIx n d o = MP.edge n d o := by
  cases o <;> rfl
theorem cut_rel {xs : List PV} {vs : List V} (r : RelPs K ρ H xs vs) (lo hi : Option Int) : RelPs K ρ H (cut xs lo hi) (cutV vs lo hi) := by
  unfold cut cutV
  rw [← r.length]
  simp only [edge_eq]
  exact (r.drop _).take _
theorem cut_whole {α : Type} {xs : List α} {lo hi : Option Int} (h1 : MP.edge xs.length 0 lo = 0) (h2 : MP.edge xs.length xs.length hi = xs.length) : cut xs lo hi = xs := by
  unfold cut
  rw [h1, h2]
  simp
end
end MP
end
section
set_option Elab.async false
set_option linter.all false
set_option maxRecDepth 100000
/-! MPSoundD: rows of ints sorted; dicts whose keys are rows of ints. -/
namespace MP
open PySem PySem.Spec PyProof.Rows L2
/-! ### sorting -/
theorem lexI_irr : ∀ as : List Int, lexI as as = false
  | [] => rfl
  | a :: as => by rw [lexI, if_pos rfl]; exact lexI_irr as
theorem lexI_asym : ∀ {as bs : List Int}, lexI as bs = true → lexI bs as = false
  | [], [], h => by cases h
  | [], _ :: _, _ => rfl
  | _ :: _, [], h => by cases h
  | a :: as, b :: bs, h => by
    rw [lexI] at h ⊢
    by_cases e : a = b
    · rw [if_pos e] at h
      rw [if_pos e.symm]
      exact lexI_asym h
    · rw [if_neg e] at h
      rw [if_neg fun z => e z.symm]
      have h := of_decide_eq_true h
      exact decide_eq_false (by omega)
theorem lexI_neg : ∀ {as bs cs : List Int}, lexI as bs = false → lexI bs cs = false → lexI as cs = false
  | [], bs, cs, h1, h2 => by
    cases bs with
    | nil => exact h2
    | cons _ _ => cases h1
  | a :: as, bs, [], h1, h2 => by cases bs <;> rfl
  | a :: as, [], c :: cs, h1, h2 => by cases h2
  | a :: as, b :: bs, c :: cs, h1, h2 => by
    rw [lexI] at h1 h2 ⊢
    by_cases e : a = b
    · rw [if_pos e] at h1
      by_cases e2 : b = c
      · rw [if_pos e2] at h2
        rw [if_pos (e.trans e2)]
        exact lexI_neg h1 h2
      · rw [if_neg e2] at h2
        rw [if_neg fun z => e2 (e.symm.trans z), e]
        exact h2
    · rw [if_neg e] at h1
      have h1 := of_decide_eq_false h1
      by_cases e2 : b = c
      · rw [if_neg fun z => e (z.trans e2.symm)]
        exact decide_eq_false (by omega)
      · rw [if_neg e2] at h2
        have h2 := of_decide_eq_false h2
        rw [if_neg (by omega)]
        exact decide_eq_false (by omega)
theorem lexI_tot : ∀ {as bs : List Int}, lexI as bs = false → lexI bs as = false → as = bs
  | [], [], _, _ => rfl
  | [], _ :: _, h, _ => by cases h
  | _ :: _, [], _, h => by cases h
  | a :: as, b :: bs, h1, h2 => by
    rw [lexI] at h1 h2
    by_cases e : a = b
    · rw [if_pos e] at h1
      rw [if_pos e.symm] at h2
      rw [e, lexI_tot h1 h2]
    · rw [if_neg e] at h1
      rw [if_neg fun z => e z.symm] at h2
      have h1 := of_decide_eq_false h1
      have h2 := of_decide_eq_false h2
      omega
section
variable {α : Type} {lt : α → α → Bool}
/-- none behind is below one ahead -/
abbrev SrtB (lt : α → α → Bool) (l : List α) : Prop := l.Pairwise fun a b => lt b a = false
theorem insL_perm (x : α) : ∀ l : List α, (insL lt x l).Perm (x :: l)
  | [] => .refl _
  | y :: ys => by
    unfold insL
    split
    · exact .refl _
    · exact ((insL_perm x ys).cons y).trans (.swap x y ys)
theorem sortL_perm (l : List α) : (sortL lt l).Perm l := by
  have z : ∀ (l acc : List α), (l.foldl (fun acc x => insL lt x acc) acc).Perm (acc ++ l) := by
    intro l
    induction l with
    | nil => intro acc; simp
    | cons x l ih =>
      intro acc
      refine (ih _).trans ?_
      refine ((insL_perm x acc).append_right l).trans ?_
      exact (List.perm_middle (a := x) (l₁ := acc) (l₂ := l)).symm
  have y := z l []
  rw [List.nil_append] at y
  exact y
theorem insL_srt (asym : ∀ {a b}, lt a b = true → lt b a = false) (tr : ∀ {a b c}, lt a b = false → lt b c = false → lt a c = false) (x : α) : ∀ {l : List α}, SrtB lt l → SrtB lt (insL lt x l)
  | [], _ => by unfold insL; exact List.pairwise_singleton _ _
  | y :: ys, h => by
    have h' := List.pairwise_cons.mp h
    unfold insL
    split
    · rename_i hx
      refine List.pairwise_cons.mpr ⟨fun z hz => ?_, h⟩
      rcases List.mem_cons.mp hz with rfl | hz
      · exact asym hx
      · exact tr (h'.1 z hz) (asym hx)
    · rename_i hx
      have hx : lt x y = false := by simpa using hx
      refine List.pairwise_cons.mpr ⟨fun z hz => ?_, insL_srt asym tr x h'.2⟩
      rcases List.mem_cons.mp ((insL_perm x ys).mem_iff.mp hz) with rfl | hz
      · exact hx
      · exact h'.1 z hz
theorem sortL_srt (asym : ∀ {a b}, lt a b = true → lt b a = false) (tr : ∀ {a b c}, lt a b = false → lt b c = false → lt a c = false) (l : List α) : SrtB lt (sortL lt l) := by
  have z : ∀ (l acc : List α), SrtB lt acc → SrtB lt (l.foldl (fun acc x => insL lt x acc) acc) := by
    intro l
    induction l with
    | nil => intro acc h; exact h
    | cons x l ih => intro acc h; exact ih (insL lt x acc) (insL_srt (lt := lt) asym tr x h)
  exact z l [] .nil
theorem srt_unique (tot : ∀ {a b}, lt a b = false → lt b a = false → a = b) : ∀ {l m : List α}, l.Perm m → SrtB lt l → SrtB lt m → l = m
  | [], m, p, _, _ => (List.nil_perm.mp p).symm
  | a :: l, [], p, _, _ => by have := p.length_eq; simp at this
  | a :: l, b :: m, p, h1, h2 => by
    have h1' := List.pairwise_cons.mp h1
    have h2' := List.pairwise_cons.mp h2
    have e : a = b := by
      rcases List.mem_cons.mp (p.mem_iff.mp (List.mem_cons_self (a := a) (l := l))) with e | ha
      · exact e
      · rcases List.mem_cons.mp (p.mem_iff.mpr (List.mem_cons_self (a := b) (l := m))) with e | hb
        · exact e.symm
        · exact tot (h2'.1 a ha) (h1'.1 b hb)
    subst e
    rw [srt_unique tot (List.Perm.cons_inv p) h1'.2 h2'.2]
end
/-! ### rows in the heap -/
def intV : Value → Int
  | .int i _ => i
  | _ => 0
def rowOf (h : Heap) : Value → List Int
  | .ref a => match h.get? a with
    | some o => match o.data with
      | .seq its _ => its.toList.map intV
      | _ => []
    | none => []
  | _ => []
def IsRow (h : Heap) (v : Value) (r : List Int) : Prop := ∃ a o its n, v = .ref a ∧ h.get? a = some o ∧ o.cls = .type "tuple" ∧ o.data = .seq its n ∧ Vals (r.map V.int) its.toList
theorem vals_intV : ∀ {r : List Int} {us : List Value}, Vals (r.map V.int) us → us.map intV = r
  | [], _, .nil => rfl
  | i :: r, _, .cons h t => by
    obtain ⟨t', rfl⟩ := h
    rw [List.map_cons, vals_intV t]
    rfl
theorem IsRow.of {h : Heap} {v : Value} {r : List Int} (x : IsRow h v r) : rowOf h v = r := by
  obtain ⟨a, o, its, n, rfl, ho, _, hd, rv⟩ := x
  unfold rowOf
  simp only [ho, hd]
  exact vals_intV rv
theorem IsRow.keeps {h h' : Heap} {v : Value} {r : List Int} (x : IsRow h v r) (k : ∀ b o, h.get? b = some o → o.cls = .type "tuple" → h'.get? b = some o) : IsRow h' v r :=
  let ⟨a, o, its, n, e, ho, hc, r⟩ := x; ⟨a, o, its, n, e, k a o ho hc, hc, r⟩
section
variable {prog : Program} {w : World} {A : Around} {s : Shared}
theorem row_lex {fin : Bool} : ∀ {xs ys : List Int} {us ws : List Value} (i : Nat) (Q : Bool → Shared → Prop), Vals (xs.map V.int) us → Vals (ys.map V.int) ws → (fin = true ↔ xs.length < ys.length) → Q (lexI xs ys) s →
    PySem.W.KatLex prog w A true fin Q (us.zip ws) i s
  | [], [], _, _, i, Q, .nil, .nil, hf, q => by
    have : fin = false := by cases fin with
      | false => rfl
      | true => exact absurd (hf.mp rfl) (by simp)
    rw [this]
    exact PySem.W.kat_nil q
  | [], y :: ys, _, _, i, Q, .nil, .cons _ _, hf, q => by
    have : fin = true := hf.mpr (by simp)
    rw [this]
    exact PySem.W.kat_nil q
  | x :: xs, [], _, _, i, Q, .cons _ _, .nil, hf, q => by
    have : fin = false := by cases fin with
      | false => rfl
      | true => exact absurd (hf.mp rfl) (by simp)
    rw [this]
    exact PySem.W.kat_nil q
  | x :: xs, y :: ys, _, _, i, Q, .cons h1 t1, .cons h2 t2, hf, q => by
    obtain ⟨t, rfl⟩ := h1
    obtain ⟨u, rfl⟩ := h2
    rw [lexI] at q
    refine PySem.W.kat_cons (SeqAt.EqAt.int_int x t y u prog w _ _ ?_)
    refine PySem.W.kat_go (fun e => ?_) (fun e => ?_)
    · have e' : x = y := by simpa using e
      rw [if_pos e'] at q
      exact PySem.W.kat_yes (row_lex (i + 1) Q t1 t2 (by simpa using hf) q)
    · have e' : ¬ x = y := by simpa using e
      rw [if_neg e'] at q
      refine PySem.W.kat_no ?_
      cases hb : (true && i == 0) with
      | true => exact oneLt_int q
      | false => exact PySem.W.kat_one _ _ (PyProof.Rows.lt_int q)
theorem row_cmp {vs : List Value} (hp : ∀ v ∈ vs, ∃ r, IsRow s.heap v r) : SrtO.Cmp prog w A s (tuples' true) (fun p => p.1 ∈ vs) (SrtO.lt2 fun v u => lexI (rowOf s.heap v) (rowOf s.heap u)) := by
  intro p q hm hm'
  obtain ⟨r1, h1⟩ := hp _ hm
  obtain ⟨r2, h2⟩ := hp _ hm'
  show wpAny (model prog w) A (keyLt' (tuples' true) p.1 q.1) (fun r s' => s' = s ∧ r = lexI (rowOf s.heap p.1) (rowOf s.heap q.1)) (fun _ _ => False) s
  rw [h1.of, h2.of]
  obtain ⟨a, o, its, n, e, ho, hc, hd, rv⟩ := h1
  obtain ⟨a', o', its', n', e', ho', hc', hd', rv'⟩ := h2
  rw [e, e']
  refine PySem.W.kat_lt ho hd ho' hd' (row_lex 0 _ rv rv' ?_ ⟨rfl, rfl⟩)
  have l1 := rv.length
  have l2 := rv'.length
  simp only [List.length_map, Array.length_toList] at l1 l2
  rw [decide_eq_true_eq]
  omega
theorem rows_first {h : Heap} : ∀ {vs : List Value}, (∀ v ∈ vs, ∃ r, IsRow h v r ∧ r ≠ []) → ∃ fs : List Value, PySem.W.KatTups h vs fs ∧ fs.length = vs.length ∧ ∀ f ∈ fs, ∃ x t, f = Value.int x t
  | [], _ => ⟨[], PySem.W.KatTups.nil, rfl, fun _ hm => by simp at hm⟩
  | v :: vs, hp => by
    obtain ⟨fs, h1, h2, h3⟩ := rows_first (vs := vs) fun u hm => hp u (List.mem_cons_of_mem _ hm)
    obtain ⟨r, ⟨a, o, its, n, e, ho, hc, hd, rv⟩, hr⟩ := hp v List.mem_cons_self
    subst e
    cases r with
    | nil => exact absurd rfl hr
    | cons i r =>
      obtain ⟨u, e1, e2⟩ : ∃ u, its[0]? = some u ∧ RelV (.int i) u := by
        obtain ⟨u, e1, e2⟩ := rv.get (i := 0) (x := .int i) (by rfl)
        exact ⟨u, by rw [← Array.getElem?_toList]; exact e1, e2⟩
      obtain ⟨t, rfl⟩ := e2
      refine ⟨.int i t :: fs, PySem.W.KatTups.cons ho hc hd e1 h1, by rw [List.length_cons, List.length_cons, h2], fun f hm => ?_⟩
      rcases List.mem_cons.mp hm with rfl | hm
      · exact ⟨i, t, rfl⟩
      · exact h3 f hm
theorem rows_sortable {a : Addr} {vs : List Value} (h0 : 0 < vs.length) (hp : ∀ v ∈ vs, ∃ r, IsRow s.heap v r ∧ r ≠ []) (ha : ∀ o, s.heap.get? a = some o → o.cls ≠ .type "tuple") : SrtO.SortableO prog w A s a vs fun v u => lexI (rowOf s.heap v) (rowOf s.heap u) := by
  intro h' keep
  have kp : ∀ v ∈ vs, ∃ r, IsRow h' v r ∧ r ≠ [] := fun v hm => let ⟨r, x, n⟩ := hp v hm; ⟨r, x.keeps fun b o e c => keep b o (fun z => by subst z; exact ha o e c) e, n⟩
  have same : ∀ v ∈ vs, rowOf h' v = rowOf s.heap v := fun v hm => by
    obtain ⟨r, x, n⟩ := hp v hm
    rw [x.of, (x.keeps fun b o e c => keep b o (fun z => by subst z; exact ha o e c) e).of]
  obtain ⟨fs, h1, h2, h3⟩ := rows_first kp
  refine ⟨tuples' true, fun Q E hq => ?_, fun p q hm hm' => ?_⟩
  · refine PySem.W.kat_kind (T := .type "int") h1 (by omega) (fun f hm => ?_) (by rfl) ?_
    · obtain ⟨x, t, rfl⟩ := h3 f hm
      exact PySem.W.Looks.now
    · have e : (Value.type "int" != Value.type "tuple") = true := by first | decide +kernel | rfl | decide
      rw [e]
      exact hq
  · have z := row_cmp (prog := prog) (w := w) (A := A) (s := { s with heap := h' }) (fun v hv => let ⟨r, x, _⟩ := kp v hv; ⟨r, x⟩) p q hm hm'
    unfold SrtO.lt2 at z ⊢
    simp only [same p.1 hm, same q.1 hm'] at z
    exact z
theorem swo_row (h : Heap) : SrtO.Swo fun v u => lexI (rowOf h v) (rowOf h u) :=
  ⟨fun x y h => lexI_asym h, fun x y z h1 h2 => lexI_neg h2 h1⟩
end
end MP
end
section
set_option Elab.async false
set_option linter.all false
set_option maxRecDepth 100000
set_option maxHeartbeats 1000000
/-! MPSoundE: subscripts, slices, dicts, built-in functions. -/
namespace MP
open PySem PySem.Spec PyProof.Rows L2
section
variable [RT] {b : Nat} {K : PySem.W.Frag} {ρ : List Addr} {S : Sto} {H : Hp}
/-! ### dicts -/
def RelOP (K : PySem.W.Frag) (ρ : List Addr) (H : Hp) : Option PV → Option V → Prop
  | some z, some w => RelP K ρ H z w
  | none, none => True
  | _, _ => False
theorem key_rel {y : PV} {v : V} {k : Key} (r : RelP K ρ H y v) (e : keyOf y = some k) : v = kV k := by
  unfold keyOf at e
  split at e
  · cases e; exact r.of_int
  · cases e; exact r.of_str
  · cases e
theorem dk_val {κ : Type} [DecidableEq κ] {kvs : List (κ × PV)} {ws : List (κ × V)} (r : Paired (fun (p : κ × PV) (q : κ × V) => p.1 = q.1 ∧ RelP K ρ H p.2 q.2) kvs ws) (k : κ) : RelOP K ρ H (valK kvs k) (valV ws k) := by
  induction r with
  | nil => exact trivial
  | @cons p q ps qs h t ih =>
    unfold valK valV at *
    rw [List.find?_cons, List.find?_cons, ← h.1]
    by_cases e : p.1 = k
    · simp only [e, decide_true]
      exact h.2
    · simp only [e, decide_false]
      exact ih
theorem dk_put {κ : Type} [DecidableEq κ] {kvs : List (κ × PV)} {ws : List (κ × V)} (r : Paired (fun (p : κ × PV) (q : κ × V) => p.1 = q.1 ∧ RelP K ρ H p.2 q.2) kvs ws) (k : κ) {v : PV} {w : V} (rv : RelP K ρ H v w) :
    Paired (fun (p : κ × PV) (q : κ × V) => p.1 = q.1 ∧ RelP K ρ H p.2 q.2) (MP.putK kvs k v) (L2.putK ws k w) := by
  have any : (kvs.any fun kv => decide (kv.1 = k)) = (ws.any fun kv => decide (kv.1 = k)) := by
    induction r with
    | nil => rfl
    | @cons p q ps qs h t ih => rw [List.any_cons, List.any_cons, ih, h.1]
  unfold MP.putK L2.putK
  rw [any]
  split
  · rename_i hh
    clear any hh
    induction r with
    | nil => exact .nil
    | @cons p q ps qs h t ih =>
      rw [List.map_cons, List.map_cons]
      refine .cons ?_ ih
      rw [← h.1]
      split
      · exact ⟨rfl, rv⟩
      · exact h
  · exact Paired.snoc r ⟨rfl, rv⟩
theorem DtOk.keys {kvs : List (List Int × PV)} {xs : List (List Int × Addr × Value)} (d : DtOk K ρ H kvs xs) : ∀ x ∈ xs, SqT K H x.2.1 (x.1.map V.int) := by
  have r := d.rel
  clear d
  induction r with
  | nil => intro x hx; cases hx
  | @cons p q ps qs h t ih =>
    intro x hx
    rcases List.mem_cons.mp hx with rfl | hx
    · rw [← h.1]; exact h.2.1
    · exact ih x hx
/-- what is at a key: in the table, at the heap -/
def RelAt (K : PySem.W.Frag) (ρ : List Addr) (H : Hp) : Option PV → Option (Addr × Value) → Prop
  | some z, some p => ∃ w, RelP K ρ H z w ∧ RelV w p.2
  | none, none => True
  | _, _ => False
theorem DtOk.val {kvs : List (List Int × PV)} {xs : List (List Int × Addr × Value)} (d : DtOk K ρ H kvs xs) (k : List Int) : RelAt K ρ H (valK kvs k) (atKey xs k) := by
  have r := d.rel
  clear d
  induction r with
  | nil => exact trivial
  | @cons p q ps qs h t ih =>
    unfold valK atKey at *
    rw [List.find?_cons, List.find?_cons, ← h.1]
    by_cases e : p.1 = k
    · simp only [e, decide_true]
      exact h.2.2
    · simp only [e, decide_false]
      exact ih
theorem DtOk.put {kvs : List (List Int × PV)} {xs : List (List Int × Addr × Value)} (d : DtOk K ρ H kvs xs) {k : List Int} {c : Addr} {v : PV} {w : V} {u : Value} (hc : SqT K H c (k.map V.int)) (rv : RelP K ρ H v w) (ru : RelV w u) : DtOk K ρ H (MP.putK kvs k v) (storedH xs k c u) := by
  have z := d.val k
  have r := d.rel
  have any : (kvs.any fun kv => decide (kv.1 = k)) = (atKey xs k).isSome := by
    have e : (kvs.any fun kv => decide (kv.1 = k)) = (valK kvs k).isSome := by
      unfold valK
      rw [Option.isSome_map, List.isSome_find?]
    rw [e]
    cases h1 : valK kvs k <;> cases h2 : atKey xs k <;> rw [h1, h2] at z <;> first | rfl | exact z.elim
  refine ⟨?_⟩
  unfold MP.putK storedH
  rw [any]
  split
  · rename_i hh
    clear any z d hh
    induction r with
    | nil => exact .nil
    | @cons p q ps qs h t ih =>
      rw [List.map_cons, List.map_cons]
      refine .cons ?_ ih
      unfold putAt
      rw [← h.1]
      split
      · exact ⟨h.1 ▸ rfl, h.1 ▸ h.2.1, w, rv, ru⟩
      · exact h
  · exact Paired.snoc r ⟨rfl, hc, w, rv, ru⟩
end
section
variable [RT] {b : Nat} {ρ : List Addr} {S : Sto} {H : Hp} {X : Cx} {pins : List (Addr × Obj)} {σ : L2.St} {s : Shared} {A : Around} {E : Value → Shared → Prop}
theorem itemsI {P : Program} {w : World} : ∀ {ks : List Int} {us : List Value}, Vals (ks.map V.int) us → ItemsAre (intKind P w) ks us
  | [], _, .nil => .nil
  | k :: ks, _, .cons h t => by
    obtain ⟨tk, rfl⟩ := h
    exact .cons (show Value.isInt k (.int k tk) = true by simp [Value.isInt]) (itemsI t)
theorem key_is (I : L2.Inv X pins σ H s) {c : Addr} {ks : List Int} (h : SqT X.K H c (ks.map V.int)) : (tupleKind (intKind X.prog X.w)).is s.heap ks c := by
  obtain ⟨its, r, ⟨o, ho, hc, n, hd⟩, _⟩ := I.tuple h
  exact ⟨o, its.toArray, n, ho, hc, hd, by simpa using itemsI r⟩
theorem dt_at (I : L2.Inv X pins σ H s) {a : Addr} {xs : List (List Int × Addr × Value)} (e : H a = some (dTO a xs)) (hk : ∀ x ∈ xs, SqT X.K H x.2.1 (x.1.map V.int)) : s.heap.DictOfH (tupleKind (intKind X.prog X.w)) a xs := by
  obtain ⟨⟨o, es, ep, h1, h2, h3, h4, h5⟩, _⟩ := (show ObjOk X.prog X.w H s.heap a (dTO a xs) from I.hok a _ e)
  exact ⟨o, es, ep, h1, h2, h3, by rw [h4, ← entI_eq], fun x hx => key_is I (hk x hx), h5⟩
theorem dt_new {h : Heap} {H' : Hp} {P : Program} {w : World} {a : Addr} {xs : List (List Int × Addr × Value)} (d : h.DictOfH (tupleKind (intKind P w)) a xs) : ObjOk P w H' h a (dTO a xs) := by
  obtain ⟨o, es, ep, h1, h2, h3, h4, _, h5⟩ := d
  rw [entI_eq] at h4
  exact ⟨⟨o, es, ep, h1, h2, h3, h4, h5⟩, ⟨o, h1⟩, fun g1 g2 ⟨o, es, ep, h1, r⟩ k => ⟨o, es, ep, k o h1, r⟩⟩
/-- a dict that is asked -/
theorem ask_of (so : StOk X.K b ρ S H) {j : Nat} {y : PV} {vy : V} {o : Option PV} {a : Addr} (ea : ρ[j]? = some a) (r : RelP X.K ρ H y vy) (h : dAsk S j y = some o) :
    (∃ ws k, H a = some (.dK ws) ∧ vy = kV k ∧ RelOP X.K ρ H o (valV ws k)) ∨
    ∃ xs k c, H a = some (dTO a xs) ∧ (∀ x ∈ xs, SqT X.K H x.2.1 (x.1.map V.int)) ∧ (a == sysModules) = false ∧ vy = .ref c ∧ SqT X.K H c (k.map V.int) ∧ RelAt X.K ρ H o (atKey xs k) := by
  unfold dAsk at h
  split at h
  · rename_i kvs e
    obtain ⟨ws, rw', hw⟩ := so.cell j _ a e ea
    cases q : keyOf y with
    | none => rw [q] at h; cases h
    | some k =>
      rw [q] at h
      cases h
      exact .inl ⟨ws, k, hw, key_rel r q, dk_val rw' k⟩
  · rename_i kvs e
    obtain ⟨xs, d, z1, z2, hw⟩ := so.cell j _ a e ea
    split at h
    · rename_i ys
      cases q : intsOf ys with
      | none => rw [q] at h; cases h
      | some k =>
        rw [q] at h
        cases h
        obtain ⟨c, vs, rfl, hc, rs⟩ := r.of_tup
        rw [ints_of rs q] at hc
        exact .inr ⟨xs, k, c, hw, d.keys, z2, rfl, hc, d.val k⟩
    · cases h
  · cases h
theorem g_item {Q : Value → Shared → Prop} {y : PV} {vy : V} {u : Value} {z : PV} (hu : A.units + 1 < cLine) (I : L2.Inv X pins σ H s) (so : StOk X.K b ρ S H) {j : Nat} {a : Addr} (ea : ρ[j]? = some a) (r : RelP X.K ρ H y vy) (ry : RelV vy u) (h : dAsk S j y = some (some z))
    (q : ∀ w' s' w, L2.Inv X pins σ H s' → RelP X.K ρ H z w → RelV w w' → Q w' s') : s.TypeIs (.ref a) "dict" ∧ wpAny (model X.prog X.w) A (getItem (.ref a) u) Q E s := by
  rcases ask_of so ea r h with ⟨ws, k, hw, rfl, ro⟩ | ⟨xs, k, c, hw, hk, z2, rfl, hc, ro⟩
  · cases e : valV ws k with
    | none => rw [e] at ro; exact ro.elim
    | some w =>
      rw [e] at ro
      have g : DGet H a (kV k) (some w) := by rw [← e]; exact DGet.k hw
      exact ⟨dict_typeIs I g, d_getItem hu I g ry fun w' s' I' rw' => q w' s' w I' ro rw'⟩
  · cases (show u = Value.ref c from ry)
    have dd := dt_at I hw hk
    cases e : atKey xs k with
    | none => rw [e] at ro; exact ro.elim
    | some p =>
      rw [e] at ro
      obtain ⟨w, r1, r2⟩ := ro
      exact ⟨dd.typeIs, wpAny_getItem_heap (tupleKind_room_in1 hu) (key_is I hc) dd e (q _ _ w (I.tok _) r1 r2)⟩
theorem g_get {Q : Value → Shared → Prop} {y x : PV} {vy vx : V} {u t : Value} {o : Option PV} (hu : A.units + 1 < cLine) (I : L2.Inv X pins σ H s) (so : StOk X.K b ρ S H) {j : Nat} {a : Addr} (ea : ρ[j]? = some a) (r : RelP X.K ρ H y vy) (ry : RelV vy u) (rx : RelP X.K ρ H x vx) (rt : RelV vx t)
    (h : dAsk S j y = some o) (q : ∀ w' s' w, L2.Inv X pins σ H s' → RelP X.K ρ H (o.getD x) w → RelV w w' → Q w' s') : wpAny (model X.prog X.w) A (call (.builtin "dict.get") [.ref a, u, t]) Q E s := by
  rcases ask_of so ea r h with ⟨ws, k, hw, rfl, ro⟩ | ⟨xs, k, c, hw, hk, z2, rfl, hc, ro⟩
  · refine d_get2 hu I (DGet.k hw) ry rt fun w' s' I' rw' => ?_
    cases e : valV ws k with
    | none =>
      rw [e] at ro rw'
      cases o with
      | none => exact q _ _ vx I' rx rw'
      | some z => exact ro.elim
    | some w =>
      rw [e] at ro rw'
      cases o with
      | none => exact ro.elim
      | some z => exact q _ _ w I' ro rw'
  · cases (show u = Value.ref c from ry)
    have dd := dt_at I hw hk
    refine call_meetsIn PySem.F.slot_dict_get dd.typeIs PySem.F.entry_dict_get (PySem.F.args_dict_get_3 _ _ _) (meetsH_dict_get_default (tupleKind (intKind X.prog X.w)) a c z2 t) ⟨tupleKind_room_in1 hu, k, xs, key_is I hc, dd, ?_⟩
    cases e : atKey xs k with
    | none =>
      rw [e] at ro
      cases o with
      | none => exact q _ _ vx (I.tok _) rx rt
      | some z => exact ro.elim
    | some p =>
      rw [e] at ro
      cases o with
      | none => exact ro.elim
      | some z => obtain ⟨w, r1, r2⟩ := ro; exact q _ _ w (I.tok _) r1 r2
theorem put_len {κ : Type} [DecidableEq κ] (kvs : List (κ × PV)) (k : κ) (v : PV) : (MP.putK kvs k v).length ≤ kvs.length + 1 := by
  unfold MP.putK
  split
  · simp
  · simp
theorem und_putK {κ : Type} [DecidableEq κ] {n : Nat} {k : κ} {v : PV} (hv : v.und n = true) : ∀ {kvs : List (κ × PV)}, PV.unds n (kvs.map (·.2)) = true → PV.unds n ((MP.putK kvs k v).map (·.2)) = true := by
  intro kvs h
  unfold MP.putK
  split
  · rename_i hh
    clear hh
    induction kvs with
    | nil => rfl
    | cons p ps ih =>
      have h' := Bool.and_eq_true_iff.mp (by simpa [PV.unds] using h)
      rw [List.map_cons, List.map_cons, PV.unds, Bool.and_eq_true]
      refine ⟨?_, ih h'.2⟩
      split
      · exact hv
      · exact h'.1
  · rw [List.map_append]
    have app : ∀ {xs : List PV}, PV.unds n xs = true → PV.unds n (xs ++ [v]) = true := by
      intro xs
      induction xs with
      | nil => intro _; simp [PV.unds, hv]
      | cons x xs ih =>
        intro h
        have h' := Bool.and_eq_true_iff.mp (by simpa [PV.unds] using h)
        simp [PV.unds, h'.1, ih h'.2]
    exact app h
/-- a dict that is written: what stands then -/
theorem g_put {Q : Unit → Shared → Prop} {y v : PV} {vy vv : V} {u t : Value} {c : Cell} (hu : A.units + 1 < cLine) (I : L2.Inv X pins σ H s) (so : StOk X.K b ρ S H) {j : Nat} {a : Addr} (ea : ρ[j]? = some a) (r : RelP X.K ρ H y vy) (ry : RelV vy u) (rv : RelP X.K ρ H v vv) (rt : RelV vv t)
    (h : dPut S j y v = some c) (q : ∀ s' H', L2.Inv X pins σ H' s' → Grow b ρ ρ S (S.wr b j c v.pure) H H' → StOk X.K b ρ (S.wr b j c v.pure) H' → Keep H H' → Q () s') : wpAny (model X.prog X.w) A (setItem (.ref a) u t) Q E s := by
  unfold dPut at h
  split at h
  · rename_i kvs e
    obtain ⟨ws, rw', hw⟩ := so.cell j _ a e ea
    split at h
    · rename_i hl
      cases qk : keyOf y with
      | none => rw [qk] at h; cases h
      | some k =>
        rw [qk] at h
        cases h
        obtain rfl := key_rel r qk
        have kp : Keep H (upd H a (.dK (L2.putK ws k vv))) := .wr hw trivial
        refine d_setItem hu I (DPut.k hw (by rw [line_eq, ← Paired.length rw']; exact hl)) ry rt fun s' I' => q s' _ I' ?_ ?_ kp
        · exact .writeC e ea kp fun n h1 h2 => by
            simp only [Cell.und] at h1 ⊢
            exact und_putK h2 h1
        · exact so.writeC e rfl ea kp ⟨_, Paired.mapP (dk_put rw' k rv) fun _ _ z => ⟨z.1, z.2.mono kp (List.prefix_refl _)⟩, upd_same⟩
    · cases h
  · rename_i kvs e
    obtain ⟨xs, d, z1, z2, hw⟩ := so.cell j _ a e ea
    split at h
    · rename_i ys
      split at h
      · rename_i hl
        cases qk : intsOf ys with
        | none => rw [qk] at h; cases h
        | some k =>
          rw [qk] at h
          cases h
          obtain ⟨cc, vs, rfl, hc, rs⟩ := r.of_tup
          rw [ints_of rs qk] at hc
          cases (show u = Value.ref cc from ry)
          have dd := dt_at I hw d.keys
          have dp := d.put hc rv rt
          have kp : Keep H (upd H a (dTO a (storedH xs k cc t))) := .wr hw trivial
          have lx : (storedH xs k cc t).length ≤ sizeLine := by
            rw [← Paired.length dp.rel]
            have := put_len kvs k v
            rw [line_eq]
            omega
          refine wpAny_setItem_heap (hsz := z1) (tupleKind_room_in1 hu) (key_is I hc) dd fun h' dd' hs => q _ _ (d_write I (by rw [hw]; exact True.intro) hs (let ⟨o, _, _, ho, _⟩ := dd'; ⟨o, ho⟩) (dt_new dd')) ?_ ?_ kp
          · exact .writeC e ea kp fun n h1 h2 => by
              simp only [Cell.und] at h1 ⊢
              exact und_putK h2 h1
          · exact so.writeC e rfl ea kp ⟨_, dp.keep kp (List.prefix_refl _), lx, z2, upd_same⟩
      · cases h
    · cases h
  · cases h
/-! ### subscripts and slices -/
def rI' (K : PySem.W.Frag) (b : Nat) : R2 := fun x y H Q => ∃ ρ S v u z, StOk K b ρ S H ∧ RelP K ρ H v x ∧ RelP K ρ H u y ∧ ixV S v u = some z ∧ ∀ w, RelP K ρ H z w → Q w H
theorem ix_ok (hu : X.A.units + 65 < cLine) : IxR X (rI' X.K b) := by
  intro value slice pins s σ H x y vx vy Q I rx ry h hs
  obtain ⟨ρ, S, v, u, z, so, rv, ru, hz, q⟩ := h
  unfold ixV at hz
  split at hz
  · obtain ⟨a, vs, rfl, h, rs⟩ := rv.of_tup
    obtain rfl := ru.of_int
    obtain ⟨w, h1, h2⟩ := atI_rel rs hz
    exact ix_seq value slice pins s σ H _ _ vx vy Q I rx ry (.inr (.inl ⟨a, vs, _, w, rfl, rfl, h, h1, q w h2⟩)) hs
  · obtain ⟨a, vs, rfl, h, rs⟩ := rv.of_lst
    obtain rfl := ru.of_int
    obtain ⟨w, h1, h2⟩ := atI_rel rs hz
    exact ix_seq value slice pins s σ H _ _ vx vy Q I rx ry (.inl ⟨a, vs, _, w, rfl, rfl, h.sq, h1, q w h2⟩) hs
  · rename_i zz ii
    obtain rfl := rv.of_str
    obtain rfl := ru.of_int
    split at hz
    · rename_i hl
      cases e : MP.itemAt zz.cps.toList ii with
      | none => rw [e] at hz; cases hz
      | some c =>
        rw [e] at hz
        cases hz
        exact ix_seq value slice pins s σ H _ _ vx vy Q I rx ry (.inr (.inr ⟨zz, ii, c, rfl, rfl, by rw [line_eq]; exact hl, e, q _ (.str _)⟩)) hs
    · cases hz
  · obtain ⟨a, rfl, ea⟩ := rv.of_ref
    split at hz
    · rename_i e
      obtain rfl := ru.of_int
      obtain ⟨vs, rs, hsq⟩ := so.sql e ea
      obtain ⟨w, h1, h2⟩ := atI_rel rs hz
      exact ix_seq value slice pins s σ H _ _ vx vy Q I rx ry (.inl ⟨a, vs, _, w, rfl, rfl, hsq, h1, q w h2⟩) hs
    · obtain ⟨o, e, hz⟩ := Option.bind_eq_some_iff.mp hz
      obtain rfl : o = some z := hz
      cases rx
      obtain ⟨ty, g⟩ := g_item (A := X.A) (E := X.xe) (Q := EP X pins σ Q) (by omega) I so ea ru ry e fun w' s' w I' r1 r2 => ⟨w, H, I', r2, q w r1⟩
      exact tail_any ty PySem.F.slot_dict_getitem.lookup g hs
    · cases hz
  · cases hz
def rSl (K : PySem.W.Frag) (b : Nat) : V → Option Int → Option Int → Hp → VK → Prop := fun x lo hi H Q => ∃ ρ S v z, StOk K b ρ S H ∧ RelP K ρ H v x ∧ slV S v lo hi = some z ∧ ResV K b ρ S H z Q
theorem sl_ok {T : Exc} {X : Cx} : SlR X (rSl X.K b) := by
  intro pins s σ H x v vl vu lo hi sl Q I rx hs pl pu h
  obtain ⟨ρ, S, v', z, so, rv, hz, h⟩ := h
  have lst : ∀ {a : Addr} {vs : List V} {xs : List PV}, x = .ref a → SqL X.K H a vs → RelPs X.K ρ H xs vs → z = .lst (cut xs lo hi) → ∃ T id, typeLookup (.type T) "__getitem__" = pure (some (.builtin id)) ∧ s.TypeIs v T ∧ wpAny (model X.prog X.w) X.A (getItem v (.ref sl)) (EP X pins σ Q) X.xe s := fun {a vs xs} ex hv rs ez => by
    subst ex ez
    rcases h with ⟨ys, ey, h⟩ | ⟨hn, _⟩
    · cases ey
      exact sl_list pins s σ H _ v vl vu lo hi sl Q I rx hs pl pu ⟨a, vs, rfl, hv, fun p hp => h p _ hp (cut_rel rs lo hi)⟩
    · exact absurd rfl (hn _)
  unfold slV at hz
  split at hz
  · cases hz
    obtain ⟨a, vs, rfl, hv, rs⟩ := rv.of_tup
    rcases h with ⟨ys, ey, _⟩ | ⟨_, h⟩
    · cases ey
    · refine sl_tupA pins s σ H _ v vl vu lo hi sl Q I rx hs pl pu ⟨a, vs, rfl, hv, fun ⟨e1, e2⟩ => ?_, fun _ p hp => ?_⟩
      · rw [edge_eq, ← rs.length] at e1 e2
        rw [cut_whole e1 e2] at h
        exact h _ _ .refl so (.tup hv rs)
      · exact h _ _ (.alloc hp) (so.alloc hp) (.tup (SqT.of upd_same) ((cut_rel rs lo hi).mono (.new hp) (List.prefix_refl _)))
  · cases hz
    obtain ⟨a, vs, rfl, hv, rs⟩ := rv.of_lst
    exact lst rfl hv.sq rs rfl
  · obtain ⟨a, rfl, ea⟩ := rv.of_ref
    cases e : S.lst? _ with
    | none => rw [e] at hz; cases hz
    | some xs =>
      rw [e] at hz
      cases hz
      obtain ⟨vs, rs, hv⟩ := so.sql e ea
      exact lst rfl hv rs rfl
  · obtain rfl := rv.of_str
    split at hz
    · rename_i hl
      cases hz
      rcases h with ⟨ys, ey, _⟩ | ⟨_, h⟩
      · cases ey
      · refine sl_str pins s σ H _ v vl vu lo hi sl Q I rx hs pl pu ⟨_, rfl, by rw [line_eq]; exact hl, h _ _ .refl so ?_⟩
        unfold cutS
        simp only [edge_eq, cut, Array.length_toList]
        exact .str _
    · cases hz
  · cases hz
end
end MP
end
section
set_option Elab.async false
set_option linter.all false
set_option maxRecDepth 100000
set_option maxHeartbeats 1000000
/-! MPSoundF: built-in functions. -/
namespace MP
open PySem PySem.Spec PyProof.Rows L2
section
variable [RT] {b : Nat} {ρ : List Addr} {S : Sto} {H : Hp} {X : Cx} {pins : List (Addr × Obj)} {σ : L2.St} {s : Shared}
theorem is_row (I : L2.Inv X pins σ H s) {c : Addr} {r : List Int} (h : SqT X.K H c (r.map V.int)) : IsRow s.heap (.ref c) r := by
  obtain ⟨its, rv, ⟨o, ho, hc, n, hd⟩, _⟩ := I.tuple h
  exact ⟨c, o, its.toArray, n, rfl, ho, hc, hd, by simpa using rv⟩
def RowsAt (K : PySem.W.Frag) (H : Hp) : List (List Int) → List Addr → Prop := Paired fun r c => SqT K H c (r.map V.int)
theorem RowsAt.mem {K : PySem.W.Frag} {rs : List (List Int)} {cs : List Addr} (x : RowsAt K H rs cs) : ∀ c ∈ cs, ∃ r ∈ rs, SqT K H c (r.map V.int) := by
  unfold RowsAt at x
  induction x with
  | nil => intro c hc; cases hc
  | @cons p q ps qs h t ih =>
    intro c hc
    rcases List.mem_cons.mp hc with rfl | hc
    · exact ⟨p, List.mem_cons_self, h⟩
    · obtain ⟨r, h1, h2⟩ := ih c hc
      exact ⟨r, List.mem_cons_of_mem _ h1, h2⟩
/-- what the sorter gives, as rows -/
theorem rows_out (I : L2.Inv X pins σ H s) {rs : List (List Int)} {cs : List Addr} (x : RowsAt X.K H rs cs) {h₁ : Heap} (kp : ∀ b o, s.heap.get? b = some o → h₁.get? b = some o) {out : List Value} (h1 : SrtO.Srtd (fun v u => lexI (rowOf h₁ v) (rowOf h₁ u)) out) (hp : out.Perm (cs.map Value.ref)) :
    ∃ ds : List Addr, out = ds.map Value.ref ∧ RowsAt X.K H (sortL lexI rs) ds := by
  have row : ∀ {c : Addr} {r : List Int}, SqT X.K H c (r.map V.int) → rowOf h₁ (.ref c) = r := fun {c r} h => ((is_row I h).keeps fun b o e _ => kp b o e).of
  have all : ∀ v ∈ out, ∃ c, v = Value.ref c ∧ SqT X.K H c ((rowOf h₁ v).map V.int) := fun v hv => by
    obtain ⟨c, hc, rfl⟩ := List.mem_map.mp (hp.mem_iff.mp hv)
    obtain ⟨r, _, h⟩ := x.mem c hc
    exact ⟨c, rfl, by rw [row h]; exact h⟩
  have e1 : (cs.map Value.ref).map (rowOf h₁) = rs := by
    clear hp all h1
    unfold RowsAt at x
    induction x with
    | nil => rfl
    | @cons p q ps qs h t ih => rw [List.map_cons, List.map_cons, ih, row h]
  have pm : (out.map (rowOf h₁)).Perm rs := by
    have z := hp.map (rowOf h₁)
    rw [e1] at z
    exact z
  have so : SrtB lexI (out.map (rowOf h₁)) := List.pairwise_map.mpr h1
  have eq : out.map (rowOf h₁) = sortL lexI rs := srt_unique (fun h h' => lexI_tot h h') (pm.trans (sortL_perm rs).symm) so (sortL_srt (lt := lexI) (fun {a b} h => lexI_asym h) (fun {a b c} h h' => lexI_neg h h') rs)
  rw [← eq]
  clear eq so pm hp h1 e1
  induction out with
  | nil => exact ⟨[], rfl, .nil⟩
  | cons v out ih =>
    obtain ⟨ds, e, r⟩ := ih fun u hu => all u (List.mem_cons_of_mem _ hu)
    obtain ⟨c, e2, h⟩ := all v List.mem_cons_self
    refine ⟨c :: ds, by rw [List.map_cons, e, e2], ?_⟩
    rw [List.map_cons]
    exact Paired.cons h r
theorem rows_rel {K : PySem.W.Frag} : ∀ {rs : List (List Int)} {cs : List Addr}, RowsAt K H rs cs → RelPs K ρ H (rs.map rowPV) (cs.map V.ref)
  | _, _, .nil => .nil
  | _, _, .cons h t => .cons (.tup h (ints_rel _)) (rows_rel t)
where ints_rel : ∀ r : List Int, RelPs K ρ H (r.map PV.int) (r.map V.int)
  | [] => .nil
  | i :: r => .cons (.int i) (ints_rel r)
theorem rows_of {K : PySem.W.Frag} : ∀ {xs : List PV} {vs : List V} {rs : List (List Int)}, RelPs K ρ H xs vs → rowsOf xs = some rs → ∃ cs, vs = cs.map V.ref ∧ RowsAt K H rs cs ∧ ∀ r ∈ rs, r ≠ []
  | [], _, rs, .nil, e => by cases e; exact ⟨[], rfl, .nil, fun r hr => by cases hr⟩
  | x :: xs, _, rs, .cons r t, e => by
    cases x with
    | tup ys =>
      cases q : intsOf ys with
      | none => simp [rowsOf, q] at e
      | some y =>
        cases q2 : rowsOf xs with
        | none => simp [rowsOf, q, q2] at e
        | some rs2 =>
          simp only [rowsOf, q, q2] at e
          split at e
          · cases e
          · rename_i hy
            cases e
            obtain ⟨cs, rfl, h1, h2⟩ := rows_of t q2
            obtain ⟨c, vs, rfl, hc, rr⟩ := r.of_tup
            rw [ints_of rr q] at hc
            refine ⟨c :: cs, rfl, .cons hc h1, fun r hr => ?_⟩
            rcases List.mem_cons.mp hr with rfl | hr
            · intro z; subst z; exact hy rfl
            · exact h2 r hr
    | _ => simp [rowsOf] at e
theorem vals_refs' : ∀ {cs : List Addr} {us : List Value}, Vals (cs.map V.ref) us → us = cs.map Value.ref
  | [], _, .nil => rfl
  | c :: cs, _, .cons h t => by
    cases h
    rw [vals_refs' t, List.map_cons]
/-- sorted(xs), rows of ints -/
theorem sorted_rows {Q : VK} {E : Value → Shared → Prop} (I : L2.Inv X pins σ H s) {a : Addr} {rs : List (List Int)} {cs : List Addr} (hs : SqL X.K H a (cs.map V.ref)) (x : RowsAt X.K H rs cs) (hr : ∀ r ∈ rs, r ≠ [])
    (q : ∀ p ds, H p = none → RowsAt X.K H (sortL lexI rs) ds → Q (.ref p) (upd H p (.lst (ds.map V.ref)))) : wpAny (model X.prog X.w) X.A (call (.builtin "sorted") [.ref a]) (EP X pins σ Q) E s := by
  obtain ⟨its, rv, hl, hz⟩ := I.list hs
  obtain rfl := vals_refs' rv
  have rows : ∀ v ∈ cs.map Value.ref, ∃ r, IsRow s.heap v r ∧ r ≠ [] := fun v hv => by
    obtain ⟨c, hc, rfl⟩ := List.mem_map.mp hv
    obtain ⟨r, h1, h2⟩ := x.mem c hc
    exact ⟨r, is_row I h2, hr r h1⟩
  have hz' : (cs.map Value.ref).length ≤ sizeLine := by rw [List.length_map] at hz ⊢; exact hz
  refine SrtO.sorted_ord (swo_row s.heap) hl.isList hz' (fun h2 h₁ a' ha kk => ?_) fun out h1 h2 => ?_
  · have z := rows_sortable (prog := X.prog) (w := X.w) (A := X.A.in1.in1) (s := { s with heap := h₁ }) (a := a') (vs := cs.map Value.ref) (by omega) (fun v hv => by
      obtain ⟨r, y, n⟩ := rows v hv
      exact ⟨r, y.keeps fun b o e _ => (kk b o e).2, n⟩) fun o e => by
        have e' : some o = some (seqObj "list" (cs.map Value.ref).toArray 0) := e.symm.trans ha
        cases e'
        intro c
        exact absurd (Value.type.inj c) (by decide)
    have same : ∀ v ∈ cs.map Value.ref, rowOf h₁ v = rowOf s.heap v := fun v hv => by
      obtain ⟨r, y, n⟩ := rows v hv
      rw [y.of, (y.keeps fun b o e _ => (kk b o e).2).of]
    intro h' keep
    obtain ⟨κ, g1, g2⟩ := z h' keep
    refine ⟨κ, g1, fun p' q' hm hm' => ?_⟩
    have y := g2 p' q' hm hm'
    unfold SrtO.lt2 at y ⊢
    simp only [same p'.1 hm, same q'.1 hm'] at y
    exact y
  · obtain ⟨ds, e, xd⟩ := rows_out I x (h₁ := s.heap) (fun _ _ e => e) h1 h2.perm
    obtain ⟨ep, he'⟩ := PyProof.Rows.sortedAll_at s.heap (cs.map Value.ref) out.toArray
    have hlen : (ds.map V.ref).length ≤ sizeLine := by
      have l := h2.perm.length_eq
      rw [e, List.length_map] at l
      rw [List.length_map, l]
      exact hz'
    refine ⟨.ref _, upd H (s.heap.objs.size + 1) (.lst (ds.map V.ref)), I.laid (t' := s.toks) (fun _ _ => PyProof.Rows.sortedAll_old) (Nat.le_succ _) ⟨hlen, out, ep, by rw [e]; exact vals_refs ds, he'⟩, rfl, q _ _ (I.hok.fresh (Nat.le_succ _)) xd⟩
/-- the keys of a dict, collected -/
theorem keys_acc {es : Array DictEntry} {xs : List (List Int × Addr × Value)} (he : es.toList = xs.map entI) {acc : Array Value} (h : ItemsOf (fun i v => ∃ en : DictEntry, es[i]? = some en ∧ v = en.key) acc es.size) : acc.toList = (xs.map fun x => x.2.1).map Value.ref := by
  have l1 : es.size = xs.length := by rw [← Array.length_toList, he, List.length_map]
  have hl : acc.toList.length = xs.length := by rw [Array.length_toList, h.1, l1]
  rw [List.map_map]
  apply List.ext_getElem?
  intro j
  rw [List.getElem?_map]
  cases hj : acc.toList[j]? with
  | none =>
    have h1 := List.getElem?_eq_none_iff.mp hj
    rw [List.getElem?_eq_none (by omega)]
    rfl
  | some v =>
    obtain ⟨en, hen, hv⟩ := h.2 j v (by rw [← Array.getElem?_toList]; exact hj)
    have qe : es[j]? = (xs[j]?).map entI := by rw [← Array.getElem?_toList, he, List.getElem?_map]
    rw [hen] at qe
    cases hb : xs[j]? with
    | none => rw [hb] at qe; cases qe
    | some y =>
      rw [hb] at qe
      have e2 : en = entI y := Option.some.inj qe
      rw [hv, e2]
      rfl
theorem dt_rows {K : PySem.W.Frag} {kvs : List (List Int × PV)} {xs : List (List Int × Addr × Value)} (d : DtOk K ρ H kvs xs) : RowsAt K H (kvs.map (·.1)) (xs.map fun x => x.2.1) := by
  have r := d.rel
  clear d
  unfold RowsAt
  induction r with
  | nil => exact .nil
  | @cons p q ps qs h t ih => exact .cons h.2.1 ih
/-- list(d) -/
theorem list_dT {Q : VK} (hc : X.calm = true) (I : L2.Inv X pins σ H s) {a : Addr} {kvs : List (List Int × PV)} {xs : List (List Int × Addr × Value)} (d : DtOk X.K ρ H kvs xs) (hl : xs.length ≤ sizeLine) (hm : (a == sysModules) = false) (ha : H a = some (dTO a xs))
    (q : ∀ p ds, H p = none → RowsAt X.K H (kvs.map (·.1)) ds → Q (.ref p) (upd H p (.lst (ds.map V.ref)))) {us : List Value} (hu : us = [.ref a]) : wpAny (model X.prog X.w) X.A (call (.type "list") us) (EP X pins σ Q) X.xe s := by
  subst hu
  obtain ⟨⟨o, es, ep, ho, hx, hdt, he, hn⟩, _⟩ := (show ObjOk X.prog X.w H s.heap a (dTO a xs) from I.hok a _ ha)
  have l1 : es.size = xs.length := by rw [← Array.length_toList, he, List.length_map]
  refine PySem.W.kdl_call (kdl_raw hm hx hdt) (I.ok.hd hc) ho (by omega) fun h' tk acc' c' kp e it => ?_
  have eb := keys_acc he it
  refine ⟨.ref s.heap.objs.size, _, I.laid (t' := tk) (o := .lst ((xs.map fun x => x.2.1).map V.ref)) kp (Nat.le_refl _) ?_, rfl, q _ _ (I.hok.fresh (Nat.le_refl _)) (dt_rows d)⟩
  exact ⟨by rw [List.length_map, List.length_map]; exact hl, acc'.toList, c', by rw [eb]; exact vals_refs _, by rw [Array.toArray_toList]; exact e⟩
/-- sorted(d) -/
theorem sorted_dT {Q : VK} (hc : X.calm = true) (I : L2.Inv X pins σ H s) {a : Addr} {kvs : List (List Int × PV)} {xs : List (List Int × Addr × Value)} (d : DtOk X.K ρ H kvs xs) (hl : xs.length ≤ sizeLine) (hm : (a == sysModules) = false) (ha : H a = some (dTO a xs)) (hr : ∀ p ∈ kvs, p.1 ≠ [])
    (q : ∀ p ds, H p = none → RowsAt X.K H (sortL lexI (kvs.map (·.1))) ds → Q (.ref p) (upd H p (.lst (ds.map V.ref)))) {us : List Value} (hu : us = [.ref a]) : wpAny (model X.prog X.w) X.A (call (.builtin "sorted") us) (EP X pins σ Q) X.xe s := by
  subst hu
  obtain ⟨⟨o, es, ep, ho, hx, hdt, he, hn⟩, _⟩ := (show ObjOk X.prog X.w H s.heap a (dTO a xs) from I.hok a _ ha)
  have l1 : es.size = xs.length := by rw [← Array.length_toList, he, List.length_map]
  refine Calls.call_function_entry PyProof.Rows.kind_sorted PyProof.Rows.plain_sorted PyProof.Rows.entry_sorted (PyProof.Rows.args_sorted1 _) ?_
  unfold Builtin.«sorted»
  refine wpAny_bind (m := checkCount "sorted" 1 1 _) (wpAny_pure ?_)
  refine wpAny_bind (PySem.W.kdu_collect (A := X.A.in1) (kdl_raw hm hx hdt) (I.ok.hd hc) ho (by omega) fun h' tk acc hk hacc => ?_)
  have eb := keys_acc he hacc
  have I1 : L2.Inv X pins σ H { s with heap := h', toks := tk } := I.kept hk
  have al : acc.toList.length = xs.length := by rw [eb, List.length_map, List.length_map]
  refine wpAny_bind (wpAny_newList ?_ (by rw [al]; exact hl))
  have hoL : (h'.push (seqObj "list" acc.toList.toArray 0)).get? h'.objs.size = some (seqObj "list" acc.toList.toArray 0) := Heap.get?_push_size _ rfl
  show wpAny _ _ _ _ _ { s with heap := h'.push (seqObj "list" acc.toList.toArray 0), toks := tk }
  have x := dt_rows d
  have kp2 : ∀ b o, h'.get? b = some o → (h'.push (seqObj "list" acc.toList.toArray 0)).get? b = some o := fun b o e => Heap.get?_push_of_some _ e
  have rows : ∀ v ∈ acc.toList, ∃ r, IsRow (h'.push (seqObj "list" acc.toList.toArray 0)) v r ∧ r ≠ [] := fun v hv => by
    rw [eb] at hv
    obtain ⟨c, hc, rfl⟩ := List.mem_map.mp hv
    obtain ⟨r, h1, h2⟩ := x.mem c hc
    obtain ⟨p, hp, rfl⟩ := List.mem_map.mp h1
    exact ⟨_, (is_row I1 h2).keeps fun b o e _ => kp2 b o e, hr p hp⟩
  refine wpAny_bind (wpAny_holding (wpAny_call_entry PyProof.Rows.slot_list_sort ⟨_, hoL, rfl⟩ PyProof.Rows.entry_list_sort
    (SrtO.list_sort_ord (s := { s with heap := h'.push (seqObj "list" acc.toList.toArray 0), toks := tk }) (swo_row _) hoL (by rw [al]; exact hl) (fun h2 => rows_sortable (by omega) rows fun o e => by
      have e' : some o = some (seqObj "list" acc.toList.toArray 0) := e.symm.trans hoL
      cases e'
      intro c
      exact absurd (Value.type.inj c) (by decide)) fun out h1 h2 => ⟨_, rfl, ?_⟩) (PyProof.Rows.args_list_sort _)))
  obtain ⟨ds, e, xd⟩ := rows_out I1 x kp2 h1 (by rw [← eb]; exact h2.perm)
  obtain ⟨e', he'⟩ := PyProof.Rows.sortedHeap_at (vs := acc.toList) (out := out.toArray) hoL
  have hlen : (ds.map V.ref).length ≤ sizeLine := by
    have l := h2.perm.length_eq
    rw [e, List.length_map] at l
    rw [List.length_map, l, al]
    exact hl
  refine wpAny_pure ⟨_, rfl, .ref h'.objs.size, upd H h'.objs.size (.lst (ds.map V.ref)), I1.laid (t' := tk) (fun b u e => ?_) (Nat.le_refl _) (show ObjOk X.prog X.w _ _ _ (.lst (ds.map V.ref)) from ⟨hlen, out, e', by rw [e]; exact vals_refs ds, he'⟩), rfl, q _ _ (I1.hok.fresh (Nat.le_refl _)) xd⟩
  have hb : b < h'.objs.size := Heap.lt_size e
  rw [PyProof.Rows.sortedHeap_old (Nat.ne_of_lt hb) (by rw [size_push']; exact Nat.lt_succ_of_lt hb)]
  exact Heap.get?_push_of_some _ e
/-- sum(t), a tuple of ints -/
theorem sum_tup {Q : VK} (hc : X.calm = true) (I : L2.Inv X pins σ H s) {a : Addr} {ns : List Int} (ha : SqT X.K H a (ns.map V.int)) (q : Q (.int ns.sum) H) {us : List Value} (hu : us = [.ref a]) : wpAny (model X.prog X.w) X.A (call (.builtin "sum") us) (EP X pins σ Q) X.xe s := by
  subst hu
  obtain ⟨its, rv, ht, _⟩ := I.tuple ha
  obtain ⟨ys, e⟩ := rv.ints.allInts.items
  have hn : numsOf (intItems ys).toList = ns := by rw [← e]; exact rv.ints.numsOf
  rw [nums_intItems] at hn
  have lt : a < s.heap.objs.size := let ⟨o, ho, _⟩ := ht; Heap.lt_size ho
  refine PySem.call_sum_walkAnyS (wpAny_pyIter_tuple (show s.heap.IsTuple a its.toArray from ht) ?_)
  rw [e] at ht
  refine ⟨_, _, _, _, _, _, _, numAt ys, rfl, (Walks.tuple (A := X.A.in1) (I.ok.hd hc) s.heap.objs.size a (Nat.ne_of_lt lt) (intItems ys)).toS, ⟨⟨_, Heap.get?_push_size _ rfl, rfl, rfl⟩, (show s.heap.IsTuple a (intItems ys) from ht).at fun o e => Heap.get?_push_of_some _ e⟩, fun bb hb => ?_, fun _ _ => intItems_at, fun s' t' hm => ?_⟩
  · have e' : bb = s.heap.objs.size ∨ bb = a := by simpa using hb
    show bb < (s.heap.push _).objs.size
    rw [size_push']
    rcases e' with rfl | rfl
    · exact Nat.lt_succ_self _
    · exact Nat.lt_succ_of_lt lt
  · have kp : ∀ bb o, s.heap.get? bb = some o → s'.heap.get? bb = some o := fun bb o h => hm.heap bb o (fun z => by
      have z' : bb = s.heap.objs.size := by simpa using z
      rw [z'] at h
      exact absurd (Heap.lt_size h) (Nat.lt_irrefl _)) (Heap.get?_push_of_some _ h)
    have g : s'.gens = s.gens := hm.gens
    have d : s'.drawn = s.drawn := hm.drawn
    have o : s'.os = s.os := hm.os
    obtain ⟨hp, gs, dr, tk, os⟩ := s'
    simp only at g d o kp
    subst g d o
    refine ⟨.int ns.sum, H, I.kept (t' := tk) kp, ⟨t', ?_⟩, q⟩
    rw [preSum_eq, List.take_of_length_le (by simp [intItems]), hn]
end
end MP
end
section
set_option Elab.async false
set_option linter.all false
set_option maxRecDepth 100000
/-! MPSound4: built-in functions; an expression's text and its run. -/
namespace MP
open PySem PySem.Spec PyProof.Rows L2
theorem CallR.weak {X : Cx} {f : Value} {r r' : List V → Hp → VK → Prop} (h : CallR X f r) (w : ∀ xs H Q, r' xs H Q → r xs H Q) : CallR X f r' := fun pins s σ H xs us Q I rx q => h pins s σ H xs us Q I rx (w xs H Q q)
section
variable [RT] {K : PySem.W.Frag} {b : Nat} {ρ : List Addr} {S : Sto} {H : Hp}
def rBi (K : PySem.W.Frag) (b : Nat) (f : Bi) : List V → Hp → VK → Prop := fun vs H Q => ∃ ρ S xs z, StOk K b ρ S H ∧ RelPs K ρ H xs vs ∧ biV S f xs = some z ∧ ResV K b ρ S H z Q
/-- what a built-in's number stands for -/
def biVal : Bi → Value
  | .abs => .builtin "abs"
  | .int => .type "int"
  | .len => .builtin "len"
  | .list => .type "list"
  | .tuple => .type "tuple"
  | .gcd => .builtin "math.gcd"
  | .max2 => .builtin "max"
  | .min2 => .builtin "min"
  | .str => .type "str"
  | .sum => .builtin "sum"
  | .sorted => .builtin "sorted"
  | .all => .builtin "all"
  | .any => .builtin "any"
  | .bool => .type "bool"
  | .maxL => .builtin "max"
  | .minL => .builtin "min"
theorem bls_of : ∀ {xs : List PV} {vs : List V} {ns : List Bool}, RelPs K ρ H xs vs → blsOf xs = some ns → vs = ns.map V.bl
  | [], _, ns, .nil, e => by cases e; rfl
  | x :: xs, _, ns, .cons r t, e => by
    cases x with
    | bl i =>
      cases q : blsOf xs with
      | none => simp [blsOf, q] at e
      | some ms =>
        have e' : i :: ms = ns := by simpa [blsOf, q] using e
        subst e'
        obtain rfl := r.of_bl
        rw [bls_of t q]
        rfl
    | _ => simp [blsOf] at e
theorem ints_rel {K : PySem.W.Frag} : ∀ r : List Int, RelPs K ρ H (r.map PV.int) (r.map V.int)
  | [] => .nil
  | i :: r => .cons (.int i) (ints_rel r)
theorem sort_ints {ns ns' : List Int} (h1 : ns'.Perm ns) (h2 : ns'.Pairwise (· ≤ ·)) : ns' = sortL (fun a b => decide (a < b)) ns := by
  refine srt_unique (lt := fun (a b : Int) => decide (a < b)) (fun {a b} h h' => ?_) (h1.trans (sortL_perm ns).symm) (h2.imp fun {a b} h => decide_eq_false (by omega)) (sortL_srt (lt := fun (a b : Int) => decide (a < b)) (fun {a b} h => ?_) (fun {a b c} h h' => ?_) ns)
  · have h := of_decide_eq_false h
    have h' := of_decide_eq_false h'
    omega
  · have h := of_decide_eq_true h
    exact decide_eq_false (by omega)
  · have h := of_decide_eq_false h
    have h' := of_decide_eq_false h'
    exact decide_eq_false (by omega)
/-- sorted(xs) -/
theorem sorted_seq {X : Cx} {pins : List (Addr × Obj)} {σ : L2.St} {s : Shared} {Q : VK} {us : List Value} (I : L2.Inv X pins σ H s) {a : Addr} {xs ys : List PV} {vs : List V} (rv : Vals [V.ref a] us) (hs : SqL X.K H a vs) (rs : RelPs X.K ρ H xs vs) (e : sortV xs = some ys)
    (h : ∀ p ws, H p = none → RelPs X.K ρ H ys ws → Q (.ref p) (upd H p (.lst ws))) : wpAny (model X.prog X.w) X.A (call (.builtin "sorted") us) (EP X pins σ Q) X.xe s := by
  unfold sortV at e
  split at e
  · rename_i ns q
    cases e
    rw [ints_of rs q] at hs
    exact cr_sortedI pins s σ H _ us Q I rv ⟨a, ns, rfl, hs, fun ns' p h1 h2 hp => h p _ hp (by rw [sort_ints h1 h2]; exact ints_rel _)⟩
  · cases q : rowsOf xs with
    | none => rw [q] at e; cases e
    | some rs' =>
      rw [q] at e
      cases e
      obtain ⟨cs, rfl, h1, h2⟩ := rows_of rs q
      obtain ⟨u, rfl, ru⟩ := vals1 rv
      cases ru
      exact sorted_rows I hs h1 h2 fun p ds hp xd => h p _ hp (rows_rel xd)
theorem bi_ok {X : Cx} (hc : X.calm = true) (f : Bi) : CallR X (biVal f) (rBi X.K b f) := by
  intro pins s σ H vs us Q I rv h
  obtain ⟨ρ, S, xs, z, so, rs, hz, h⟩ := h
  have nl : ∀ {w : V}, (∀ xs, z ≠ .lst xs) → RelP X.K ρ H z w → Q w H := fun {w} n r => h.val so n r
  unfold biV at hz
  split at hz
  · cases hz
    obtain ⟨v, rfl, r⟩ := rs.one
    obtain rfl := r.of_int
    exact call_abs pins s σ H _ us Q I rv ⟨_, rfl, nl (fun _ e => by cases e) (.int _)⟩
  · cases hz
    obtain ⟨v, rfl, r⟩ := rs.one
    obtain rfl := r.of_int
    exact call_int1 pins s σ H _ us Q I rv (.inl ⟨_, rfl, nl (fun _ e => by cases e) (.int _)⟩)
  · cases hz
    obtain ⟨v, rfl, r⟩ := rs.one
    obtain rfl := r.of_bl
    exact call_int1 pins s σ H _ us Q I rv (.inr ⟨_, rfl, nl (fun _ e => by cases e) (.int _)⟩)
  · obtain ⟨v, rfl, r⟩ := rs.one
    obtain rfl := r.of_str
    split at hz
    · rename_i hl
      obtain ⟨n, hn, hz⟩ := Option.map_eq_some_iff.mp hz
      subst hz
      exact call_int_str pins s σ H _ us Q I rv ⟨_, n, rfl, hn, hl, nl (fun _ e => by cases e) (.int _)⟩
    · cases hz
  · cases hz
    obtain ⟨v, rfl, r⟩ := rs.one
    obtain ⟨a, ws, rfl, hs, rw'⟩ := r.of_tup
    refine call_len_seq pins s σ H _ us Q I rv ⟨a, ws, rfl, .inr hs, ?_⟩
    rw [← rw'.length]
    exact nl (fun _ e => by cases e) (.int _)
  · obtain ⟨v, rfl, r⟩ := rs.one
    obtain rfl := r.of_str
    split at hz
    · rename_i hl
      cases hz
      exact call_len_str pins s σ H _ us Q I rv ⟨_, rfl, by rw [line_eq]; exact hl, nl (fun _ e => by cases e) (.int _)⟩
    · cases hz
  · obtain ⟨v, rfl, r⟩ := rs.one
    obtain ⟨ys, e, hz⟩ := Option.map_eq_some_iff.mp hz
    subst hz
    obtain ⟨a, ws, rfl, hs, rw'⟩ := lst_of so r e
    refine call_len_seq pins s σ H _ us Q I rv ⟨a, ws, rfl, .inl hs, ?_⟩
    rw [← rw'.length]
    exact nl (fun _ e => by cases e) (.int _)
  · obtain ⟨v, rfl, r⟩ := rs.one
    obtain ⟨a, rfl, ea⟩ := r.of_ref
    split at hz
    · rename_i ys e
      cases hz
      obtain ⟨ws, rw', hs⟩ := so.cell _ _ a e ea
      exact call_list_of pins s σ H _ us Q I rv ⟨a, ws, rfl, .inl (SqL.of hs), fun p hp => h.new hp rw'⟩
    · rename_i ys e
      cases hz
      obtain ⟨ws, rw', hs⟩ := so.cell _ _ a e ea
      exact call_list_of pins s σ H _ us Q I rv ⟨a, ws, rfl, .inl (.inl (.inr hs)), fun p hp => h.new hp rw'⟩
    · rename_i kvs e
      cases hz
      obtain ⟨xs, d, z1, z2, hw⟩ := so.cell _ _ a e ea
      obtain ⟨u, rfl, ru⟩ := vals1 rv
      cases ru
      refine list_dT hc I d z1 z2 hw (fun p ds hp xd => h.new hp ?_) rfl
      have z := rows_rel (ρ := ρ) xd
      rw [List.map_map] at z
      exact z
    · cases hz
  · obtain ⟨v, rfl, r⟩ := rs.one
    obtain ⟨ys, e, hz⟩ := Option.map_eq_some_iff.mp hz
    subst hz
    obtain ⟨a, ws, rfl, rw', hs⟩ := seq_of so r e
    exact call_list_of pins s σ H _ us Q I rv ⟨a, ws, rfl, hs, fun p hp => h.new hp rw'⟩
  · obtain ⟨v, rfl, r⟩ := rs.one
    obtain ⟨ys, e, hz⟩ := Option.map_eq_some_iff.mp hz
    subst hz
    obtain ⟨a, ws, rfl, rw', hs⟩ := seq_of so r e
    rcases h with ⟨_, e, _⟩ | ⟨_, h⟩
    · cases e
    · rcases hs with hs | hs
      · exact call_tuple_of pins s σ H _ us Q I rv ⟨a, ws, rfl, .inl ⟨hs, fun p hp => h _ _ (.alloc hp) (so.alloc hp) (.tup (SqT.of upd_same) (rw'.mono (.new hp) (List.prefix_refl _)))⟩⟩
      · exact call_tuple_of pins s σ H _ us Q I rv ⟨a, ws, rfl, .inr ⟨hs, h _ _ .refl so (.tup hs rw')⟩⟩
  · cases hz
    obtain ⟨v, w, rfl, r, q⟩ := rs.two
    obtain rfl := r.of_int
    obtain rfl := q.of_int
    exact cr_gcd pins s σ H _ us Q I rv ⟨_, _, rfl, nl (fun _ e => by cases e) (.int _)⟩
  · cases hz
    obtain ⟨v, w, rfl, r, q⟩ := rs.two
    obtain rfl := r.of_int
    obtain rfl := q.of_int
    exact call_max2 hc pins s σ H _ us Q I rv ⟨_, _, rfl, nl (fun _ e => by cases e) (.int _)⟩
  · cases hz
    obtain ⟨v, w, rfl, r, q⟩ := rs.two
    obtain rfl := r.of_int
    obtain rfl := q.of_int
    exact call_min2 hc pins s σ H _ us Q I rv ⟨_, _, rfl, nl (fun _ e => by cases e) (.int _)⟩
  · obtain ⟨v, rfl, r⟩ := rs.one
    obtain rfl := r.of_int
    split at hz
    · rename_i hl
      cases hz
      exact call_str_int pins s σ H _ us Q I rv ⟨_, rfl, hl, nl (fun _ e => by cases e) (.str _)⟩
    · cases hz
  · obtain ⟨v, rfl, r⟩ := rs.one
    obtain ⟨ns, e, hz⟩ := Option.map_eq_some_iff.mp hz
    subst hz
    obtain ⟨ys, e, e'⟩ := Option.bind_eq_some_iff.mp e
    obtain ⟨a, ws, rfl, rw', hs⟩ := seq_of so r e
    have e2 := ints_of rw' e'
    subst e2
    rcases hs with hs | hs
    · exact cr_sum hc pins s σ H _ us Q I rv ⟨a, ns, rfl, hs, nl (fun _ e => by cases e) (.int _)⟩
    · obtain ⟨u, rfl, ru⟩ := vals1 rv
      cases ru
      exact sum_tup hc I hs (nl (fun _ e => by cases e) (.int _)) rfl
  · obtain ⟨v, rfl, r⟩ := rs.one
    obtain ⟨ns, e, hz⟩ := Option.map_eq_some_iff.mp hz
    subst hz
    obtain ⟨ys, e, e'⟩ := Option.bind_eq_some_iff.mp e
    obtain ⟨a, ws, rfl, hs, rw'⟩ := lst_of so r e
    have e2 := bls_of rw' e'
    subst e2
    exact cr_all hc pins s σ H _ us Q I rv ⟨a, ns, rfl, hs, nl (fun _ e => by cases e) (.bl _)⟩
  · obtain ⟨v, rfl, r⟩ := rs.one
    obtain ⟨ns, e, hz⟩ := Option.map_eq_some_iff.mp hz
    subst hz
    obtain ⟨ys, e, e'⟩ := Option.bind_eq_some_iff.mp e
    obtain ⟨a, ws, rfl, hs, rw'⟩ := lst_of so r e
    have e2 := bls_of rw' e'
    subst e2
    exact cr_any hc pins s σ H _ us Q I rv ⟨a, ns, rfl, hs, nl (fun _ e => by cases e) (.bl _)⟩
  · obtain ⟨v, rfl, r⟩ := rs.one
    obtain ⟨a, rfl, ea⟩ := r.of_ref
    split at hz
    · rename_i kvs e
      split at hz
      · cases hz
      · rename_i hr
        cases hz
        obtain ⟨xs, d, z1, z2, hw⟩ := so.cell _ _ a e ea
        obtain ⟨u, rfl, ru⟩ := vals1 rv
        cases ru
        refine sorted_dT hc I d z1 z2 hw (fun p hp e => hr ?_) (fun p ds hp xd => h.new hp (rows_rel xd)) rfl
        rw [List.any_eq_true]
        exact ⟨p.1, List.mem_map.mpr ⟨p, hp, rfl⟩, by rw [e]; rfl⟩
    · rename_i ys e
      obtain ⟨zs, e2, hz⟩ := Option.map_eq_some_iff.mp hz
      subst hz
      obtain ⟨ws, rw', hs⟩ := so.cell _ _ a e ea
      exact sorted_seq I rv (SqL.of hs) rw' e2 fun p ws hp r => h.new hp r
    · rename_i ys e
      obtain ⟨zs, e2, hz⟩ := Option.map_eq_some_iff.mp hz
      subst hz
      obtain ⟨ws, rw', hs⟩ := so.cell _ _ a e ea
      exact sorted_seq I rv (.inl (.inr hs)) rw' e2 fun p ws hp r => h.new hp r
    · cases hz
  · obtain ⟨v, rfl, r⟩ := rs.one
    obtain ⟨zs, e2, hz⟩ := Option.map_eq_some_iff.mp hz
    subst hz
    obtain ⟨a, ws, rfl, hs, rw'⟩ := r.of_lst
    exact sorted_seq I rv hs.sq rw' e2 fun p ws hp r => h.new hp r
  · cases hz
/-! ### isinstance -/
def tyName : Ty → String
  | .int => "int"
  | .bool => "bool"
  | .str => "str"
  | .tup => "tuple"
theorem ty_ok {x : PV} {v : V} {t : Ty} {c : Bool} (r : RelP K ρ H x v) (e : isTy x t = some c) : ∃ u, TyX K H v u ∧ PySem.W.kitOne K u (.type (tyName t)) = some c := by
  unfold isTy at e
  split at e <;> cases e
  · obtain rfl := r.of_non
    exact ⟨_, .base .non, by cases t <;> exact kit_ty (by decide +kernel)⟩
  · obtain rfl := r.of_bl
    exact ⟨_, .base (.bl _), kit_ty (by decide +kernel)⟩
  · obtain rfl := r.of_bl
    exact ⟨_, .base (.bl _), kit_ty (by decide +kernel)⟩
  · obtain rfl := r.of_bl
    refine ⟨_, .base (.bl _), ?_⟩
    cases t <;> first | exact kit_ty (by decide +kernel) | simp_all
  · obtain rfl := r.of_int
    exact ⟨_, .base (.int _), kit_ty (by decide +kernel)⟩
  · obtain rfl := r.of_int
    refine ⟨_, .base (.int _), ?_⟩
    cases t <;> first | exact kit_ty (by decide +kernel) | simp_all
  · obtain rfl := r.of_str
    exact ⟨_, .base (.str _), kit_ty (by decide +kernel)⟩
  · obtain rfl := r.of_str
    refine ⟨_, .base (.str _), ?_⟩
    cases t <;> first | exact kit_ty (by decide +kernel) | simp_all
  all_goals
    obtain ⟨a, vs, rfl, hs, _⟩ := r.of_tup
    have ty : TyX K H (.ref a) (.type "tuple") := by
      rcases hs with (hs | ⟨o, hs⟩) | ⟨o, its, n, hk, hc, _⟩
      · exact .base (.tup hs)
      · exact .fTuple hs
      · exact .kTuple hk hc
    refine ⟨_, ty, ?_⟩
    first | exact kit_ty (by decide +kernel) | (cases t <;> first | exact kit_ty (by decide +kernel) | simp_all)
end
end MP
end
section
set_option Elab.async false
set_option linter.all false
set_option maxRecDepth 100000
/-! MPSound5: whether a row of the text is an expression of MP; if so, it runs like it. -/
namespace MP
open PySem PySem.Spec PyProof.Rows L2
/-! ### the look at a text -/
/-- the names of a text: its defs by number; its exception classes, each with its attributes' names and the names of classes that it is under; constants; which built-in names mean what they mean -/
structure Tab where
  fns : List (Option Str)
  cls : List (Str × List Str × List Str)
  glb : List (Str × PV)
  bi : List Str
  /-- classes of records: name, attributes; by number: the def of __init__; methods: class, name, def -/
  rcs : List (Str × List Str)
  inits : List (Nat × Nat)
  meths : List (Nat × Str × Nat)
/-- a list that is made by the expression itself -/
def E.fresh : E → Bool
  | .lst _ => true
  | .lc _ _ _ _ _ => true
  | .bin .add _ _ => true
  | .slc _ _ _ => true
  | .bi .list _ => true
  | .bi .sorted _ => true
  | _ => false
def notStar : Expr → Bool
  | .Starred _ _ => false
  | _ => true
def notLc : Expr → Bool
  | .ListComp _ _ _ _ => false
  | _ => true
def notCall0 : Expr → Bool
  | .Call (.Name _ _) [] [] _ => false
  | _ => true
def methB : Expr → Bool
  | .Name _ _ => true
  | .Attribute _ _ _ => true
  | .Subscript _ _ _ => true
  | .Call (.Attribute _ _ _) _ _ _ => true
  | .Call _ (_ :: _) _ _ => true
  | _ => false
/-- an f-string's part as an expression -/
def fpB (f : E → Expr → Bool) : Es → List Expr → Bool
  | .nil, es => es.isEmpty
  | .cons e es, fs => match fs with
    | g :: fs => (match g with
      | .Constant (.str x) _ _ => (match e with
        | .cst (.str y) => decide (x = y)
        | _ => false)
      | .FormattedValue v (-1) none _ => f e v
      | _ => false) && fpB f es fs
    | [] => false
def nameB (x : Str) : Bool := !(x == ("__debug__" : Str)) && !(x == ("__classdict__" : Str)) && !(x == ("__name__" : Str))
def kindB (sc : Scope) (x : Str) (k : NameKind) : Bool := decide (sc.names.lookup x = some k)
def visB (sc : Scope) (x : Str) : Bool := kindB sc x .local || kindB sc x .cell || kindB sc x .free
def locB (sc : Scope) (x : Str) : Bool := kindB sc x .local || kindB sc x .cell
def gloB (sc : Scope) (x : Str) : Bool := kindB sc x .globalImplicit && nameB x
def atB (N : List Str) (i : Nat) (x : Str) : Bool := decide (N[i]? = some x)
/-- an operator's look -/
def opB : Op → Operator → Bool
  | .add, .Add | .sub, .Sub | .mul, .Mult | .fdiv, .FloorDiv | .mod, .Mod | .pow, .Pow | .shl, .LShift => true
  | _, _ => false
def cmB : Cm → CmpOp → Bool
  | .eq, .Eq | .ne, .NotEq | .lt, .Lt | .le, .LtE | .gt, .Gt | .ge, .GtE | .isn, .Is | .nisn, .IsNot | .inn, .In | .nin, .NotIn => true
  | _, _ => false
theorem opB_ok {o : Op} {p : Operator} (h : opB o p = true) : p = opOf o := by cases o <;> cases p <;> first | rfl | cases h
theorem cmB_ok {o : Cm} {p : CmpOp} (h : cmB o p = true) : p = cmOf o := by cases o <;> cases p <;> first | rfl | cases h
/-- the name by which a built-in is called -/
def biName : Bi → Str
  | .abs => "abs"
  | .int => "int"
  | .len => "len"
  | .list => "list"
  | .tuple => "tuple"
  | .gcd => "gcd"
  | .max2 => "max"
  | .min2 => "min"
  | .str => "str"
  | .sum => "sum"
  | .sorted => "sorted"
  | .all => "all"
  | .any => "any"
  | .bool => "bool"
  | .maxL => "max"
  | .minL => "min"
def constB (T : Tab) (sc : Scope) (v : PV) : Expr → Bool
  | .Constant (.int i) _ _ => decide (v = .int i)
  | .Constant (.str x) _ _ => decide (v = .str x)
  | .Constant (.bool c) _ _ => decide (v = .bl c)
  | .Constant .none _ _ => decide (v = .non)
  | .Name x _ => gloB sc x && T.glb.any fun p => decide (p = (x, v))
  | _ => false
def isSlice : Expr → Bool
  | .Slice _ _ _ _ => true
  | _ => false
mutual
def Tg.slots : Tg → List Nat
  | .name i => [i]
  | .tup ts => Tgs.slots ts
def Tgs.slots : Tgs → List Nat
  | .nil => []
  | .cons t ts => t.slots ++ ts.slots
end
section
variable (T : Tab) (N : List Str)
mutual
def tgB (lo : Bool) (sc : Scope) : Tg → Expr → Bool
  | .name i, e => match e with
    | .Name x _ => atB N i x && (if lo then kindB sc x .local else locB sc x)
    | _ => false
  | .tup ts, e => match e with
    | .Tuple es _ _ => tgsB lo sc ts es
    | _ => false
def tgsB (lo : Bool) (sc : Scope) : Tgs → List Expr → Bool
  | .nil, es => es.isEmpty
  | .cons t ts, es => match es with
    | e :: es => tgB lo sc t e && tgsB lo sc ts es
    | [] => false
end
mutual
/-- hx: the slot and class's number of the exception that is held (a suite); cl: no exception is handled -/
def trB (sc : Scope) (cl : Bool) (hx : Option (Nat × Nat)) : E → Expr → Bool
  | .var i, e => match e with
    | .Name x _ => atB N i x && visB sc x && nameB x && !(hx.any fun p => decide (p.1 = i))
    | _ => false
  | .cst v, e => constB T sc v e
  | .tup es, e => match e with
    | .Tuple fs _ _ => trsB sc cl hx es fs && decide (fs.length ≤ 1000)
    | _ => false
  | .lst es, e => match e with
    | .List fs _ => trsB sc cl hx es fs && decide (fs.length ≤ 1000)
    | _ => false
  | .bin o a c, e => match e with
    | .BinOp x p y _ => opB o p && trB sc cl hx a x && trB sc cl hx c y
    | _ => false
  | .neg a, e => match e with
    | .UnaryOp .USub x _ => trB sc cl hx a x
    | _ => false
  | .not a, e => match e with
    | .UnaryOp .Not x _ => trB sc cl hx a x
    | _ => false
  | .and a c, e => match e with
    | .BoolOp .And [x, y] _ => trB sc cl hx a x && trB sc cl hx c y
    | .BoolOp .And (x :: y :: z :: r) p => trB sc cl hx a x && trB sc cl hx c (.BoolOp .And (y :: z :: r) p)
    | _ => false
  | .or a c, e => match e with
    | .BoolOp .Or [x, y] _ => trB sc cl hx a x && trB sc cl hx c y
    | .BoolOp .Or (x :: y :: z :: r) p => trB sc cl hx a x && trB sc cl hx c (.BoolOp .Or (y :: z :: r) p)
    | _ => false
  | .cmp o a c, e => match e with
    | .Compare x [p] [y] _ => cmB o p && trB sc cl hx a x && trB sc cl hx c y && !behindInMarks p y
    | _ => false
  | .chain o o' a c d, e => match e with
    | .Compare x [p, p'] [y, z] _ => cmB o p && cmB o' p' && trB sc cl hx a x && trB sc cl hx c y && trB sc cl hx d z && !lastMarks [p, p'] [y, z]
    | _ => false
  | .ife c a d, e => match e with
    | .IfExp z x y _ => trB sc cl hx c z && trB sc cl hx a x && trB sc cl hx d y
    | _ => false
  | .ix a c, e => match e with
    | .Subscript x y _ => trB sc cl hx a x && trB sc cl hx c y && !isSlice y
    | _ => false
  | .slc a lo hi, e => match e with
    | .Subscript x (.Slice l h none _) _ => trB sc cl hx a x && troB sc cl hx lo l && troB sc cl hx hi h
    | _ => false
  | .call f es, e => match e with
    | .Call (.Name x _) (g :: gs) [] _ => cl && gloB sc x && decide (T.fns[f]? = some (some x)) && trsB sc cl hx es (g :: gs)
    | _ => false
  | .bi f es, e => match e with
    | .Call (.Name x _) (g :: gs) [] _ => cl && gloB sc x && decide (biName f = x) && T.bi.contains x && trsB sc cl hx es (g :: gs)
    | _ => false
  | .isi a t, e => match e with
    | .Call (.Name x _) [y, .Name z _] [] _ => gloB sc x && gloB sc z && decide (x = "isinstance") && decide (z = tyName t) && T.bi.contains x && T.bi.contains z && trB sc cl hx a y
    | _ => false
  | .eat i j, e => match e with
    | .Attribute (.Name x _) f _ => match hx with
      | some (k, c) => decide (k = i) && atB N i x && visB sc x && nameB x && decide ((T.cls[c]?.bind fun p => p.2.1[j]?) = some f)
      | none => false
    | _ => false
  | .eisi i, e => match e with
    | .Call (.Name x _) [.Name y _, .Name z _] [] _ => match hx with
      | some (k, c) => decide (k = i) && atB N i y && visB sc y && nameB y && gloB sc x && decide (x = "isinstance") && T.bi.contains x && gloB sc z && ((T.cls[c]?).any fun p => p.2.2.contains z)
      | none => false
    | _ => false
  | .lc t own it c e', e => match e with
    | .ListComp elt [⟨tg, iter, ifs, 0⟩] scope _ => cl && hx.isNone && blkC N sc scope (own.map fun i => ((N[i]?).getD Str.empty, i)) && tgB N true (relS scope sc) t tg && ((Tg.slots t).all fun i => decide (i ∈ own)) && tiB sc it tg iter
        && (match ifs with
          | [] => match c with
            | .none => true
            | .some _ => false
          | [z] => troB (relS scope sc) cl none c (some z) && (match c with
            | .none => false
            | .some _ => true)
          | _ => false) && trB (relS scope sc) cl none e' elt
    | _ => false
  | .new e', e => trB sc cl hx e' e && e'.fresh && notStar e
  | .frz e', e => trB sc cl hx e' e && notStar e && notLc e
  | .att e' ps, e => match e with
    | .Attribute x f _ => trB sc cl hx e' x && notCall0 x && ps.all fun q => decide ((T.rcs[q.1]?.bind fun p => p.2[q.2]?) = some f)
    | _ => false
  | .meth f cs e' es, e => false && match e with
    | .Call (.Attribute x m _) (g :: gs) [] _ => cl && trB sc cl hx e' x && trsB sc cl hx es (g :: gs) && methB x && cs.all fun c => T.meths.contains (c, m, f)
    | .Call (.Attribute x m _) [] [] _ => cl && trB sc cl hx e' x && trsB sc cl hx es [] && methB x && cs.all fun c => T.meths.contains (c, m, f)
    | _ => false
  | .mk f c fr es, e => false && match e with
    | .Call (.Name x _) (g :: gs) [] _ => cl && gloB sc x && decide ((T.rcs[c]?.map (·.1)) = some x) && T.inits.contains (c, f) && trsB sc cl hx es (g :: gs)
    | _ => false
  | .isr e' c, e => false && match e with
    | .Call (.Name x _) [y, .Name z _] [] _ => gloB sc x && gloB sc z && decide (x = "isinstance") && decide ((T.rcs[c]?.map (·.1)) = some z) && T.bi.contains x && trB sc cl hx e' y
    | _ => false
  | .dnew t, e => false && match e with
    | .Dict [] [] _ => true
    | _ => false
  | .dget d k z, e => false && match e with
    | .Call (.Attribute x m ap) [y, w] [] cp => decide (m = "get") && (ap.endLine == cp.line) && notCall0 x && trB sc cl hx d x && trB sc cl hx k y && trB sc cl hx z w
    | _ => false
  | .sdef d k z, e => false && match e with
    | .Call (.Attribute x m ap) [y, w] [] cp => decide (m = "setdefault") && (ap.endLine == cp.line) && notCall0 x && trB sc cl hx d x && trB sc cl hx k y && trB sc cl hx z w
    | _ => false
  | .disp _ _, _ => false
  | .fstr es, e => match e with
    | .JoinedStr (f :: g :: fs) _ => trfB sc cl hx es (f :: g :: fs)
    | _ => false
  | .maxD _ _, _ => false
def trsB (sc : Scope) (cl : Bool) (hx : Option (Nat × Nat)) : Es → List Expr → Bool
  | .nil, es => es.isEmpty
  | .cons e es, fs => match fs with
    | f :: fs => trB sc cl hx e f && trsB sc cl hx es fs
    | [] => false
def trfB (sc : Scope) (cl : Bool) (hx : Option (Nat × Nat)) : Es → List Expr → Bool
  | .nil, es => es.isEmpty
  | .cons e es, fs => match fs with
    | g :: fs => (match g with
      | .Constant (.str x) _ _ => trB sc cl hx e g && (match e with
        | .cst (.str y) => decide (x = y)
        | _ => false)
      | .FormattedValue v (-1) none _ => trB sc cl hx e v
      | _ => false) && trfB sc cl hx es fs
    | [] => false
def troB (sc : Scope) (cl : Bool) (hx : Option (Nat × Nat)) : Eo → Option Expr → Bool
  | .none, o => o.isNone
  | .some e, o => match o with
    | some f => trB sc cl hx e f
    | none => false
/-- what a for walks, tg its target -/
def tiB (sc : Scope) : It → Expr → Expr → Bool
  | .seq e, _, f => trB sc true none e f
  | .rng1 e, _, f => match f with
    | .Call (.Name x _) [g] [] _ => gloB sc x && decide (x = "range") && T.bi.contains x && trB sc true none e g
    | _ => false
  | .rng2 a c, _, f => match f with
    | .Call (.Name x _) [g, h] [] _ => gloB sc x && decide (x = "range") && T.bi.contains x && trB sc true none a g && trB sc true none c h
    | _ => false
  | .zip a c, t, f => match t, f with
    | .Tuple _ _ _, .Call (.Name x _) [g, h] [] _ => gloB sc x && decide (x = "zip") && T.bi.contains x && trB sc true none a g && trB sc true none c h
    | _, _ => false
  | .rng3 a c, _, f => match f with
    | .Call (.Name x _) [g, h, .UnaryOp .USub (.Constant (.int 1) _ _) _] [] _ => gloB sc x && decide (x = "range") && T.bi.contains x && trB sc true none a g && trB sc true none c h
    | _ => false
  | .enum a, t, f => match t, f with
    | .Tuple _ _ _, .Call (.Name x _) [g] [] _ => gloB sc x && decide (x = "enumerate") && T.bi.contains x && trB sc true none a g
    | _, _ => false
end
end
end MP
end
section
set_option Elab.async false
set_option linter.all false
set_option maxRecDepth 100000
set_option maxHeartbeats 1000000
/-! MPSound6: an expression's run in the model. -/
namespace MP
open PySem PySem.Spec PyProof.Rows L2
variable [RT]
/-- a def's promise: it runs as C says -/
def spC (K : PySem.W.Frag) (T : Exc) (r : List PV → Sto → R PV) : Sp := fun vs H Q E => ∃ ρ S args, StOk K S.cells.length ρ S H ∧ RelPs K ρ H args vs ∧ At K T S.cells.length E (relE K) ρ S H (r args S) Q
/-- what the text's top leaves of an exception class -/
structure ExcK (K : PySem.W.Frag) (mg : Str → Option Value) (A : Addr) (n : Str) (fs : List Str) : Prop where
  gl : mg n = some (.ref A)
  kp : PySem.W.keepIn K (.ref A) = true
  sb : PySem.W.subIn K (.ref A) (.type "BaseException") = some true
  ty : PySem.W.typeIn K (.ref A) = some (.type "type")
  no : fs = [] → PySem.W.excIn K A [.type "ValueError", .type "Exception", .type "BaseException", .type "object"] "ValueError.__new__" = true
/-- the promise of an exception's own __init__: it stores its arguments, each under its name -/
def spX (C : Addr) (fs : List Str) : Sp := fun vs H Q _ => ∃ a ws, vs = .ref a :: ws ∧ ws.length = fs.length ∧ H a = some (exo a C none) ∧ ∀ dx, H dx = none → dx ≠ a → Q .non (upd (upd H dx (exd dx (fs.zip ws).reverse)) a (exo a C (some dx)))
/-- what the text's top leaves of a class of records -/
structure RcK (K : PySem.W.Frag) (mg : Str → Option Value) (c : Nat) (p : Str × List Str) : Prop where
  gl : mg p.1 = some (.ref (RT.rc c))
  fs : RT.rf c = p.2
  nd : p.2.Nodup
  few : p.2.length < 900
  cl : Cls K (RT.rc c)
  no : ∀ f ∈ p.2, NoAttr K (RT.rc c) f
  ha : PySem.W.findIn K (.ref (RT.rc c)) "__class__" = some (some (.builtin "object.__class__"))
  hn : PySem.W.specialIn K (.builtin "object.__class__") "__get__" = some (some (.builtin "getset_descriptor.__get__"))
  htk : PySem.W.takesIn K (.builtin "object.__class__") = some true
  hm : PySem.W.mroIn K (RT.rc c) (.type "object") = some true
/-- where an expression stands -/
structure Ctx (T : Tab) (TX : Exc) (C : Nat → List PV → Sto → R PV) (X : Cx) (W : WX) (N : List Str) (sc : Scope) (cl : Bool) (ex : Option Held) : Prop where
  scope : X.env.scope = sc
  names : X.N = N
  nd : N.Nodup
  takes : Takes X W
  calm : cl = true → X.calm = true
  unit : X.A.units + 65 < cLine
  free : ∀ x, T.bi.contains x = true → (x = "gcd" → X.mg x = some (.builtin "math.gcd")) ∧ (x ≠ "gcd" → X.mg x = none)
  glb : ∀ p ∈ T.glb, ∃ w u, X.mg p.1 = some u ∧ RelV w u ∧ ∀ ρ H, RelP X.K ρ H p.2 w
  wide : WideX X
  rcs : ∀ (c : Nat) (p : Str × List Str), T.rcs[c]? = some p → RcK X.K X.mg c p
  kit : ∀ (c d : Nat), c < T.rcs.length → d < T.rcs.length → PySem.W.kitOne X.K (.ref (RT.rc d)) (.ref (RT.rc c)) = some (decide (d = c))
  inits : cl = true → ∀ (c f : Nat), T.inits.contains (c, f) = true → ∃ fa fd ps k, Mk X.K (RT.rc c) fa ∧ Binds X.K fd ps [] ∧
    FnOk X.prog X.w X.K X.mg X.base (L2.CX X.prog X.w) k fa fd ps (spC X.K TX (C f)) ∧ Room (k + 1) X.A
  meths : cl = true → ∀ (c : Nat) (m : Str) (f : Nat), T.meths.contains (c, m, f) = true → ∃ fa fd ps k p, T.rcs[c]? = some p ∧ m ∉ p.2 ∧ Meth X.K (RT.rc c) m fa ∧ Binds X.K fd ps [] ∧
    FnOk X.prog X.w X.K X.mg X.base (L2.CX X.prog X.w) k fa fd ps (spC X.K TX (C f)) ∧ Room k X.A
  xin : cl = true → ∀ (c : Nat) (p : Str × List Str × List Str), T.cls[c]? = some p → p.2.1 ≠ [] → ∃ fI fd k, OexC X.K (TX.at_ c) ∧ PySem.W.findIn X.K (.ref (TX.at_ c)) "__init__" = some (some (.ref fI)) ∧ PySem.W.typeIn X.K (.ref fI) = some (.type "function") ∧
    Binds X.K fd ("self" :: p.2.1) [] ∧ FnOk X.prog X.w X.K X.mg X.base (L2.CX X.prog X.w) k fI fd ("self" :: p.2.1) (spX (TX.at_ c) p.2.1) ∧ Room (k + 1) X.A
  fns : cl = true → ∀ (f : Nat) (x : Str), T.fns[f]? = some (some x) → ∃ fa fd ps k, X.mg x = some (.ref fa) ∧ PySem.W.keepIn X.K (.ref fa) = true ∧ Binds X.K fd ps [] ∧
    FnOk X.prog X.w X.K X.mg X.base (L2.CX X.prog X.w) k fa fd ps (spC X.K TX (C f)) ∧ Room k X.A
  num : TX.n = T.cls.length
  exc : ∀ (c : Nat) (p : Str × List Str × List Str), T.cls[c]? = some p → ExcK X.K X.mg (TX.at_ c) p.1 p.2.1
  exm : ∀ c d, c < TX.n → d < TX.n → PySem.W.exmOne X.K (.ref (TX.at_ d)) (.ref (TX.at_ c)) = some (decide (d = c))
  attrs : ∀ (c : Nat) (p : Str × List Str × List Str), T.cls[c]? = some p → TX.attrs c = p.2.1
  held : ∀ x, ex = some x → ∃ oe pn, X.calm = false ∧ (∃ Y : Cx, X = Y.suite x.a ((x.a, oe) :: pn)) ∧ Zc x.cls x.d oe ∧ (∃ vs, oe.data = .fields vs) ∧
    (∀ p : Str × List Str × List Str, T.cls[x.c]? = some p →
      (∀ f ∈ p.2.1, PySem.W.findIn X.K (.ref (TX.at_ x.c)) "__getattribute__" = some (some (.builtin "BaseException.__getattribute__")) ∧ PySem.W.findIn X.K (.ref (TX.at_ x.c)) "__getattr__" = some none ∧
        PySem.W.subIn X.K (.ref (TX.at_ x.c)) (.type "BaseException") = some true ∧ PySem.W.hasDictIn X.K (TX.at_ x.c) = true ∧ PySem.W.findIn X.K (.ref (TX.at_ x.c)) f = some none) ∧
      (ExcC X.K (TX.at_ x.c) ∧ ∀ z, p.2.2.contains z = true → ∃ (c : V) (cv : Value), ((X.mg z = some cv) ∨ (X.mg z = none ∧ bootBuiltins z = some cv ∧ z ≠ "__name__")) ∧ RelV c cv ∧ (∀ u, RelV c u → u = cv) ∧ PySem.W.kitOne X.K (.ref (TX.at_ x.c)) cv = some true))
def hxOf (ex : Option Held) : Option (Nat × Nat) := ex.map fun x => (x.i, x.c)
theorem kindB_ok {sc : Scope} {x : Str} {k : NameKind} (h : kindB sc x k = true) : sc.names.lookup x = some k := of_decide_eq_true h
theorem visB_ok {sc : Scope} {x : Str} (h : visB sc x = true) : Vis sc x := by
  unfold visB at h
  rw [Bool.or_eq_true, Bool.or_eq_true] at h
  rcases h with (h | h) | h
  · exact .inl (kindB_ok h)
  · exact .inr (.inl (kindB_ok h))
  · exact .inr (.inr (kindB_ok h))
theorem locB_ok {sc : Scope} {x : Str} (h : locB sc x = true) : Loc sc x := by
  unfold locB at h
  rw [Bool.or_eq_true] at h
  exact h.imp kindB_ok kindB_ok
theorem nameB_ok {x : Str} (h : nameB x = true) : (x == ("__debug__" : Str)) = false ∧ (x == ("__classdict__" : Str)) = false ∧ x ≠ "__name__" := by
  unfold nameB at h
  simp only [Bool.and_eq_true, Bool.not_eq_true'] at h
  exact ⟨h.1.1, h.1.2, fun e => by rw [e] at h; simp at h⟩
theorem atB_ok {N : List Str} {i : Nat} {x : Str} (h : atB N i x = true) : N[i]? = some x := of_decide_eq_true h
section
variable {T : Tab} {TX : Exc} {C : Nat → List PV → Sto → R PV} {X : Cx} {W : WX} {N : List Str} {sc : Scope} {cl : Bool} {ex : Option Held} {b : Nat}
theorem Ctx.gl (c : Ctx T TX C X W N sc cl ex) {x : Str} (h : gloB sc x = true) : Gl X x ∧ (x == ("__debug__" : Str)) = false ∧ (x == ("__classdict__" : Str)) = false ∧ x ≠ "__name__" := by
  have h' := Bool.and_eq_true_iff.mp h
  refine ⟨?_, nameB_ok h'.2⟩
  show X.env.scope.names.lookup x = _
  rw [c.scope]
  exact kindB_ok h'.1
/-- an expression's reading -/
abbrev tE (K : PySem.W.Frag) (TX : Exc) (b : Nat) (ex : Option Held) (W : WX) (r : Env → Sto → R PV) : TE := tG K TX b ex W (relE K) r
abbrev tTs (K : PySem.W.Frag) (TX : Exc) (b : Nat) (ex : Option Held) (W : WX) (r : Env → Sto → R Bool) : TT := tG K TX b ex W relT r
abbrev tAs (K : PySem.W.Frag) (TX : Exc) (b : Nat) (ex : Option Held) (W : WX) (r : Env → Sto → R (List PV)) : TA := tG K TX b ex W (relA K) r
abbrev tOs (K : PySem.W.Frag) (TX : Exc) (b : Nat) (ex : Option Held) (W : WX) (r : Env → Sto → R (Option Int)) : TO := tG K TX b ex W relO r
/-! ### forms that hold of every row that is looked at -/
theorem star_of {sc : Scope} {cl : Bool} {hx : Option (Nat × Nat)} {e : E} {f : Expr} (h : trB T N sc cl hx e f = true) (es : List Expr) (env : PySem.Env) : starEach (f :: es) env = (false, eval f env) :: starEach es env := by
  cases f with
  | Starred v p => cases e <;> simp [trB, constB, notStar] at h
  | _ => rfl
theorem stars_of {sc : Scope} {cl : Bool} {hx : Option (Nat × Nat)} : ∀ {es : Es} {fs : List Expr}, trsB T N sc cl hx es fs = true → ∀ (pos : Pos) (env : PySem.Env), (backTo pos (starEach fs env)).any (·.1) = false
  | .nil, [], _, _, _ => rfl
  | .nil, _ :: _, h, _, _ => by simp [trsB] at h
  | .cons _ _, [], h, _, _ => by simp [trsB] at h
  | .cons e es, f :: fs, h, pos, env => by
    have h' := Bool.and_eq_true_iff.mp (by simpa [trsB] using h)
    rw [star_of h'.1]
    have ih := stars_of h'.2 pos env
    show ((false, _) :: backTo pos (starEach fs env)).any (·.1) = false
    rw [List.any_cons, ih]
    rfl
theorem slice_of {f : Expr} (h : isSlice f = false) : PlainIx f := by
  cases f with
  | Slice _ _ _ _ => cases h
  | _ => intro _ _; rfl
end
end MP
end
section
set_option Elab.async false
set_option linter.all false
set_option maxRecDepth 100000
set_option maxHeartbeats 1000000
/-! MPSound7: each form of an expression. -/
namespace MP
open PySem PySem.Spec PyProof.Rows L2
section
variable [RT] {T : Tab} {TX : Exc} {C : Nat → List PV → Sto → R PV} {X : Cx} {W : WX} {N : List Str} {sc : Scope} {cl : Bool} {ex : Option Held} {b : Nat}
variable {x y z : Expr} {a c d : E} {pos : Pos}
theorem bd_assoc {α β γ δ : Type} {K : PySem.W.Frag} {E : XK} {rel : List Addr → Hp → γ → δ → Prop} {ρ : List Addr} {S : Sto} {H : Hp} {r : R α} {f : α → Sto → R β} {g : β → Sto → R γ} {Q : δ → Hp → Prop} (h : At K TX b E rel ρ S H ((r.bd f).bd g) Q) : At K TX b E rel ρ S H (r.bd fun v S1 => (f v S1).bd g) Q := by
  cases r <;> exact h
theorem opt_bd {α γ δ : Type} {K : PySem.W.Frag} {E : XK} {rel : List Addr → Hp → γ → δ → Prop} {ρ : List Addr} {S S1 : Sto} {H : Hp} {o : Option α} {f : α → Sto → R γ} {Q : δ → Hp → Prop} (h : At K TX b E rel ρ S H ((MP.opt o S1).bd f) Q) : ∃ v, o = some v ∧ At K TX b E rel ρ S H (f v S1) Q := by
  cases o with
  | none => exact h.elim
  | some v => exact ⟨v, rfl, h⟩
theorem s_var (cx : Ctx T TX C X W N sc cl ex) {i : Nat} {n : Str} (h1 : atB N i n = true) (h2 : visB sc n = true) (h3 : nameB n = true) (h4 : ∀ p, hxOf ex = some p → p.1 ≠ i) : PE X (.Name n pos) (tE X.K TX b ex W (ev C b (.var i))) := by
  obtain ⟨n1, n2, _⟩ := nameB_ok h3
  refine PE.weak (pe_var (i := i) (by rw [cx.names]; exact atB_ok h1) (by rw [cx.scope]; exact visB_ok h2) n1 n2) fun τ H Q ⟨ρ, σ, S, so, eo, h⟩ => ?_
  rw [ev] at h
  split at h
  · rename_i v e
    obtain ⟨w, e1, r⟩ := eo.val i v e fun q hq => h4 (q.i, q.c) (by rw [hq]; rfl)
    exact ⟨w, e1, At.ok so h r⟩
  · exact h.elim
theorem s_const (cx : Ctx T TX C X W N sc cl ex) {v : PV} (h : constB T sc v x = true) : PE X x (tE X.K TX b ex W (ev C b (.cst v))) := by
  have fin : ∀ {τ : L2.St} {H : Hp} {Q : VK} {w : V}, (∀ ρ, RelP X.K ρ H v w) → tE X.K TX b ex W (ev C b (.cst v)) τ H Q → Q w H := fun {τ H Q w} r ⟨ρ, σ, S, so, eo, h⟩ => At.ok so h (r ρ)
  unfold constB at h
  split at h
  · have e := of_decide_eq_true h
    exact PE.weak pe_int fun τ H Q q => fin (fun ρ => by rw [e]; exact .int _) q
  · have e := of_decide_eq_true h
    exact PE.weak pe_str fun τ H Q q => fin (fun ρ => by rw [e]; exact .str _) q
  · have e := of_decide_eq_true h
    exact PE.weak pe_bl fun τ H Q q => fin (fun ρ => by rw [e]; exact .bl _) q
  · have e := of_decide_eq_true h
    exact PE.weak pe_non fun τ H Q q => fin (fun ρ => by rw [e]; exact .non) q
  · have h' := Bool.and_eq_true_iff.mp h
    obtain ⟨g1, g2, _, g4⟩ := cx.gl h'.1
    obtain ⟨p, hp, e⟩ := List.any_eq_true.mp h'.2
    have e := of_decide_eq_true e
    obtain ⟨w, u, m, r, q⟩ := cx.glb p hp
    subst e
    exact PE.weak (pe_glob g1 m r g2) fun τ H Q z => fin (fun ρ => q ρ H) z
  · cases h
theorem s_tup {fs : List Expr} {es : Es} {k : Nat} (h : PA X fs (tAs X.K TX b ex W (evs C b es))) (hn : ∀ σ S vs S', evs C b es σ S = .ok vs S' → vs.length ≤ 1000) : PE X (.Tuple fs k pos) (tE X.K TX b ex W (ev C b (.tup es))) := by
  refine PE.weak (pe_tup h) fun τ H Q ⟨ρ, σ, S, so, eo, q⟩ => ?_
  rw [ev] at q
  refine ⟨ρ, σ, S, so, eo, At.mono (At.bd (rel := relA X.K) q) fun ws H1 ⟨ρ1, vs, S1, e1, g1, so1, r1, h1⟩ => ?_⟩
  refine ⟨by rw [line_eq, ← RelPs.length r1]; exact Nat.le_trans (hn _ _ _ _ e1) (by decide), fun p hp => ?_⟩
  exact h1 ρ1 _ _ (.alloc hp) (so1.alloc hp) (.tup (SqT.of upd_same) (RelPs.mono (.new hp) (List.prefix_refl _) r1))
theorem n_lst {fs : List Expr} {es : Es} (h : PA X fs (tAs X.K TX b ex W (evs C b es))) (hn : ∀ σ S vs S', evs C b es σ S = .ok vs S' → vs.length ≤ 1000) : PE X (.List fs pos) (tE X.K TX b ex W (ev C b (.new (.lst es)))) := by
  refine PE.weak (pe_lst h) fun τ H Q ⟨ρ, σ, S, so, eo, q⟩ => ?_
  rw [ev, ev] at q
  have q := bd_assoc q
  refine ⟨ρ, σ, S, so, eo, At.mono (At.bd (rel := relA X.K) q) fun ws H1 ⟨ρ1, vs, S1, e1, g1, so1, r1, h1⟩ => ?_⟩
  refine ⟨by rw [line_eq, ← RelPs.length r1]; exact Nat.le_trans (hn _ _ _ _ e1) (by decide), fun p hp => ?_⟩
  exact h1 (ρ1 ++ [p]) _ _ (.push so1.base hp) (so1.push hp r1) (.ref so1.new)
theorem s_lst {fs : List Expr} {es : Es} (h : PA X fs (tAs X.K TX b ex W (evs C b es))) (hn : ∀ σ S vs S', evs C b es σ S = .ok vs S' → vs.length ≤ 1000) : PE X (.List fs pos) (tE X.K TX b ex W (ev C b (.lst es))) := by
  refine PE.weak (PE.lock (pe_lst h)) fun τ H Q ⟨ρ, σ, S, so, eo, q⟩ => ?_
  rw [ev] at q
  refine ⟨ρ, σ, S, so, eo, At.mono (At.bd (rel := relA X.K) q) fun ws H1 ⟨ρ1, vs, S1, e1, g1, so1, r1, h1⟩ => ?_⟩
  refine ⟨by rw [line_eq, ← RelPs.length r1]; exact Nat.le_trans (hn _ _ _ _ e1) (by decide), fun p hp => ?_⟩
  exact lock_new so1 hp r1 fun H' w g s r => h1 ρ1 H' w g s r
/-- a new list, made to be changed -/
theorem thaw_ok {E : XK} {ρ : List Addr} {S : Sto} {H : Hp} {z : PV} {Q : VK} (so : StOk X.K b ρ S H) (h : At X.K TX b E (relE X.K) ρ S H (MP.thaw z S) Q) : ResV X.K b ρ S H z Q := by
  cases z with
  | lst xs => exact ResV.thaw so fun p vs hp r => h (ρ ++ [p]) _ _ (.push so.base hp) (so.push hp r) (.ref so.new)
  | _ => exact h.elim
theorem n_bin {o : Op} (cx : Ctx T TX C X W N sc cl ex) (ha : PE X x (tE X.K TX b ex W (ev C b a))) (hb : PE X y (tE X.K TX b ex W (ev C b c))) : PE X (.BinOp x (opOf o) y pos) (tE X.K TX b ex W (ev C b (.new (.bin o a c)))) := by
  refine PE.weak (pe_op (binOp_ok (b := b) cx.wide o) ha hb) fun τ H Q ⟨ρ, σ, S, so, eo, h⟩ => ?_
  rw [ev, ev] at h
  have h := bd_assoc h
  refine ⟨ρ, σ, S, so, eo, At.mono (At.bd (rel := relE X.K) h) fun w H1 ⟨ρ1, v, S1, _, g1, so1, r1, h1⟩ => ?_⟩
  have h1 := bd_assoc h1
  refine ⟨ρ1, σ, S1, so1, eo.grow g1, At.mono (At.bd (rel := relE X.K) h1) fun w2 H2 ⟨ρ2, u, S2, _, g2, so2, r2, h2⟩ => ?_⟩
  obtain ⟨z, e, h3⟩ := opt_bd h2
  exact ⟨ρ2, S2, v, u, z, so2, RelP.mono g2.keep g2.pre r1, r2, e, thaw_ok so2 h3⟩
theorem s_bin {o : Op} (cx : Ctx T TX C X W N sc cl ex) (ha : PE X x (tE X.K TX b ex W (ev C b a))) (hb : PE X y (tE X.K TX b ex W (ev C b c))) : PE X (.BinOp x (opOf o) y pos) (tE X.K TX b ex W (ev C b (.bin o a c))) := by
  refine PE.weak (PE.lock (pe_op (binOp_ok (b := b) cx.wide o) ha hb)) fun τ H Q ⟨ρ, σ, S, so, eo, h⟩ => ?_
  rw [ev] at h
  refine ⟨ρ, σ, S, so, eo, At.mono (At.bd (rel := relE X.K) h) fun w H1 ⟨ρ1, v, S1, _, g1, so1, r1, h1⟩ => ?_⟩
  refine ⟨ρ1, σ, S1, so1, eo.grow g1, At.mono (At.bd (rel := relE X.K) h1) fun w2 H2 ⟨ρ2, u, S2, _, g2, so2, r2, h2⟩ => ?_⟩
  obtain ⟨z, e, h3⟩ := At.opt h2
  exact ⟨ρ2, S2, v, u, z, so2, RelP.mono g2.keep g2.pre r1, r2, e, ResV.of so2 fun H' w g s r => h3 ρ2 H' w g s r⟩
theorem s_neg (ha : PE X x (tE X.K TX b ex W (ev C b a))) : PE X (.UnaryOp .USub x pos) (tE X.K TX b ex W (ev C b (.neg a))) := by
  refine PE.weak (pe_un un_neg ha) fun τ H Q ⟨ρ, σ, S, so, eo, h⟩ => ?_
  rw [ev] at h
  refine ⟨ρ, σ, S, so, eo, At.mono (At.bd (rel := relE X.K) h) fun w H1 ⟨ρ1, v, S1, _, g1, so1, r1, h1⟩ => ?_⟩
  split at h1
  · exact ⟨_, RelP.of_int r1, At.ok so1 h1 (.int _)⟩
  · exact h1.elim
theorem s_not (ha : PE X x (tE X.K TX b ex W (ev C b a))) : PE X (.UnaryOp .Not x pos) (tE X.K TX b ex W (ev C b (.not a))) := by
  refine PE.weak (pe_notT ha) fun τ H Q ⟨ρ, σ, S, so, eo, h⟩ => ?_
  rw [ev] at h
  refine ⟨ρ, σ, S, so, eo, At.mono (At.bd (rel := relE X.K) h) fun w H1 ⟨ρ1, v, S1, _, g1, so1, r1, h1⟩ => ?_⟩
  obtain ⟨k, e, h2⟩ := opt_bd h1
  exact ⟨k, tru_of so1 r1 e, At.ok (rel := relE X.K) so1 h2 (.bl _)⟩
theorem s_and {rest : List Expr} (ha : PE X x (tE X.K TX b ex W (ev C b a))) (hb : PE X (.BoolOp .And (y :: rest) pos) (tE X.K TX b ex W (ev C b c))) : PE X (.BoolOp .And (x :: y :: rest) pos) (tE X.K TX b ex W (ev C b (.and a c))) := by
  refine PE.weak (pe_and ha hb) fun τ H Q ⟨ρ, σ, S, so, eo, h⟩ => ?_
  rw [ev] at h
  refine ⟨ρ, σ, S, so, eo, At.mono (At.bd (rel := relE X.K) h) fun w H1 ⟨ρ1, v, S1, _, g1, so1, r1, h1⟩ => ?_⟩
  split at h1
  · exact ⟨true, RelP.of_bl r1, iteT ⟨ρ1, σ, S1, so1, eo.grow g1, h1⟩⟩
  · exact ⟨false, RelP.of_bl r1, iteF (At.ok so1 h1 (.bl _))⟩
  · exact h1.elim
theorem s_or {rest : List Expr} (ha : PE X x (tE X.K TX b ex W (ev C b a))) (hb : PE X (.BoolOp .Or (y :: rest) pos) (tE X.K TX b ex W (ev C b c))) : PE X (.BoolOp .Or (x :: y :: rest) pos) (tE X.K TX b ex W (ev C b (.or a c))) := by
  refine PE.weak (pe_or ha hb) fun τ H Q ⟨ρ, σ, S, so, eo, h⟩ => ?_
  rw [ev] at h
  refine ⟨ρ, σ, S, so, eo, At.mono (At.bd (rel := relE X.K) h) fun w H1 ⟨ρ1, v, S1, _, g1, so1, r1, h1⟩ => ?_⟩
  split at h1
  · exact ⟨true, RelP.of_bl r1, iteT (At.ok so1 h1 (.bl _))⟩
  · exact ⟨false, RelP.of_bl r1, iteF ⟨ρ1, σ, S1, so1, eo.grow g1, h1⟩⟩
  · exact h1.elim
theorem s_cmp {o : Cm} (cx : Ctx T TX C X W N sc cl ex) (ha : PE X x (tE X.K TX b ex W (ev C b a))) (hb : PE X y (tE X.K TX b ex W (ev C b c))) (hm : behindInMarks (cmOf o) y = false) : PE X (.Compare x [cmOf o] [y] pos) (tE X.K TX b ex W (ev C b (.cmp o a c))) := by
  refine PE.weak (pe_cmpR (cmOp_ok (b := b) o cx.unit) ha hb hm) fun τ H Q ⟨ρ, σ, S, so, eo, h⟩ => ?_
  rw [ev] at h
  refine ⟨ρ, σ, S, so, eo, At.mono (At.bd (rel := relE X.K) h) fun w H1 ⟨ρ1, v, S1, _, g1, so1, r1, h1⟩ => ?_⟩
  refine ⟨ρ1, σ, S1, so1, eo.grow g1, At.mono (At.bd (rel := relE X.K) h1) fun w2 H2 ⟨ρ2, u, S2, _, g2, so2, r2, h2⟩ => ?_⟩
  cases e : cmV S2 o v u with
  | none => rw [e] at h2; exact h2.elim
  | some k =>
    rw [e] at h2
    exact ⟨ρ2, S2, v, u, k, so2, RelP.mono g2.keep g2.pre r1, r2, e, At.ok (rel := relE X.K) so2 h2 (.bl k)⟩
theorem s_chain {o o' : Cm} (cx : Ctx T TX C X W N sc cl ex) (ha : PE X x (tE X.K TX b ex W (ev C b a))) (hb : PE X y (tE X.K TX b ex W (ev C b c))) (hd : PE X z (tE X.K TX b ex W (ev C b d))) (hm : lastMarks [cmOf o, cmOf o'] [y, z] = false) :
    PE X (.Compare x [cmOf o, cmOf o'] [y, z] pos) (tE X.K TX b ex W (ev C b (.chain o o' a c d))) := by
  refine PE.weak (pe_chain (cmOp_ok (b := b) o cx.unit) (cmOp_ok (b := b) o' cx.unit) ha hb hd hm) fun τ H Q ⟨ρ, σ, S, so, eo, h⟩ => ?_
  rw [ev] at h
  refine ⟨ρ, σ, S, so, eo, At.mono (At.bd (rel := relE X.K) h) fun w H1 ⟨ρ1, v, S1, _, g1, so1, r1, h1⟩ => ?_⟩
  refine ⟨ρ1, σ, S1, so1, eo.grow g1, At.mono (At.bd (rel := relE X.K) h1) fun w2 H2 ⟨ρ2, u, S2, _, g2, so2, r2, h2⟩ => ?_⟩
  have eo2 := (eo.grow g1).grow g2
  cases e : cmV S2 o v u with
  | none => rw [e] at h2; exact h2.elim
  | some k =>
    rw [e] at h2
    refine ⟨ρ2, S2, v, u, k, so2, RelP.mono g2.keep g2.pre r1, r2, e, k, rfl, ?_⟩
    cases k with
    | false => exact iteF (At.ok (rel := relE X.K) so2 h2 (.bl false))
    | true =>
      refine iteT ⟨ρ2, σ, S2, so2, eo2, At.mono (At.bd (rel := relE X.K) h2) fun w3 H3 ⟨ρ3, t, S3, _, g3, so3, r3, h3⟩ => ?_⟩
      cases e2 : cmV S3 o' u t with
      | none => rw [e2] at h3; exact h3.elim
      | some k2 =>
        rw [e2] at h3
        exact ⟨ρ3, S3, u, t, k2, so3, RelP.mono g3.keep g3.pre r2, r3, e2, At.ok (rel := relE X.K) so3 h3 (.bl k2)⟩
theorem s_ife (hc : PT X z (tTs X.K TX b ex W (evT C b d))) (ha : PE X x (tE X.K TX b ex W (ev C b a))) (hb : PE X y (tE X.K TX b ex W (ev C b c))) : PE X (.IfExp z x y pos) (tE X.K TX b ex W (ev C b (.ife d a c))) := by
  refine PE.weak (pe_ifExp hc ha hb) fun τ H Q ⟨ρ, σ, S, so, eo, h⟩ => ?_
  rw [ev] at h
  refine ⟨ρ, σ, S, so, eo, At.mono (At.bd (rel := relT) h) fun w H1 ⟨ρ1, v, S1, _, g1, so1, r1, h1⟩ => ?_⟩
  obtain rfl : v = w := r1
  cases v with
  | true => exact iteT ⟨ρ1, σ, S1, so1, eo.grow g1, h1⟩
  | false => exact iteF ⟨ρ1, σ, S1, so1, eo.grow g1, h1⟩
theorem s_ix (cx : Ctx T TX C X W N sc cl ex) (ha : PE X x (tE X.K TX b ex W (ev C b a))) (hb : PE X y (tE X.K TX b ex W (ev C b c))) (hs : isSlice y = false) : PE X (.Subscript x y pos) (tE X.K TX b ex W (ev C b (.ix a c))) := by
  refine PE.weak (pe_ix (ix_ok (b := b) cx.unit) ha hb (slice_of hs)) fun τ H Q ⟨ρ, σ, S, so, eo, h⟩ => ?_
  rw [ev] at h
  refine ⟨ρ, σ, S, so, eo, At.mono (At.bd (rel := relE X.K) h) fun w H1 ⟨ρ1, v, S1, _, g1, so1, r1, h1⟩ => ?_⟩
  refine ⟨ρ1, σ, S1, so1, eo.grow g1, At.mono (At.bd (rel := relE X.K) h1) fun w2 H2 ⟨ρ2, u, S2, _, g2, so2, r2, h2⟩ => ?_⟩
  obtain ⟨t, e, h3⟩ := At.opt h2
  exact ⟨ρ2, S2, v, u, t, so2, RelP.mono g2.keep g2.pre r1, r2, e, fun w r => At.ok so2 h3 r⟩
theorem s_slc {lo hi : Eo} {l u : Option Expr} {p2 : Pos} (ha : PE X x (tE X.K TX b ex W (ev C b a))) (hl : PO X l (tOs X.K TX b ex W (evo C b lo))) (hu : PO X u (tOs X.K TX b ex W (evo C b hi))) : PE X (.Subscript x (.Slice l u none p2) pos) (tE X.K TX b ex W (ev C b (.slc a lo hi))) := by
  refine PE.weak (PE.lock (pe_slice (sl_ok (T := TX) (b := b)) ha hl hu)) fun τ H Q ⟨ρ, σ, S, so, eo, h⟩ => ?_
  rw [ev] at h
  refine ⟨ρ, σ, S, so, eo, At.mono (At.bd (rel := relE X.K) h) fun w H1 ⟨ρ1, v, S1, _, g1, so1, r1, h1⟩ => ?_⟩
  refine ⟨ρ1, σ, S1, so1, eo.grow g1, At.mono (At.bd (rel := relO) h1) fun w2 H2 ⟨ρ2, u2, S2, _, g2, so2, r2, h2⟩ => ?_⟩
  refine ⟨ρ2, σ, S2, so2, (eo.grow g1).grow g2, At.mono (At.bd (rel := relO) h2) fun w3 H3 ⟨ρ3, u3, S3, _, g3, so3, r3, h3⟩ => ?_⟩
  obtain rfl : u2 = w2 := r2
  obtain rfl : u3 = w3 := r3
  obtain ⟨z, e, h4⟩ := At.opt h3
  exact ⟨ρ3, S3, v, z, so3, RelP.mono (g2.trans g3).keep (g2.trans g3).pre r1, e, ResV.of so3 fun H' w g s r => h4 ρ3 H' w g s r⟩
theorem n_slc {lo hi : Eo} {l u : Option Expr} {p2 : Pos} (ha : PE X x (tE X.K TX b ex W (ev C b a))) (hl : PO X l (tOs X.K TX b ex W (evo C b lo))) (hu : PO X u (tOs X.K TX b ex W (evo C b hi))) : PE X (.Subscript x (.Slice l u none p2) pos) (tE X.K TX b ex W (ev C b (.new (.slc a lo hi)))) := by
  refine PE.weak (pe_slice (sl_ok (T := TX) (b := b)) ha hl hu) fun τ H Q ⟨ρ, σ, S, so, eo, h⟩ => ?_
  rw [ev, ev] at h
  have h := bd_assoc h
  refine ⟨ρ, σ, S, so, eo, At.mono (At.bd (rel := relE X.K) h) fun w H1 ⟨ρ1, v, S1, _, g1, so1, r1, h1⟩ => ?_⟩
  have h1 := bd_assoc h1
  refine ⟨ρ1, σ, S1, so1, eo.grow g1, At.mono (At.bd (rel := relO) h1) fun w2 H2 ⟨ρ2, u2, S2, _, g2, so2, r2, h2⟩ => ?_⟩
  have h2 := bd_assoc h2
  refine ⟨ρ2, σ, S2, so2, (eo.grow g1).grow g2, At.mono (At.bd (rel := relO) h2) fun w3 H3 ⟨ρ3, u3, S3, _, g3, so3, r3, h3⟩ => ?_⟩
  obtain rfl : u2 = w2 := r2
  obtain rfl : u3 = w3 := r3
  obtain ⟨z, e, h4⟩ := opt_bd h3
  exact ⟨ρ3, S3, v, z, so3, RelP.mono (g2.trans g3).keep (g2.trans g3).pre r1, e, thaw_ok so3 h4⟩
theorem s_call (cx : Ctx T TX C X W N sc true ex) {f : Nat} {es : Es} {n : Str} {p : Pos} {g : Expr} {gs : List Expr} (hg : gloB sc n = true) (hf : T.fns[f]? = some (some n)) (h : PA X (g :: gs) (tAs X.K TX b ex W (evs C b es)))
    (he : starEach (g :: gs) X.env = (false, eval g X.env) :: starEach gs X.env) (hpl : (backTo pos (starEach gs X.env)).any (·.1) = false) : PE X (.Call (.Name n p) (g :: gs) [] pos) (tE X.K TX b ex W (ev C b (.call f es))) := by
  obtain ⟨g1, g2, _, _⟩ := cx.gl hg
  obtain ⟨fa, fd, ps, k, hm, hk, hb, F, hr⟩ := cx.fns rfl f n hf
  refine PE.weak (pe_callS F hr g1 hm hk hb (fun σ => passAt cx.takes σ) h g2 he hpl) fun τ H Q ⟨ρ, σ, S, so, eo, q⟩ => ?_
  rw [ev] at q
  refine ⟨ρ, σ, S, so, eo, At.mono (At.bd (rel := relA X.K) q) fun ws H1 ⟨ρ1, vs, S1, _, g1, so1, r1, h1⟩ => ?_⟩
  exact ⟨ρ1, S1, vs, ⟨so1.len, so1.cell, so1.inj, Nat.le_refl _⟩, r1, At.less so1.base so1.base h1⟩
theorem s_isi (cx : Ctx T TX C X W N sc cl ex) {t : Ty} {n m : Str} {p p2 : Pos} (hn : gloB sc n = true) (hm : gloB sc m = true) (en : n = "isinstance") (em : m = tyName t) (bn : T.bi.contains n = true) (bm : T.bi.contains m = true)
    (ha : PE X y (tE X.K TX b ex W (ev C b a))) (hs : ∀ es, starEach (y :: es) X.env = (false, eval y X.env) :: starEach es X.env) : PE X (.Call (.Name n p) [y, .Name m p2] [] pos) (tE X.K TX b ex W (ev C b (.isi a t))) := by
  obtain ⟨g1, g2, _, g4⟩ := cx.gl hn
  obtain ⟨k1, k2, _, k4⟩ := cx.gl hm
  subst en
  have mn : X.mg "isinstance" = none := (cx.free _ bn).2 (by decide +kernel)
  have mm : X.mg m = none := (cx.free _ bm).2 (by rw [em]; cases t <;> decide +kernel)
  have bt : bootBuiltins m = some (.type (tyName t)) := by rw [em]; cases t <;> decide +kernel
  have pm : PE X (.Name m p2) (tC (.ty (tyName t))) := pe_bltn k1 mm bt rfl k4 k2
  refine PE.weak (pe_callB call_isi g1 mn boot_isinstance (pa_cons ha (pa_cons pm pa_nil) (hs _)) g4 g2 (hs _) rfl) fun τ H Q ⟨ρ, σ, S, so, eo, h⟩ => ?_
  rw [ev] at h
  refine ⟨ρ, σ, S, so, eo, At.mono (At.bd (rel := relE X.K) h) fun w H1 ⟨ρ1, v, S1, _, g1, so1, r1, h1⟩ => ?_⟩
  cases e : isTy v t with
  | none => rw [e] at h1; exact h1.elim
  | some k =>
    rw [e] at h1
    obtain ⟨u, ty, kit⟩ := ty_ok r1 e
    exact ⟨w, .ty (tyName t), u, .type (tyName t), k, rfl, .ty _, ty, kit, At.ok (rel := relE X.K) so1 h1 (.bl k)⟩
theorem s_bi (cx : Ctx T TX C X W N sc true ex) {f : Bi} {es : Es} {n : Str} {p : Pos} {g : Expr} {gs : List Expr} (hg : gloB sc n = true) (en : biName f = n) (bn : T.bi.contains n = true) (h : PA X (g :: gs) (tAs X.K TX b ex W (evs C b es)))
    (he : starEach (g :: gs) X.env = (false, eval g X.env) :: starEach gs X.env) (hpl : (backTo pos (starEach gs X.env)).any (·.1) = false) : PE X (.Call (.Name n p) (g :: gs) [] pos) (tE X.K TX b ex W (ev C b (.bi f es))) := by
  obtain ⟨g1, g2, _, g4⟩ := cx.gl hg
  subst en
  have fin : ∀ {τ : L2.St} {H : Hp} {Q : VK}, tE X.K TX b ex W (ev C b (.bi f es)) τ H Q → tCB (rBi X.K b f) (tAs X.K TX b ex W (evs C b es)) τ H (lk Q) := fun {τ H Q} ⟨ρ, σ, S, so, eo, q⟩ => by
    rw [ev] at q
    refine ⟨ρ, σ, S, so, eo, At.mono (At.bd (rel := relA X.K) q) fun ws H1 ⟨ρ1, vs, S1, _, g1, so1, r1, h1⟩ => ?_⟩
    obtain ⟨z, e, h2⟩ := At.opt h1
    exact ⟨ρ1, S1, vs, z, so1, r1, e, ResV.of so1 fun H' w g s r => h2 ρ1 H' w g s r⟩
  have ok := bi_ok (b := b) (cx.calm rfl) f
  have fr := cx.free _ bn
  cases f with
  | gcd => exact PE.weak (PE.lock (pe_callBfun ok g1 (fr.1 rfl) h g2 he hpl)) fun τ H Q q => fin q
  | abs => exact PE.weak (PE.lock (pe_callB ok g1 (fr.2 (by decide +kernel)) (by decide +kernel) h g4 g2 he hpl)) fun τ H Q q => fin q
  | len => exact PE.weak (PE.lock (pe_callB ok g1 (fr.2 (by decide +kernel)) (by decide +kernel) h g4 g2 he hpl)) fun τ H Q q => fin q
  | max2 => exact PE.weak (PE.lock (pe_callB ok g1 (fr.2 (by decide +kernel)) (by decide +kernel) h g4 g2 he hpl)) fun τ H Q q => fin q
  | min2 => exact PE.weak (PE.lock (pe_callB ok g1 (fr.2 (by decide +kernel)) (by decide +kernel) h g4 g2 he hpl)) fun τ H Q q => fin q
  | maxL => exact PE.weak (PE.lock (pe_callB ok g1 (fr.2 (by decide +kernel)) (by decide +kernel) h g4 g2 he hpl)) fun τ H Q q => fin q
  | minL => exact PE.weak (PE.lock (pe_callB ok g1 (fr.2 (by decide +kernel)) (by decide +kernel) h g4 g2 he hpl)) fun τ H Q q => fin q
  | sum => exact PE.weak (PE.lock (pe_callB ok g1 (fr.2 (by decide +kernel)) (by decide +kernel) h g4 g2 he hpl)) fun τ H Q q => fin q
  | sorted => exact PE.weak (PE.lock (pe_callB ok g1 (fr.2 (by decide +kernel)) (by decide +kernel) h g4 g2 he hpl)) fun τ H Q q => fin q
  | all => exact PE.weak (PE.lock (pe_callB ok g1 (fr.2 (by decide +kernel)) (by decide +kernel) h g4 g2 he hpl)) fun τ H Q q => fin q
  | any => exact PE.weak (PE.lock (pe_callB ok g1 (fr.2 (by decide +kernel)) (by decide +kernel) h g4 g2 he hpl)) fun τ H Q q => fin q
  | int => exact PE.weak (PE.lock (pe_callTy ok g1 (fr.2 (by decide +kernel)) (by decide +kernel) h g4 g2 he hpl)) fun τ H Q q => fin q
  | list => exact PE.weak (PE.lock (pe_callTy ok g1 (fr.2 (by decide +kernel)) (by decide +kernel) h g4 g2 he hpl)) fun τ H Q q => fin q
  | tuple => exact PE.weak (PE.lock (pe_callTy ok g1 (fr.2 (by decide +kernel)) (by decide +kernel) h g4 g2 he hpl)) fun τ H Q q => fin q
  | str => exact PE.weak (PE.lock (pe_callTy ok g1 (fr.2 (by decide +kernel)) (by decide +kernel) h g4 g2 he hpl)) fun τ H Q q => fin q
  | bool => exact PE.weak (PE.lock (pe_callTy ok g1 (fr.2 (by decide +kernel)) (by decide +kernel) h g4 g2 he hpl)) fun τ H Q q => fin q
theorem n_bi (cx : Ctx T TX C X W N sc true ex) {f : Bi} {es : Es} {n : Str} {p : Pos} {g : Expr} {gs : List Expr} (hf : f = .list ∨ f = .sorted) (hg : gloB sc n = true) (en : biName f = n) (bn : T.bi.contains n = true) (h : PA X (g :: gs) (tAs X.K TX b ex W (evs C b es)))
    (he : starEach (g :: gs) X.env = (false, eval g X.env) :: starEach gs X.env) (hpl : (backTo pos (starEach gs X.env)).any (·.1) = false) : PE X (.Call (.Name n p) (g :: gs) [] pos) (tE X.K TX b ex W (ev C b (.new (.bi f es)))) := by
  obtain ⟨g1, g2, _, g4⟩ := cx.gl hg
  subst en
  have fin : ∀ {τ : L2.St} {H : Hp} {Q : VK}, tE X.K TX b ex W (ev C b (.new (.bi f es))) τ H Q → tCB (rBi X.K b f) (tAs X.K TX b ex W (evs C b es)) τ H Q := fun {τ H Q} ⟨ρ, σ, S, so, eo, q⟩ => by
    rw [ev, ev] at q
    have q := bd_assoc q
    refine ⟨ρ, σ, S, so, eo, At.mono (At.bd (rel := relA X.K) q) fun ws H1 ⟨ρ1, vs, S1, _, g1, so1, r1, h1⟩ => ?_⟩
    obtain ⟨z, e, h2⟩ := opt_bd h1
    exact ⟨ρ1, S1, vs, z, so1, r1, e, thaw_ok so1 h2⟩
  have ok := bi_ok (b := b) (cx.calm rfl) f
  have fr := cx.free _ bn
  rcases hf with rfl | rfl
  · exact PE.weak (pe_callTy ok g1 (fr.2 (by decide +kernel)) (by decide +kernel) h g4 g2 he hpl) fun τ H Q q => fin q
  · exact PE.weak (pe_callB ok g1 (fr.2 (by decide +kernel)) (by decide +kernel) h g4 g2 he hpl) fun τ H Q q => fin q
end
end MP
end
section
set_option Elab.async false
set_option linter.all false
set_option maxRecDepth 100000
set_option maxHeartbeats 1000000
/-! MPSoundG: attributes, methods, new instances; dicts; lists that are locked. -/
namespace MP
open PySem PySem.Spec PyProof.Rows L2
/-! ### instances that may be locked -/
section
variable {X : Cx} {pins : List (Addr × Obj)} {σ : L2.St} {H : Hp} {s : Shared} {a C dx : Addr} {fs : List (Str × V)} {f : Str} {v : V} {A : Around} {E : Value → Shared → Prop}
theorem rd_get (I : L2.Inv X pins σ H s) (e : Rd H a (.ins C dx fs)) : ∃ mA, ObjM s.heap a dx C mA ∧ ∀ f, RelO (fs.lookup f) (mA f) := by
  obtain ⟨d, z, ne, ob, mA, n, r, q⟩ := (show ObjOk X.prog X.w H s.heap a (.ins C dx fs) from e.ok I.hok)
  exact ⟨mA, ⟨ob, n, ne⟩, r⟩
theorem rd_attr {bb : Bool} {Q : Value → Shared → Prop} (I : L2.Inv X pins σ H s) (e : Rd H a (.ins C dx fs)) (c : Cls X.K C) (n : NoAttr X.K C f) (l : fs.lookup f = some v)
    (h : ∀ u s', L2.Inv X pins σ H s' → RelV v u → Q u s') : wpAny (model X.prog X.w) A (getAttr (.ref a) f bb) Q E s := by
  obtain ⟨mA, O, r⟩ := rd_get I e
  obtain ⟨u, hu, ru⟩ := RelO.some_of (v := v) (o := mA f) (by rw [← l]; exact r f)
  exact get_map I.kIn O (c.get f) c.hd n hu (handed_of ru) (h u _ (I.tok _) ru)
theorem rd_meth {m : Str} {g : Addr} {pl : Sem Bool} {Q : Value × List Value → Shared → Prop} (I : L2.Inv X pins σ H s) (e : Rd H a (.ins C dx fs)) (c : Cls X.K C) (k : Meth X.K C m g) (l : fs.lookup m = none)
    (h : Q (.ref g, [.ref a]) s) : wpAny (model X.prog X.w) A (getMethod (.ref a) m pl) Q E s := by
  obtain ⟨mA, O, r⟩ := rd_get I e
  have hn : mA m = none := RelO.none_of (by rw [← l]; exact r m)
  exact get_meth I.kIn O (c.get m) k.at_ k.fn hn h
end
section
variable [RT] {T : Tab} {TX : Exc} {C : Nat → List PV → Sto → R PV} {X : Cx} {W : WX} {N : List Str} {sc : Scope} {cl : Bool} {ex : Option Held} {b : Nat}
variable {x y z : Expr} {a c d : E} {pos : Pos}
theorem lk_zip {K : PySem.W.Frag} {ρ : List Addr} {H : Hp} : ∀ {ns : List Str} {fs : List PV} {ws : List V} {j : Nat} {f : Str} {v : PV}, ns.Nodup → RelPs K ρ H fs ws → ns[j]? = some f → fs[j]? = some v → ∃ w, (ns.zip ws).lookup f = some w ∧ RelP K ρ H v w
  | [], _, _, _, _, _, _, _, e, _ => by simp at e
  | _ :: _, [], _, _, _, _, _, .nil, _, e => by simp at e
  | g :: ns, u :: fs, w :: ws, 0, f, v, _, .cons r _, e1, e2 => by
    have e1 : g = f := by simpa using e1
    have e2 : u = v := by simpa using e2
    subst e1
    subst e2
    exact ⟨w, by simp [List.lookup], r⟩
  | g :: ns, u :: fs, w :: ws, j + 1, f, v, nd, .cons _ t, e1, e2 => by
    have nd' := List.nodup_cons.mp nd
    have e1 : ns[j]? = some f := by simpa using e1
    obtain ⟨w', h1, h2⟩ := lk_zip nd'.2 t e1 (by simpa using e2)
    refine ⟨w', ?_, h2⟩
    have ne : (f == g) = false := by
      have : f ≠ g := fun z => nd'.1 (by rw [← z]; exact List.mem_of_getElem? e1)
      simpa using this
    rw [List.zip_cons_cons, List.lookup_cons, ne]
    exact h1
theorem lk_none : ∀ {ns : List Str} {ws : List V} {m : Str}, m ∉ ns → (ns.zip ws).lookup m = none
  | [], _, _, _ => rfl
  | _ :: _, [], _, _ => rfl
  | g :: ns, w :: ws, m, h => by
    have ne : (m == g) = false := by
      have : m ≠ g := fun z => h (by rw [z]; exact List.mem_cons_self)
      simpa using this
    rw [List.zip_cons_cons, List.lookup_cons, ne]
    exact lk_none fun z => h (List.mem_cons_of_mem _ z)
/-- an instance, locked or in the store -/
theorem inst_of {ρ : List Addr} {S : Sto} {H : Hp} (so : StOk X.K b ρ S H) {v : PV} {w : V} {c : Nat} (r : RelP X.K ρ H v w) (h : clsV S v = some c) : ∃ p dx fs vs, w = .ref p ∧ Rd H p (.ins (RT.rc c) dx ((RT.rf c).zip vs)) ∧ RelPs X.K ρ H fs vs ∧
    ∀ ps, attV S v ps = (ps.lookup c).bind fun q => fs[q]? := by
  unfold clsV at h
  split at h
  · cases h
    obtain ⟨p, dx, o, vs, rfl, h1, h2⟩ := r.of_obj
    exact ⟨p, dx, _, vs, rfl, .inr ⟨o, h1⟩, h2, fun ps => rfl⟩
  · rename_i k
    obtain ⟨p, rfl, e⟩ := r.of_ref
    split at h
    · rename_i c' fs q
      cases h
      obtain ⟨dx, vs, h2, _, h1⟩ := so.cell k _ p q e
      exact ⟨p, dx, fs, vs, rfl, .inl h1, h2, fun ps => by simp only [attV, q]⟩
    · cases h
  · cases h
theorem base_of {f : Str} {env : PySem.Env} {w : Sem Value} (h : notCall0 x = true) : attributeBase x f env w = w := by
  unfold attributeBase
  split
  · simp [notCall0] at h
  · rfl
theorem att_cls {S : Sto} {v : PV} {ps : List (Nat × Nat)} {u : PV} (h : attV S v ps = some u) : ∃ c, clsV S v = some c := by
  unfold attV at h
  unfold clsV
  split at h
  · exact ⟨_, rfl⟩
  · rename_i k
    split at h
    · rename_i c fs q
      exact ⟨c, by simp only [q]⟩
    · cases h
  · cases h
theorem lookup_mem : ∀ {ps : List (Nat × Nat)} {c p : Nat}, ps.lookup c = some p → (c, p) ∈ ps
  | [], _, _, h => by cases h
  | (c', p') :: ps, c, p, h => by
    rw [List.lookup_cons] at h
    by_cases e : c == c'
    · rw [e] at h
      cases h
      have e := eq_of_beq e
      subst e
      exact List.mem_cons_self
    · rw [Bool.not_eq_true] at e
      rw [e] at h
      exact List.mem_cons_of_mem _ (lookup_mem h)
theorem att_ok (cx : Ctx T TX C X W N sc cl ex) {ρ : List Addr} {S : Sto} {H : Hp} (so : StOk X.K b ρ S H) {v : PV} {w : V} {ps : List (Nat × Nat)} {f : Str} {u : PV} (r : RelP X.K ρ H v w) (h : attV S v ps = some u) (hps : (ps.all fun q => decide ((T.rcs[q.1]?.bind fun p => p.2[q.2]?) = some f)) = true) :
    ∃ p c dx fs' w', w = .ref p ∧ Rd H p (.ins (RT.rc c) dx fs') ∧ Cls X.K (RT.rc c) ∧ NoAttr X.K (RT.rc c) f ∧ fs'.lookup f = some w' ∧ RelP X.K ρ H u w' := by
  obtain ⟨c, hc⟩ := att_cls h
  obtain ⟨p, dx, fs, vs, rfl, h1, h2, h3⟩ := inst_of so r hc
  rw [h3] at h
  obtain ⟨q, e1, e2⟩ := Option.bind_eq_some_iff.mp h
  have z := of_decide_eq_true (List.all_eq_true.mp hps _ (lookup_mem e1))
  obtain ⟨pp, g1, g2⟩ := Option.bind_eq_some_iff.mp z
  have rk := cx.rcs c pp g1
  have g2' : (RT.rf c)[q]? = some f := by rw [rk.fs]; exact g2
  obtain ⟨w', l1, l2⟩ := lk_zip (by rw [rk.fs]; exact rk.nd) h2 g2' e2
  exact ⟨p, c, dx, _, w', rfl, h1, rk.cl, rk.no f (List.mem_of_getElem? g2), l1, l2⟩
theorem s_att (cx : Ctx T TX C X W N sc cl ex) {ps : List (Nat × Nat)} {f : Str} (ha : PE X x (tE X.K TX b ex W (ev C b a))) (hb : notCall0 x = true) (hps : (ps.all fun q => decide ((T.rcs[q.1]?.bind fun p => p.2[q.2]?) = some f)) = true) : PE X (.Attribute x f pos) (tE X.K TX b ex W (ev C b (.att a ps))) := by
  refine ⟨fun pins s τ H Q I ht => ?_⟩
  obtain ⟨ρ, σ, S, so, eo, h⟩ := ht
  rw [ev] at h
  refine attr_of (base_of hb) (thn (ha.run pins s τ H _ I ⟨ρ, σ, S, so, eo, At.bd (rel := relE X.K) h⟩) fun u s1 ⟨w, H1, I1, rw', ρ1, v, S1, _, g1, so1, r1, h1⟩ => ?_)
  obtain ⟨t, e, h2⟩ := At.opt h1
  obtain ⟨p, c, dx, fs', w', rfl, e1, e2, e3, e4, e5⟩ := att_ok cx so1 r1 e hps
  obtain rfl : u = Value.ref p := rw'
  exact rd_attr I1 e1 e2 e3 e4 fun u' s2 I2 ru => ⟨w', H1, I2, ru, At.ok (rel := relE X.K) so1 h2 e5⟩
/-- a list of the store is locked -/
theorem StOk.freeze {K : PySem.W.Frag} {ρ : List Addr} {S : Sto} {H : Hp} {k : Nat} {p : Addr} {xs : List PV} {vs : List V} (so : StOk K b ρ S H) (hk : S.cells[k]? = some (.lst xs)) (e : ρ[k]? = some p) (h : H p = some (.lst vs)) (rs : RelPs K ρ H xs vs) (o : Obj) :
    Grow b ρ ρ S ⟨S.cells.set k (.ro xs), S.dirty⟩ H (upd H p (.frz o (.lst vs))) ∧ StOk K b ρ ⟨S.cells.set k (.ro xs), S.dirty⟩ (upd H p (.frz o (.lst vs))) := by
  have hkl := (List.getElem?_eq_some_iff.mp hk).1
  have kp : Keep H (upd H p (.frz o (.lst vs))) := .wlst h
  refine ⟨⟨kp, List.prefix_refl _, by simp, fun q u z n => ⟨by rw [upd_ne fun z' => n (by rw [z']; exact List.mem_of_getElem? e)]; exact z, n⟩, fun z => ⟨z, fun n hn u j c hj q => ?_⟩⟩, ?_⟩
  · by_cases hjk : k = j
    · subst hjk
      rw [List.getElem?_set_self hkl] at q
      cases q
      exact u k (.lst xs) hj hk
    · rw [List.getElem?_set_ne hjk] at q
      exact u j c hj q
  · let z := so.writeC (p := true) (d := .ro xs) hk rfl e kp ⟨vs, rs.mono kp (List.prefix_refl _), o, upd_same⟩
    exact ⟨z.len, z.cell, z.inj, z.base⟩
theorem s_frz (ha : PE X x (tE X.K TX b ex W (ev C b a))) : PE X x (tE X.K TX b ex W (ev C b (.frz a))) := by
  refine PE.weak (PE.lock ha) fun τ H Q ⟨ρ, σ, S, so, eo, h⟩ => ?_
  rw [ev] at h
  refine ⟨ρ, σ, S, so, eo, At.mono (At.bd (rel := relE X.K) h) fun w H1 ⟨ρ1, v, S1, _, g1, so1, r1, h1⟩ => ?_⟩
  unfold MP.freeze at h1
  split at h1
  · rename_i k
    obtain ⟨p, rfl, ep⟩ := RelP.of_ref r1
    split at h1
    · rename_i xs hk
      obtain ⟨vs, rs, hp⟩ := so1.lst hk ep
      refine .inr ⟨p, .lst vs, hp, trivial, fun o => ?_⟩
      obtain ⟨g, s'⟩ := so1.freeze hk ep hp rs o
      exact h1 ρ1 _ _ g s' (.lst (.inl ⟨o, upd_same⟩) (rs.mono (.wlst hp) (List.prefix_refl _)))
    · exact h1.elim
  · exact h1.elim
/-! ### f-strings -/
/-- the rest of an f-string's run, acc being there -/
def tF (K : PySem.W.Frag) (TX : Exc) (b : Nat) (C : Nat → List PV → Sto → R PV) (ex : Option Held) (es : Es) (acc : Str) : L2.St → Hp → (Str → Hp → Prop) → Prop := fun τ H Q =>
  ∃ ρ σ S vs S' z, StOk K b ρ S H ∧ EnvOk K TX ex ρ H σ τ ∧ evs C b es σ S = .ok vs S' ∧ fparts vs = some z ∧ (acc ++ z).length ≤ lenMax ∧ ∀ ρ' H', Grow b ρ ρ' S S' H H' → StOk K b ρ' S' H' → Q (acc ++ z) H'
theorem f_nil {acc : Str} {τ : L2.St} {H : Hp} {Q : Str → Hp → Prop} (h : tF X.K TX b C ex .nil acc τ H Q) : tJs [] acc τ H Q := by
  obtain ⟨ρ, σ, S, vs, S', z, so, eo, e, f, l, q⟩ := h
  rw [evs] at e
  cases e
  cases f
  have z := q ρ H .refl so
  rw [Str.append_empty] at z
  exact z
theorem fparts_cons {v : PV} {vs : List PV} {z : Str} (h : fparts (v :: vs) = some z) : ∃ y z', fparts vs = some z' ∧ z = y ++ z' ∧ (v = .str y ∨ ∃ i : Int, v = .int i ∧ i.natAbs.log2 < 1920 ∧ y = Str.ofString (toString i)) := by
  unfold fparts at h
  split at h
  · rename_i q; cases q
  · rename_i x r q
    cases q
    cases e : fparts vs with
    | none => rw [e] at h; cases h
    | some z' => rw [e] at h; cases h; exact ⟨x, z', rfl, rfl, .inl rfl⟩
  · rename_i i r q
    cases q
    split at h
    · rename_i hl
      cases e : fparts vs with
      | none => rw [e] at h; cases h
      | some z' => rw [e] at h; cases h; exact ⟨_, z', rfl, rfl, .inr ⟨i, rfl, hl, rfl⟩⟩
    · cases h
  · cases h
theorem f_cons {e : E} {es : Es} {ts : List TE} {acc : Str} {τ : L2.St} {H : Hp} {Q : Str → Hp → Prop} (h : tF X.K TX b C ex (.cons e es) acc τ H Q) (ih : ∀ acc τ H Q, tF X.K TX b C ex es acc τ H Q → tJs ts acc τ H Q) : tJs (tFmt (tE X.K TX b ex W (ev C b e)) :: ts) acc τ H Q := by
  obtain ⟨ρ, σ, S, vs, S', z, so, eo, e1, f, l, q⟩ := h
  rw [evs] at e1
  cases ee : ev C b e σ S with
  | bad => rw [ee] at e1; cases e1
  | exc c as S1 => rw [ee] at e1; cases e1
  | ok v S1 =>
    rw [ee] at e1
    have e1 : (evs C b es σ S1).bd (fun vs S2 => R.ok (v :: vs) S2) = .ok vs S' := e1
    cases e2 : evs C b es σ S1 with
    | bad => rw [e2] at e1; cases e1
    | exc c as S2 => rw [e2] at e1; cases e1
    | ok us S2 =>
      rw [e2] at e1
      cases e1
      obtain ⟨y, z', fz, rfl, hv⟩ := fparts_cons f
      have la : (acc ++ y).length ≤ lenMax := by
        rw [← Str.append_assoc, Str.length_append] at l
        omega
      have ly : y.length ≤ lenMax := by
        rw [Str.length_append] at la
        omega
      refine ⟨ρ, σ, S, so, eo, ?_⟩
      rw [ee]
      intro ρ1 H1 w g1 so1 r1
      have next : ∃ y' : Str, V.str y = .str y' ∧ (acc ++ y').length ≤ sizeLine ∧ tJs ts (acc ++ y') τ H1 Q := by
        refine ⟨y, rfl, by rw [line_eq]; exact la, ih _ _ _ _ ⟨ρ1, σ, S1, us, S', z', so1, eo.grow g1, e2, fz, by rw [Str.append_assoc]; exact l, fun ρ' H' g so' => ?_⟩⟩
        rw [Str.append_assoc]
        exact q ρ' H' (g1.trans g) so'
      rcases hv with rfl | ⟨i, rfl, hl, rfl⟩
      · obtain rfl := RelP.of_str r1
        exact .inl ⟨y, rfl, by rw [line_eq]; exact ly, next⟩
      · obtain rfl := RelP.of_int r1
        exact .inr ⟨i, rfl, hl, next⟩
theorem f_const {y : Str} {es : Es} {ts : List TE} {acc : Str} {τ : L2.St} {H : Hp} {Q : Str → Hp → Prop} (h : tF X.K TX b C ex (.cons (.cst (.str y)) es) acc τ H Q) (ih : ∀ acc τ H Q, tF X.K TX b C ex es acc τ H Q → tJs ts acc τ H Q) : tJs (tE X.K TX b ex W (ev C b (.cst (.str y))) :: ts) acc τ H Q := by
  obtain ⟨ρ, σ, S, vs, S', z, so, eo, e1, f, l, q⟩ := h
  rw [evs, ev] at e1
  have e1 : (evs C b es σ S).bd (fun vs S2 => R.ok (PV.str y :: vs) S2) = .ok vs S' := e1
  cases e2 : evs C b es σ S with
  | bad => rw [e2] at e1; cases e1
  | exc c as S2 => rw [e2] at e1; cases e1
  | ok us S2 =>
    rw [e2] at e1
    cases e1
    obtain ⟨y', z', fz, rfl, hv⟩ := fparts_cons f
    have ey : y' = y := by
      rcases hv with h | ⟨i, h, _⟩
      · cases h; rfl
      · cases h
    subst ey
    have la : (acc ++ y').length ≤ lenMax := by
      rw [← Str.append_assoc, Str.length_append] at l
      omega
    refine ⟨ρ, σ, S, so, eo, ?_⟩
    rw [ev]
    intro ρ1 H1 w g1 so1 r1
    obtain rfl := RelP.of_str r1
    refine ⟨y', rfl, by rw [line_eq]; exact la, ih _ _ _ _ ⟨ρ1, σ, S, us, S', z', so1, eo.grow g1, e2, fz, by rw [Str.append_assoc]; exact l, fun ρ' H' g so' => ?_⟩⟩
    rw [Str.append_assoc]
    exact q ρ' H' (g1.trans g) so'
theorem s_fstr {es : Es} {f g : Expr} {fs : List Expr} (h : ∃ ts, PJ X (f :: g :: fs) ts ∧ ∀ acc τ H Q, tF X.K TX b C ex es acc τ H Q → tJs ts acc τ H Q) : PE X (.JoinedStr (f :: g :: fs) pos) (tE X.K TX b ex W (ev C b (.fstr es))) := by
  obtain ⟨ts, pj, ht⟩ := h
  refine PE.weak (pe_joined pj) fun τ H Q ⟨ρ, σ, S, so, eo, q⟩ => ht _ _ _ _ ?_
  rw [ev] at q
  cases e : evs C b es σ S with
  | bad => rw [e] at q; exact q.elim
  | exc c as S2 => rw [e] at q; exact q.elim
  | ok vs S2 =>
    rw [e] at q
    have q : At X.K TX b _ (relE X.K) ρ S H ((MP.opt (fparts vs) S2).bd fun z S3 => if z.length ≤ lenMax then .ok (.str z) S3 else .bad) Q := q
    obtain ⟨z, fz, q⟩ := opt_bd q
    split at q
    · rename_i hl
      refine ⟨ρ, σ, S, vs, S2, z, so, eo, e, fz, by rw [Str.empty_append]; exact hl, fun ρ' H' g so' => ?_⟩
      rw [Str.empty_append]
      exact q ρ' H' (.str z) g so' (.str z)
    · exact q.elim
end
end MP
end
section
set_option Elab.async false
set_option linter.all false
set_option maxRecDepth 100000
set_option maxHeartbeats 1000000
/-! MPSound8: tests, arguments, walks, the held exception. -/
namespace MP
open PySem PySem.Spec PyProof.Rows L2
section
variable [RT] {T : Tab} {TX : Exc} {C : Nat → List PV → Sto → R PV} {X : Cx} {W : WX} {N : List Str} {sc : Scope} {cl : Bool} {ex : Option Held} {b : Nat}
variable {x y z : Expr} {a c d : E} {pos : Pos}
/-! ### tests -/
theorem t_not (ha : PT X x (tTs X.K TX b ex W (evT C b a))) : PT X (.UnaryOp .Not x pos) (tTs X.K TX b ex W (evT C b (.not a))) := by
  refine PT.weak (pt_not ha) fun τ H Q ⟨ρ, σ, S, so, eo, h⟩ => ?_
  unfold evT at h
  refine ⟨ρ, σ, S, so, eo, At.mono (At.bd (rel := relT) h) fun w H1 ⟨ρ1, v, S1, _, g1, so1, r1, h1⟩ => ?_⟩
  obtain rfl : v = w := r1
  exact At.ok (rel := relT) so1 h1 rfl
theorem t_and {rest : List Expr} (ha : PT X x (tTs X.K TX b ex W (evT C b a))) (hb : PW X (.BoolOp .And (y :: rest) pos) (tTs X.K TX b ex W (evT C b c))) : PW X (.BoolOp .And (x :: y :: rest) pos) (tTs X.K TX b ex W (evT C b (.and a c))) := by
  refine PW.weak (pw_and ha hb) fun τ H Q ⟨ρ, σ, S, so, eo, h⟩ => ?_
  unfold evT at h
  refine ⟨ρ, σ, S, so, eo, At.mono (At.bd (rel := relT) h) fun w H1 ⟨ρ1, v, S1, _, g1, so1, r1, h1⟩ => ?_⟩
  obtain rfl : v = w := r1
  cases v with
  | true => exact iteT ⟨ρ1, σ, S1, so1, eo.grow g1, h1⟩
  | false => exact iteF (At.ok (rel := relT) so1 h1 rfl)
theorem t_or {rest : List Expr} (ha : PT X x (tTs X.K TX b ex W (evT C b a))) (hb : PW X (.BoolOp .Or (y :: rest) pos) (tTs X.K TX b ex W (evT C b c))) : PW X (.BoolOp .Or (x :: y :: rest) pos) (tTs X.K TX b ex W (evT C b (.or a c))) := by
  refine PW.weak (pw_or ha hb) fun τ H Q ⟨ρ, σ, S, so, eo, h⟩ => ?_
  unfold evT at h
  refine ⟨ρ, σ, S, so, eo, At.mono (At.bd (rel := relT) h) fun w H1 ⟨ρ1, v, S1, _, g1, so1, r1, h1⟩ => ?_⟩
  obtain rfl : v = w := r1
  cases v with
  | true => exact iteT (At.ok (rel := relT) so1 h1 rfl)
  | false => exact iteF ⟨ρ1, σ, S1, so1, eo.grow g1, h1⟩
theorem t_cmp {o : Cm} (cx : Ctx T TX C X W N sc cl ex) (ha : PE X x (tE X.K TX b ex W (ev C b a))) (hb : PE X y (tE X.K TX b ex W (ev C b c))) (hm : behindInMarks (cmOf o) y = false) : PT X (.Compare x [cmOf o] [y] pos) (tTs X.K TX b ex W (evT C b (.cmp o a c))) := by
  refine PT.weak (pt_cmpR (cmOp_ok (b := b) o cx.unit) ha hb hm) fun τ H Q ⟨ρ, σ, S, so, eo, h⟩ => ?_
  unfold evT at h
  refine ⟨ρ, σ, S, so, eo, At.mono (At.bd (rel := relE X.K) h) fun w H1 ⟨ρ1, v, S1, _, g1, so1, r1, h1⟩ => ?_⟩
  refine ⟨ρ1, σ, S1, so1, eo.grow g1, At.mono (At.bd (rel := relE X.K) h1) fun w2 H2 ⟨ρ2, u, S2, _, g2, so2, r2, h2⟩ => ?_⟩
  obtain ⟨k, e, h3⟩ := At.opt h2
  exact ⟨ρ2, S2, v, u, k, so2, RelP.mono g2.keep g2.pre r1, r2, e, k, rfl, At.ok (rel := relT) so2 h3 rfl⟩
theorem t_chain {o o' : Cm} (cx : Ctx T TX C X W N sc cl ex) (ha : PE X x (tE X.K TX b ex W (ev C b a))) (hb : PE X y (tE X.K TX b ex W (ev C b c))) (hd : PE X z (tE X.K TX b ex W (ev C b d))) (hm : lastMarks [cmOf o, cmOf o'] [y, z] = false) :
    PT X (.Compare x [cmOf o, cmOf o'] [y, z] pos) (tTs X.K TX b ex W (evT C b (.chain o o' a c d))) := by
  refine PT.weak (pt_chain (cmOp_ok (b := b) o cx.unit) (cmOp_ok (b := b) o' cx.unit) ha hb hd hm) fun τ H Q ⟨ρ, σ, S, so, eo, h⟩ => ?_
  unfold evT at h
  refine ⟨ρ, σ, S, so, eo, At.mono (At.bd (rel := relE X.K) h) fun w H1 ⟨ρ1, v, S1, _, g1, so1, r1, h1⟩ => ?_⟩
  refine ⟨ρ1, σ, S1, so1, eo.grow g1, At.mono (At.bd (rel := relE X.K) h1) fun w2 H2 ⟨ρ2, u, S2, _, g2, so2, r2, h2⟩ => ?_⟩
  have eo2 := (eo.grow g1).grow g2
  cases e : cmV S2 o v u with
  | none => rw [e] at h2; exact h2.elim
  | some k =>
    rw [e] at h2
    refine ⟨ρ2, S2, v, u, k, so2, RelP.mono g2.keep g2.pre r1, r2, e, k, rfl, ?_⟩
    cases k with
    | false => exact iteF ⟨false, rfl, At.ok (rel := relT) so2 h2 rfl⟩
    | true =>
      refine iteT ⟨ρ2, σ, S2, so2, eo2, At.mono (At.bd (rel := relE X.K) h2) fun w3 H3 ⟨ρ3, t, S3, _, g3, so3, r3, h3⟩ => ?_⟩
      obtain ⟨k2, e2, h4⟩ := At.opt h3
      exact ⟨ρ3, S3, u, t, k2, so3, RelP.mono g3.keep g3.pre r2, r3, e2, k2, rfl, At.ok (rel := relT) so3 h4 rfl⟩
/-- an expression of any kind as a test -/
theorem t_tru (ha : PE X x (tE X.K TX b ex W (ev C b a))) (he : ∀ σ S, evT C b a σ S = (ev C b a σ S).bd fun v S1 => MP.opt (truV S1 v) S1)
    (hp : ∀ whole, isTrue x X.env whole = (do let v ← whole; standAt x.pos; holding [v] (truthy v))) : PT X x (tTs X.K TX b ex W (evT C b a)) := by
  refine PT.weak (pt_truth ha hp) fun τ H Q ⟨ρ, σ, S, so, eo, h⟩ => ?_
  rw [he] at h
  refine ⟨ρ, σ, S, so, eo, At.mono (At.bd (rel := relE X.K) h) fun w H1 ⟨ρ1, v, S1, _, g1, so1, r1, h1⟩ => ?_⟩
  obtain ⟨k, e, h2⟩ := At.opt h1
  exact ⟨k, tru_of so1 r1 e, At.ok (rel := relT) so1 h2 rfl⟩
/-- one whose value is a bool -/
theorem t_val (ha : PE X x (tE X.K TX b ex W (ev C b a))) (he : ∀ σ S, ev C b a σ S = (evT C b a σ S).bd fun c S1 => .ok (.bl c) S1)
    (hp : ∀ whole, isTrue x X.env whole = (do let v ← whole; standAt x.pos; holding [v] (truthy v))) : PT X x (tTs X.K TX b ex W (evT C b a)) := by
  refine PT.weak (pt_val ha hp) fun τ H Q ⟨ρ, σ, S, so, eo, h⟩ => ?_
  refine ⟨ρ, σ, S, so, eo, ?_⟩
  rw [he]
  cases e : evT C b a σ S with
  | ok k S1 =>
    rw [e] at h
    exact fun ρ' H' w g s r => ⟨k, RelP.of_bl r, h ρ' H' k g s rfl⟩
  | exc c as S1 => rw [e] at h; exact h
  | bad => rw [e] at h; exact h
/-! ### arguments, slices' parts -/
theorem a_nil : PA X [] (tAs X.K TX b ex W (evs C b .nil)) := PA.weak pa_nil fun τ H Q ⟨ρ, σ, S, so, eo, h⟩ => At.ok (rel := relA X.K) so (by unfold evs at h; exact h) .nil
theorem a_cons {es : Es} {fs : List Expr} (ha : PE X x (tE X.K TX b ex W (ev C b a))) (hr : PA X fs (tAs X.K TX b ex W (evs C b es))) (hs : starEach (x :: fs) X.env = (false, eval x X.env) :: starEach fs X.env) : PA X (x :: fs) (tAs X.K TX b ex W (evs C b (.cons a es))) := by
  refine PA.weak (pa_cons ha hr hs) fun τ H Q ⟨ρ, σ, S, so, eo, h⟩ => ?_
  unfold evs at h
  refine ⟨ρ, σ, S, so, eo, At.mono (At.bd (rel := relE X.K) h) fun w H1 ⟨ρ1, v, S1, _, g1, so1, r1, h1⟩ => ?_⟩
  refine ⟨ρ1, σ, S1, so1, eo.grow g1, At.mono (At.bd (rel := relA X.K) h1) fun ws H2 ⟨ρ2, vs, S2, _, g2, so2, r2, h2⟩ => ?_⟩
  exact At.ok (rel := relA X.K) so2 h2 (.cons (RelP.mono g2.keep g2.pre r1) r2)
theorem o_none : PO X none (tOs X.K TX b ex W (evo C b .none)) := PO.weak po_none fun τ H Q ⟨ρ, σ, S, so, eo, h⟩ => At.ok (rel := relO) so (by unfold evo at h; exact h) rfl
theorem o_some (ha : PE X x (tE X.K TX b ex W (ev C b a))) : PO X (some x) (tOs X.K TX b ex W (evo C b (.some a))) := by
  refine PO.weak (po_some ha) fun τ H Q ⟨ρ, σ, S, so, eo, h⟩ => ?_
  unfold evo at h
  refine ⟨ρ, σ, S, so, eo, At.mono (At.bd (rel := relE X.K) h) fun w H1 ⟨ρ1, v, S1, _, g1, so1, r1, h1⟩ => ?_⟩
  split at h1
  · exact ⟨_, RelP.of_int r1, At.ok (rel := relO) so1 h1 rfl⟩
  · exact h1.elim
/-! ### targets of names -/
mutual
theorem g_ok {X : Cx} (hc : X.calm = true) (hN : X.N = N) (hd : N.Nodup) (hsc : X.env.scope = sc) {lo : Bool} (hf : lo = false → ∀ x, sc.names.lookup x = some .cell → X.fn x = true) : ∀ {t : Tg} {tg : Expr}, tgB N lo sc t tg = true →
    PG X tg (fun v τ H Q => ∃ ρ σ σ' u, EnvOk X.K TX none ρ H σ τ ∧ RelP X.K ρ H u v ∧ bindT t u σ = some σ' ∧ ∀ τ', EnvOk X.K TX none ρ H σ' τ' → Q τ' H)
  | .name i, tg, h => by
    unfold tgB at h
    split at h
    · rename_i n p
      have h' := Bool.and_eq_true_iff.mp h
      have hl : Loc X.env.scope n ∧ (X.fn n = true ∨ X.env.scope.names.lookup n = some .local) := by
        rw [hsc]
        have h2 := h'.2
        cases lo with
        | true => exact ⟨.inl (kindB_ok h2), .inr (kindB_ok h2)⟩
        | false =>
          have h3 := locB_ok (sc := sc) (x := n) h2
          exact ⟨h3, h3.elim .inr fun e => .inl (hf rfl n e)⟩
      have g := pg_name (X := X) (i := i) (x := n) (pos := p) (by rw [hN]; exact hd) (by rw [hN]; exact atB_ok h'.1) hl.1 hl.2
      refine ⟨fun pins s τ H v u Q I r hq => g.run pins s τ H v u Q I r ?_⟩
      obtain ⟨ρ, σ, σ', w, eo, rp, e, k⟩ := hq
      unfold bindT at e
      cases e
      exact k _ (eo.set i rp)
    · cases h
  | .tup ts, tg, h => by
    unfold tgB at h
    split at h
    · rename_i es k p
      have ih := gs_ok hc hN hd hsc hf h
      obtain ⟨n, hn, hst⟩ : ∃ n, (assignEach es X.env).length = n ∧ (assignEach es X.env).findIdx? (·.1) = none := ⟨_, rfl, ih.2.1⟩
      refine ⟨fun pins s τ H v u Q I r hq => ?_⟩
      obtain ⟨ρ, σ, σ', w, eo, rp, e, kk⟩ := hq
      unfold bindT at e
      cases w with
      | tup xs =>
        obtain ⟨a, vs, rfl, hq, rs⟩ := rp.of_tup
        have e' : bindTs ts xs σ = some σ' := e
        refine (pg_tup hc ih.1 hn hst).run pins s τ H _ u Q I r ⟨a, vs, rfl, hq, ?_, ρ, σ, σ', xs, eo, rs, e', kk⟩
        rw [← rs.length, ← hn]
        exact ih.2.2 σ σ' xs e'
      | lst xs =>
        obtain ⟨a, vs, rfl, hq, rs⟩ := rp.of_lst
        have e' : bindTs ts xs σ = some σ' := e
        refine (pg_unl hc ih.1 hn hst).run pins s τ H _ u Q I r ⟨a, vs, rfl, hq.sq, ?_, ρ, σ, σ', xs, eo, rs, e', kk⟩
        rw [← rs.length, ← hn]
        exact ih.2.2 σ σ' xs e'
      | _ => cases e
    · cases h
theorem gs_ok {X : Cx} (hc : X.calm = true) (hN : X.N = N) (hd : N.Nodup) (hsc : X.env.scope = sc) {lo : Bool} (hf : lo = false → ∀ x, sc.names.lookup x = some .cell → X.fn x = true) : ∀ {ts : Tgs} {es : List Expr}, tgsB N lo sc ts es = true →
    PGs X es (fun vs τ H Q => ∃ ρ σ σ' us, EnvOk X.K TX none ρ H σ τ ∧ RelPs X.K ρ H us vs ∧ bindTs ts us σ = some σ' ∧ ∀ τ', EnvOk X.K TX none ρ H σ' τ' → Q τ' H) ∧
      (assignEach es X.env).findIdx? (·.1) = none ∧ ∀ σ σ' us, bindTs ts us σ = some σ' → us.length = (assignEach es X.env).length
  | .nil, [], _ => by
    refine ⟨⟨fun pins s τ H vs us Q I r hq => pgs_nil.run pins s τ H vs us Q I r ?_⟩, rfl, fun σ σ' us e => ?_⟩
    · obtain ⟨ρ, σ, σ', us', eo, rs, e, k⟩ := hq
      cases us' with
      | nil =>
        cases rs
        unfold bindTs at e
        cases e
        exact ⟨rfl, k _ eo⟩
      | cons _ _ => simp [bindTs] at e
    · cases us with
      | nil => rfl
      | cons _ _ => simp [bindTs] at e
  | .nil, _ :: _, h => by simp [tgsB] at h
  | .cons _ _, [], h => by simp [tgsB] at h
  | .cons t ts, e :: es, h => by
    have h' := Bool.and_eq_true_iff.mp (by simpa [tgsB] using h)
    have g1 := g_ok hc hN hd hsc hf h'.1
    obtain ⟨g2, g3, g4⟩ := gs_ok hc hN hd hsc hf h'.2
    have ha : assignEach (e :: es) X.env = (false, assign e X.env) :: assignEach es X.env := by
      have h1 := h'.1
      cases t with
      | name i => cases e <;> first | rfl | simp [tgB] at h1
      | tup ts => cases e <;> first | rfl | simp [tgB] at h1
    refine ⟨⟨fun pins s τ H vs us Q I r hq => (pgs_cons g1 g2 (by rw [ha]; rfl)).run pins s τ H vs us Q I r ?_⟩, ?_, fun σ σ' us e => ?_⟩
    · obtain ⟨ρ, σ, σ', us', eo, rs, e, k⟩ := hq
      cases rs with
      | nil => simp [bindTs] at e
      | cons r1 r2 =>
        unfold bindTs at e
        split at e
        · rename_i σ1 e1
          exact ⟨_, _, rfl, ρ, σ, σ1, _, eo, r1, e1, fun τ' eo' => ⟨ρ, σ1, σ', _, eo', r2, e, k⟩⟩
        · cases e
    · rw [ha, List.findIdx?_cons]
      simp [g3]
    · cases us with
      | nil => simp [bindTs] at e
      | cons u us =>
        unfold bindTs at e
        split at e
        · rename_i σ1 e1
          rw [ha, List.length_cons, List.length_cons, g4 σ1 σ' us e]
        · cases e
end
end
end MP
end
section
set_option Elab.async false
set_option linter.all false
set_option maxRecDepth 100000
set_option maxHeartbeats 1000000
/-! MPSound9: what a for walks, comprehensions, the held exception. -/
namespace MP
open PySem PySem.Spec PyProof.Rows L2
section
variable {X : Cx} {tg l : Expr} {tl : TE}
/-- a list or a tuple, walked -/
def iSeq (K : PySem.W.Frag) (tl : TE) : TI := fun σ H R => tl σ H fun x H1 => ∃ a, x = .ref a ∧ (((∃ vs, SqL K H1 a vs) ∧ R (Itl K a) H1) ∨ ((∃ vs, SqT K H1 a vs) ∧ R (Itt K a) H1))
theorem pi_seq (hl : PE X l tl) : PI X tg l (iSeq X.K tl) := by
  refine ⟨fun pins s σ H R I h => ?_⟩
  refine thn (hl.run pins s σ H _ I h) fun v s1 ⟨x, H1, I1, r1, a, e, q⟩ => ?_
  subst e
  cases r1
  have fresh : ∀ bb ∈ [s1.heap.objs.size], FpOk X pins H1 bb := fun bb hb => by
    obtain rfl : bb = s1.heap.objs.size := by simpa using hb
    exact I1.fpOk (Nat.le_refl _) (I1.hok.fresh (Nat.le_refl _))
  have kept : ∀ (o : Obj) (bb : Addr) (u : Obj), s1.heap.get? bb = some u → (s1.heap.push o).get? bb = some u := fun o bb u e => Heap.get?_push_of_some _ e
  rcases q with ⟨⟨vs, hq⟩, q⟩ | ⟨⟨vs, hq⟩, q⟩
  · obtain ⟨its, rv, p, hz⟩ := I1.list hq
    exact wpAny_pyIter_list p.isList ⟨_, [s1.heap.objs.size], _, _, H1, rfl, I1.kept (t' := s1.toks) (kept _), turn_list a _, ⟨_, Heap.get?_push_size _ rfl, rfl, rfl⟩, fresh, q⟩
  · obtain ⟨its, rv, p, hz⟩ := I1.tuple hq
    exact wpAny_pyIter_tuple (show s1.heap.IsTuple a its.toArray from p) ⟨_, [s1.heap.objs.size], _, _, H1, rfl, I1.kept (t' := s1.toks) (kept _), turn_tuple a _, ⟨_, Heap.get?_push_size _ rfl, rfl, rfl⟩, fresh, q⟩
end
section
variable [RT] {T : Tab} {TX : Exc} {C : Nat → List PV → Sto → R PV} {X : Cx} {W : WX} {N : List Str} {sc : Scope} {b : Nat}
variable {x y z tg : Expr} {a c d : E} {pos : Pos}
abbrev tI (K : PySem.W.Frag) (TX : Exc) (b : Nat) (W : WX) (r : Env → Sto → R MP.Walk) : TI := tG K TX b none W (WalkOk K b) r
section
variable {K : PySem.W.Frag} {ρ : List Addr} {H : Hp} {S : Sto}
theorem stands_get {S : Sto} {g : List (Nat × List PV)} (h : stands S g = true) {k : Nat} {xs : List PV} (m : (k, xs) ∈ g) : S.lst? k = some xs := by
  unfold stands at h
  exact of_decide_eq_true (List.all_eq_true.mp h (k, xs) m)
/-- a list that is walked: locked, or as it stands in the store -/
def Side (K : PySem.W.Frag) (b : Nat) (ρ : List Addr) (H : Hp) (xs : List PV) (g : List (Nat × List PV)) (p : Addr) : Prop :=
  (∃ vs, RelPs K ρ H xs vs ∧ SqL K H p vs) ∧ ∀ ρ' S' H', Keep H H' → ρ <+: ρ' → StOk K b ρ' S' H' → stands S' g = true → ∃ vs, RelPs K ρ' H' xs vs ∧ SqL K H' p vs
theorem side_ok (so : StOk K b ρ S H) {v : PV} {w : V} {q : MP.Walk} (r : RelP K ρ H v w) (e : walkV S v = some q) (nt : isTup v = false) : ∃ p, w = .ref p ∧ Side K b ρ H q.1 q.2 p := by
  unfold walkV at e
  split at e
  · cases nt
  · cases e
    obtain ⟨p, vs, rfl, h, rs⟩ := r.of_lst
    exact ⟨p, rfl, ⟨vs, rs, h.sq⟩, fun ρ' S' H' k pr so st => ⟨vs, rs.mono k pr, (k.roL h).sq⟩⟩
  · rename_i kk
    obtain ⟨p, rfl, ep⟩ := r.of_ref
    cases e1 : S.lst? kk with
    | none => rw [e1] at e; cases e
    | some xs =>
      rw [e1] at e
      cases e
      obtain ⟨vs, rs, hs⟩ := so.sql e1 ep
      exact ⟨p, rfl, ⟨vs, rs, hs⟩, fun ρ' S' H' k pr so st => so.sql (stands_get st (List.mem_singleton.mpr rfl)) (pre_get pr ep)⟩
  · cases e
theorem stands_app {S : Sto} {g g' : List (Nat × List PV)} (h : stands S (g ++ g') = true) : stands S g = true ∧ stands S g' = true := by
  unfold stands at h
  rw [List.all_append] at h
  exact Bool.and_eq_true_iff.mp h
theorem walk_lst {xs : List PV} {g : List (Nat × List PV)} {p : Addr} (sd : Side K b ρ H xs g p) : WalkOk K b ρ H (xs, g) (Itl K p) := by
  refine ⟨xs.length, fun H' => ∃ vs, SqL K H' p vs ∧ vs.length = xs.length, fun i H' w H2 => H2 = H' ∧ ∀ vs, SqL K H' p vs → vs[i]? = some w,
    ⟨fun i H' hi ⟨vs, q, hl⟩ => ⟨vs, vs[i], q, by simp [show i < vs.length by omega]⟩, fun H' ⟨vs, q, hl⟩ => ⟨vs, q, by omega⟩, fun i H' w H2 hi ⟨vs, q, hl⟩ y => y⟩, rfl, ?_, ?_⟩
  · intro ρ' S' H' k' pr so st
    obtain ⟨vs, r, q⟩ := sd.2 ρ' S' H' k' pr so st
    exact ⟨vs, q, r.length.symm⟩
  · rintro ρ' S' H' i w it H2 k' pr so st hi ⟨rfl, y⟩
    obtain ⟨vs, r, q⟩ := sd.2 ρ' S' _ k' pr so st
    obtain ⟨v, h1, h2⟩ := r.get hi
    have e := y vs q
    rw [h1] at e
    cases e
    exact ⟨.refl, so, h2⟩
theorem walk_tp {xs : List PV} {vs : List V} {p : Addr} (h : SqT K H p vs) (r : RelPs K ρ H xs vs) : WalkOk K b ρ H (xs, []) (Itt K p) := by
  refine ⟨xs.length, fun H' => SqT K H' p vs, fun i H' w H2 => H2 = H' ∧ vs[i]? = some w,
    ⟨fun i H' hi q => ⟨vs, vs[i]'(by rw [← r.length]; exact hi), q, by simp⟩, fun H' q => ⟨vs, q, by rw [r.length]; exact Nat.le_refl _⟩, fun i H' w H2 hi q y => ⟨y.1, y.2 vs q⟩⟩, rfl, fun ρ' S' H' k pr so st => k.sqT h, ?_⟩
  rintro ρ' S' H' i w it H2 k' pr so st hi ⟨rfl, y⟩
  obtain ⟨v, h1, h2⟩ := r.get hi
  rw [h1] at y
  cases y
  exact ⟨.refl, so, h2.mono k' pr⟩
theorem walk_rng {lo : Int} {n : Nat} : WalkOk K b ρ H (rngL lo n, []) (Itr lo n) := by
  refine ⟨n, fun _ => True, _, walk_range, by simp [rngL], fun _ _ _ _ _ _ _ => trivial, ?_⟩
  rintro ρ' S' H' i w it H2 k' pr so st hi ⟨rfl, rfl⟩
  unfold rngL at hi
  rw [List.getElem?_map] at hi
  cases e : (List.range n)[i]? with
  | none => rw [e] at hi; cases hi
  | some j =>
    rw [e] at hi
    cases hi
    have : j = i := by
      have h2 := List.getElem?_eq_some_iff.mp e
      obtain ⟨_, h3⟩ := h2
      simpa using h3.symm
    subst this
    exact ⟨.refl, so, .int _⟩
theorem walk_rngD {lo : Int} {n : Nat} : WalkOk K b ρ H (rngD lo n, []) (Itc lo (-1) n) := by
  refine ⟨n, fun _ => True, fun i H x H' => H' = H ∧ x = .int (lo + (i : Nat) * (-1)), ⟨fun i H' hi _ => hi, fun H' _ => Nat.le_refl _, fun i H' w H2 hi _ y => y⟩, by simp [rngD], fun _ _ _ _ _ _ _ => trivial, ?_⟩
  rintro ρ' S' H' i w it H2 k' pr so st hi ⟨rfl, rfl⟩
  unfold rngD at hi
  rw [List.getElem?_map] at hi
  cases e : (List.range n)[i]? with
  | none => rw [e] at hi; cases hi
  | some j =>
    rw [e] at hi
    cases hi
    have : j = i := by
      have h2 := List.getElem?_eq_some_iff.mp e
      obtain ⟨_, h3⟩ := h2
      simpa using h3.symm
    subst this
    refine ⟨.refl, so, ?_⟩
    show RelP K ρ' _ (.int (lo - (j : Int))) _
    rw [show lo - (j : Int) = lo + (j : Nat) * (-1) by omega]
    exact .int _
theorem pair_ok {ρ' : List Addr} {S' : Sto} {H' : Hp} {u v : PV} {p q : V} {t : Addr} (so : StOk K b ρ' S' H') (h : H' t = none) (r1 : RelP K ρ' H' u p) (r2 : RelP K ρ' H' v q) :
    Grow b ρ' ρ' S' S' H' (upd H' t (.tup [p, q])) ∧ StOk K b ρ' S' (upd H' t (.tup [p, q])) ∧ RelP K ρ' (upd H' t (.tup [p, q])) (.tup [u, v]) (.ref t) :=
  ⟨.alloc h, so.alloc h, .tup (SqT.of upd_same) (.cons (r1.mono (.new h) (List.prefix_refl _)) (.cons (r2.mono (.new h) (List.prefix_refl _)) .nil))⟩
theorem enumL_get : ∀ {xs : List PV} {n i : Nat} {it : PV}, (enumL n xs)[i]? = some it → ∃ x, xs[i]? = some x ∧ it = .tup [.int ((n + i : Nat) : Int), x]
  | [], _, _, _, h => by simp [enumL] at h
  | x :: xs, n, 0, it, h => by
    have e : PV.tup [.int (n : Int), x] = it := by simpa [enumL] using h
    exact ⟨x, rfl, by rw [← e]; simp⟩
  | x :: xs, n, i + 1, it, h => by
    obtain ⟨y, h1, h2⟩ := enumL_get (xs := xs) (n := n + 1) (i := i) (it := it) (by simpa [enumL] using h)
    exact ⟨y, by simpa using h1, by rw [h2]; congr 3; omega⟩
theorem enumL_len : ∀ (xs : List PV) (n : Nat), (enumL n xs).length = xs.length
  | [], _ => rfl
  | x :: xs, n => by simp [enumL, enumL_len xs (n + 1)]
theorem walk_en {xs : List PV} {g : List (Nat × List PV)} {p : Addr} (sd : Side K b ρ H xs g p) : WalkOk K b ρ H (enumL 0 xs, g) (Ite K p) := by
  refine ⟨xs.length, fun H' => ∃ vs, SqL K H' p vs ∧ vs.length = xs.length, fun i H' w H2 => ∃ t u, w = .ref t ∧ H' t = none ∧ H2 = upd H' t (.tup [.int (i : Nat), u]) ∧ ∀ vs, SqL K H' p vs → vs[i]? = some u,
    ⟨fun i H' hi ⟨vs, q, hl⟩ => ⟨vs, vs[i], q, by simp [show i < vs.length by omega]⟩, fun H' ⟨vs, q, hl⟩ => ⟨vs, q, by omega⟩, fun i H' w H2 hi ⟨vs, q, hl⟩ y => y⟩, enumL_len xs 0, ?_, ?_⟩
  · intro ρ' S' H' k' pr so st
    obtain ⟨vs, r, q⟩ := sd.2 ρ' S' H' k' pr so st
    exact ⟨vs, q, r.length.symm⟩
  · rintro ρ' S' H' i w it H2 k' pr so st hi ⟨t, u, rfl, ht, rfl, y⟩
    obtain ⟨vs, r, q⟩ := sd.2 ρ' S' H' k' pr so st
    obtain ⟨x, hx, rfl⟩ := enumL_get hi
    obtain ⟨v, h1, h2⟩ := r.get hx
    have e := y vs q
    rw [h1] at e
    cases e
    rw [Nat.zero_add]
    exact pair_ok so ht (.int _) h2
theorem pairs_get {xs ys : List PV} {i : Nat} {it : PV} (h : (pairs xs ys)[i]? = some it) : ∃ x y, xs[i]? = some x ∧ ys[i]? = some y ∧ it = .tup [x, y] := by
  unfold pairs at h
  rw [List.getElem?_map] at h
  cases e : (xs.zip ys)[i]? with
  | none => rw [e] at h; cases h
  | some p =>
    rw [e] at h
    cases h
    obtain ⟨h1, h2⟩ := List.getElem?_zip_eq_some.mp e
    exact ⟨p.1, p.2, h1, h2, rfl⟩
theorem walk_zp {xs ys : List PV} {g g' : List (Nat × List PV)} {p q : Addr} (sd : Side K b ρ H xs g p) (sd' : Side K b ρ H ys g' q) : WalkOk K b ρ H (pairs xs ys, g ++ g') (Itz K p q) := by
  refine ⟨min xs.length ys.length, fun H' => (∃ vs, SqL K H' p vs ∧ vs.length = xs.length) ∧ ∃ vs, SqL K H' q vs ∧ vs.length = ys.length,
    fun i H' w H2 => ∃ t u v, w = .ref t ∧ H' t = none ∧ H2 = upd H' t (.tup [u, v]) ∧ (∀ vs, SqL K H' p vs → vs[i]? = some u) ∧ ∀ vs, SqL K H' q vs → vs[i]? = some v,
    ⟨fun i H' hi ⟨⟨vs, h1, l1⟩, ws, h2, l2⟩ => ?_, fun H' ⟨⟨vs, h1, l1⟩, ws, h2, l2⟩ => ⟨vs, ws, h1, h2, by omega⟩, fun i H' w H2 hi _ y => y⟩, by simp [pairs], ?_, ?_⟩
  · have a1 : i < vs.length := by omega
    have a2 : i < ws.length := by omega
    exact ⟨vs, ws, vs[i], ws[i], h1, h2, by simp [a1], by simp [a2]⟩
  · intro ρ' S' H' k' pr so st
    obtain ⟨s1, s2⟩ := stands_app st
    obtain ⟨vs, r, h⟩ := sd.2 ρ' S' H' k' pr so s1
    obtain ⟨ws, r2, h2⟩ := sd'.2 ρ' S' H' k' pr so s2
    exact ⟨⟨vs, h, r.length.symm⟩, ws, h2, r2.length.symm⟩
  · rintro ρ' S' H' i w it H2 k' pr so st hi ⟨t, u, v, rfl, ht, rfl, y1, y2⟩
    obtain ⟨s1, s2⟩ := stands_app st
    obtain ⟨vs, r, h⟩ := sd.2 ρ' S' H' k' pr so s1
    obtain ⟨ws, r2, h2⟩ := sd'.2 ρ' S' H' k' pr so s2
    obtain ⟨x, z, hx, hz, rfl⟩ := pairs_get hi
    obtain ⟨u', e1, q1⟩ := r.get hx
    obtain ⟨v', e2, q2⟩ := r2.get hz
    have f1 := y1 vs h
    have f2 := y2 ws h2
    rw [e1] at f1
    rw [e2] at f2
    cases f1
    cases f2
    exact pair_ok so ht q1 q2
theorem walk_zt {xs ys : List PV} {vs ws : List V} {p q : Addr} (h : SqT K H p vs) (r : RelPs K ρ H xs vs) (h2 : SqT K H q ws) (r2 : RelPs K ρ H ys ws) : WalkOk K b ρ H (pairs xs ys, []) (RZ.ItzT K p q) := by
  have l1 := r.length
  have l2 := r2.length
  refine ⟨min xs.length ys.length, fun H' => SqT K H' p vs ∧ SqT K H' q ws,
    fun i H' w H2 => ∃ t u v, w = .ref t ∧ H' t = none ∧ H2 = upd H' t (.tup [u, v]) ∧ vs[i]? = some u ∧ ws[i]? = some v,
    ⟨fun i H' hi ⟨h1, h2⟩ => ?_, fun H' ⟨h1, h2⟩ => ⟨vs, ws, h1, h2, by omega⟩, fun i H' w H2 hi ⟨h1, h2⟩ ⟨t, u, v, e1, e2, e3, y1, y2⟩ => ⟨t, u, v, e1, e2, e3, y1 vs h1, y2 ws h2⟩⟩, by simp [pairs], fun ρ' S' H' k pr so st => ⟨k.sqT h, k.sqT h2⟩, ?_⟩
  · have a1 : i < vs.length := by omega
    have a2 : i < ws.length := by omega
    exact ⟨vs, ws, vs[i], ws[i], h1, h2, by simp [a1], by simp [a2]⟩
  · rintro ρ' S' H' i w it H2 k' pr so st hi ⟨t, u, v, rfl, ht, rfl, y1, y2⟩
    obtain ⟨x, z, hx, hz, rfl⟩ := pairs_get hi
    obtain ⟨u', e1, q1⟩ := r.get hx
    obtain ⟨v', e2, q2⟩ := r2.get hz
    rw [e1] at y1
    rw [e2] at y2
    cases y1
    cases y2
    exact pair_ok so ht (q1.mono k' pr) (q2.mono k' pr)
end
theorem i_seq (ha : PE X x (tE X.K TX b none W (ev C b a))) : PI X tg x (tI X.K TX b W (evi C b (.seq a))) := by
  refine ⟨fun pins s τ H R I hq => (pi_seq ha).run pins s τ H R I ?_⟩
  obtain ⟨ρ, σ, S, so, eo, h⟩ := hq
  unfold evi at h
  refine ⟨ρ, σ, S, so, eo, At.mono (At.bd (rel := relE X.K) h) fun w H1 ⟨ρ1, v, S1, _, g1, so1, r1, h1⟩ => ?_⟩
  obtain ⟨k, e, h2⟩ := At.opt h1
  by_cases nt : isTup v = true
  · cases v with
    | tup xs =>
      cases e
      obtain ⟨p, vs, rfl, hq, rs⟩ := RelP.of_tup r1
      exact ⟨p, rfl, .inr ⟨⟨vs, hq⟩, At.ok (rel := WalkOk X.K b) so1 h2 (walk_tp hq rs)⟩⟩
    | _ => cases nt
  · obtain ⟨p, rfl, sd⟩ := side_ok so1 r1 e (by simpa using nt)
    obtain ⟨vs, rs, hs⟩ := sd.1
    exact ⟨p, rfl, .inl ⟨⟨vs, hs⟩, At.ok (rel := WalkOk X.K b) so1 h2 (walk_lst sd)⟩⟩
theorem small_ok {i : Int} (h : small i = true) : -(2 ^ 62) ≤ i ∧ i < 2 ^ 62 := by
  have h' := Bool.and_eq_true_iff.mp h
  exact ⟨of_decide_eq_true h'.1, of_decide_eq_true h'.2⟩
theorem i_rng1 {p : Pos} (hg : Gl X "range") (hm : X.mg "range" = none) (ha : PE X x (tE X.K TX b none W (ev C b a))) (hs : starEach [x] X.env = [(false, eval x X.env)]) : PI X tg (.Call (.Name "range" p) [x] [] pos) (tI X.K TX b W (evi C b (.rng1 a))) := by
  refine ⟨fun pins s τ H R I hq => (pi_range1 hg hm (pa_cons ha pa_nil hs) hs).run pins s τ H R I ?_⟩
  obtain ⟨ρ, σ, S, so, eo, h⟩ := hq
  unfold evi at h
  refine ⟨ρ, σ, S, so, eo, At.mono (At.bd (rel := relE X.K) h) fun w H1 ⟨ρ1, v, S1, _, g1, so1, r1, h1⟩ => ?_⟩
  split at h1
  · split at h1
    · rename_i hs
      obtain ⟨s1, s2⟩ := small_ok hs
      obtain rfl := RelP.of_int r1
      exact ⟨_, rfl, s1, s2, At.ok (rel := WalkOk X.K b) so1 h1 walk_rng⟩
    · exact h1.elim
  · exact h1.elim
theorem i_rng2 {p : Pos} (hg : Gl X "range") (hm : X.mg "range" = none) (ha : PE X x (tE X.K TX b none W (ev C b a))) (hb : PE X y (tE X.K TX b none W (ev C b c))) (hs : ∀ es, starEach (x :: es) X.env = (false, eval x X.env) :: starEach es X.env)
    (hs2 : starEach [y] X.env = [(false, eval y X.env)]) : PI X tg (.Call (.Name "range" p) [x, y] [] pos) (tI X.K TX b W (evi C b (.rng2 a c))) := by
  refine ⟨fun pins s τ H R I hq => (pi_range2 hg hm (pa_cons ha (pa_cons hb pa_nil hs2) (hs _)) (by rw [hs, hs2]) hs2).run pins s τ H R I ?_⟩
  obtain ⟨ρ, σ, S, so, eo, h⟩ := hq
  unfold evi at h
  refine ⟨ρ, σ, S, so, eo, At.mono (At.bd (rel := relE X.K) h) fun w H1 ⟨ρ1, v, S1, _, g1, so1, r1, h1⟩ => ?_⟩
  refine ⟨ρ1, σ, S1, so1, eo.grow g1, At.mono (At.bd (rel := relE X.K) h1) fun w2 H2 ⟨ρ2, u, S2, _, g2, so2, r2, h2⟩ => ?_⟩
  split at h2
  · split at h2
    · rename_i hs
      have hs' := Bool.and_eq_true_iff.mp hs
      obtain ⟨s1, s2⟩ := small_ok hs'.1
      obtain ⟨s3, s4⟩ := small_ok hs'.2
      obtain rfl := RelP.of_int r1
      obtain rfl := RelP.of_int r2
      exact ⟨_, _, rfl, ⟨s1, s2, s3, s4⟩, At.ok (rel := WalkOk X.K b) so2 h2 walk_rng⟩
    · exact h2.elim
  · exact h2.elim
theorem i_zip {elts : List Expr} {kk : Nat} {p tpos : Pos} (hg : Gl X "zip") (hm : X.mg "zip" = none) (ha : PE X x (tE X.K TX b none W (ev C b a))) (hb : PE X y (tE X.K TX b none W (ev C b c))) (hs : ∀ es, starEach (x :: es) X.env = (false, eval x X.env) :: starEach es X.env)
    (hs2 : starEach [y] X.env = [(false, eval y X.env)]) : PI X (.Tuple elts kk tpos) (.Call (.Name "zip" p) [x, y] [] pos) (tI X.K TX b W (evi C b (.zip a c))) := by
  refine ⟨fun pins s τ H R I hq => (RZ.pi_zipA hg hm (pa_cons ha (pa_cons hb pa_nil hs2) (hs _)) (hs _) (by rw [hs2]; rfl)).run pins s τ H R I ?_⟩
  obtain ⟨ρ, σ, S, so, eo, h⟩ := hq
  unfold evi at h
  refine ⟨ρ, σ, S, so, eo, At.mono (At.bd (rel := relE X.K) h) fun w H1 ⟨ρ1, v, S1, _, g1, so1, r1, h1⟩ => ?_⟩
  refine ⟨ρ1, σ, S1, so1, eo.grow g1, At.mono (At.bd (rel := relE X.K) h1) fun w2 H2 ⟨ρ2, u, S2, _, g2, so2, r2, h2⟩ => ?_⟩
  have r1' := RelP.mono g2.keep g2.pre r1
  obtain ⟨k, e, h3⟩ := At.opt h2
  unfold zipV at e
  split at e
  · rename_i t1 t2
    split at e
    · rename_i wa wb f1 f2
      cases e
      cases v with
      | tup xs =>
        cases u with
        | tup ys =>
          cases f1
          cases f2
          obtain ⟨p1, vs, rfl, q1, rs1⟩ := r1'.of_tup
          obtain ⟨p2, ws, rfl, q2, rs2⟩ := RelP.of_tup r2
          exact ⟨p1, p2, vs, ws, rfl, .inr ⟨q1, q2, At.ok (rel := WalkOk X.K b) so2 h3 (walk_zt q1 rs1 q2 rs2)⟩⟩
        | _ => cases t2
      | _ => cases t1
    · cases e
  · rename_i t1 t2
    split at e
    · rename_i wa wb f1 f2
      cases e
      obtain ⟨p1, rfl, sd⟩ := side_ok so2 r1' f1 t1
      obtain ⟨p2, rfl, sd'⟩ := side_ok so2 r2 f2 t2
      obtain ⟨vs, rs1, q1⟩ := sd.1
      obtain ⟨ws, rs2, q2⟩ := sd'.1
      exact ⟨p1, p2, vs, ws, rfl, .inl ⟨q1, q2, At.ok (rel := WalkOk X.K b) so2 h3 (walk_zp sd sd')⟩⟩
    · cases e
  · cases e
theorem i_rng3 {p p2 p3 : Pos} {k3 : Nat} (hg : Gl X "range") (hm : X.mg "range" = none) (ha : PE X x (tE X.K TX b none W (ev C b a))) (hb : PE X y (tE X.K TX b none W (ev C b c))) (hs : ∀ es, starEach (x :: es) X.env = (false, eval x X.env) :: starEach es X.env)
    (hs2 : ∀ es, starEach (y :: es) X.env = (false, eval y X.env) :: starEach es X.env) : PI X tg (.Call (.Name "range" p) [x, y, .UnaryOp .USub (.Constant (.int 1) k3 p3) p2] [] pos) (tI X.K TX b W (evi C b (.rng3 a c))) := by
  have pm : PE X (.UnaryOp .USub (.Constant (.int 1) k3 p3) p2) (tC (.int (-1))) := PE.weak (pe_un un_neg pe_int) fun τ H Q q => ⟨1, rfl, q⟩
  refine ⟨fun pins s τ H R I hq => (pi_range3 hg hm (pa_cons ha (pa_cons hb (pa_cons pm pa_nil) (hs2 _)) (hs _)) (hs _) (by rw [hs2]; rfl)).run pins s τ H R I ?_⟩
  obtain ⟨ρ, σ, S, so, eo, h⟩ := hq
  unfold evi at h
  refine ⟨ρ, σ, S, so, eo, At.mono (At.bd (rel := relE X.K) h) fun w H1 ⟨ρ1, v, S1, _, g1, so1, r1, h1⟩ => ?_⟩
  refine ⟨ρ1, σ, S1, so1, eo.grow g1, At.mono (At.bd (rel := relE X.K) h1) fun w2 H2 ⟨ρ2, u, S2, _, g2, so2, r2, h2⟩ => ?_⟩
  split at h2
  · split at h2
    · rename_i hs
      have hs' := Bool.and_eq_true_iff.mp hs
      obtain ⟨s1, s2⟩ := small_ok hs'.1
      obtain ⟨s3, s4⟩ := small_ok hs'.2
      obtain rfl := RelP.of_int r1
      obtain rfl := RelP.of_int r2
      exact ⟨_, _, _, _, rfl, .neg s1 s2 s3 s4, At.ok (rel := WalkOk X.K b) so2 h2 walk_rngD⟩
    · exact h2.elim
  · exact h2.elim
theorem i_enum {elts : List Expr} {kk : Nat} {p tpos : Pos} (hg : Gl X "enumerate") (hm : X.mg "enumerate" = none) (ha : PE X x (tE X.K TX b none W (ev C b a))) (hs : starEach [x] X.env = [(false, eval x X.env)]) :
    PI X (.Tuple elts kk tpos) (.Call (.Name "enumerate" p) [x] [] pos) (tI X.K TX b W (evi C b (.enum a))) := by
  refine ⟨fun pins s τ H R I hq => (pi_enum hg hm (pa_cons ha pa_nil hs) hs).run pins s τ H R I ?_⟩
  obtain ⟨ρ, σ, S, so, eo, h⟩ := hq
  unfold evi at h
  refine ⟨ρ, σ, S, so, eo, At.mono (At.bd (rel := relE X.K) h) fun w H1 ⟨ρ1, v, S1, _, g1, so1, r1, h1⟩ => ?_⟩
  obtain ⟨k, e, h2⟩ := At.opt h1
  unfold enumV at e
  split at e
  · rename_i wv nt e1
    cases e
    obtain ⟨p, rfl, sd⟩ := side_ok so1 r1 e1 nt
    obtain ⟨vs, rs, q⟩ := sd.1
    exact ⟨p, vs, rfl, q, At.ok (rel := WalkOk X.K b) so1 h2 (walk_en sd)⟩
  · cases e
end
end MP
end
section
set_option Elab.async false
set_option linter.all false
set_option maxRecDepth 100000
set_option maxHeartbeats 1000000
/-! MPSound10: comprehensions, the held exception; every expression that is looked at runs like its MP. -/
namespace MP
open PySem PySem.Spec PyProof.Rows L2
section
variable [RT] {T : Tab} {TX : Exc} {C : Nat → List PV → Sto → R PV} {X : Cx} {W : WX} {N : List Str} {sc : Scope} {b : Nat} {cl : Bool} {ex : Option Held}
variable {x y z tg : Expr} {a c d : E} {pos : Pos}
/-! ### an exception's attribute, isinstance of it -/
theorem zip_lookup {K : PySem.W.Frag} {ρ : List Addr} {H : Hp} : ∀ {fs : List Str} {as : List PV} {ws : List V} {j : Nat} {f : Str} {v : PV}, fs.Nodup → RelPs K ρ H as ws → fs[j]? = some f → as[j]? = some v → ∃ w, (fs.zip ws).lookup f = some w ∧ RelP K ρ H v w
  | [], _, _, _, _, _, _, _, e, _ => by simp at e
  | _ :: _, [], _, _, _, _, _, .nil, _, e => by simp at e
  | g :: fs, u :: as, w :: ws, 0, f, v, _, .cons r _, e1, e2 => by
    have e1 : g = f := by simpa using e1
    have e2 : u = v := by simpa using e2
    subst e1
    subst e2
    exact ⟨w, by simp [List.lookup], r⟩
  | g :: fs, u :: as, w :: ws, j + 1, f, v, nd, .cons _ t, e1, e2 => by
    have nd' := List.nodup_cons.mp nd
    have e1 : fs[j]? = some f := by simpa using e1
    obtain ⟨w', h1, h2⟩ := zip_lookup nd'.2 t e1 (by simpa using e2)
    refine ⟨w', ?_, h2⟩
    have ne : (f == g) = false := by
      have : f ≠ g := fun z => nd'.1 (by rw [← z]; exact List.mem_of_getElem? e1)
      simpa using this
    rw [List.zip_cons_cons, List.lookup_cons, ne]
    exact h1
theorem s_eat (cx : Ctx T TX C X W N sc cl ex) {i j k : Nat} {n f : Str} {p : Pos} {kc : Nat} (hh : hxOf ex = some (k, kc)) (hk : k = i) (h1 : atB N i n = true) (h2 : visB sc n = true) (h3 : nameB n = true) (hf : (T.cls[kc]?.bind fun p => p.2.1[j]?) = some f)
    (hnd : ∀ p, T.cls[kc]? = some p → p.2.1.Nodup) : PE X (.Attribute (.Name n p) f pos) (tE X.K TX b ex W (ev C b (.eat i j))) := by
  obtain ⟨q, hq, e1, e2⟩ : ∃ q, ex = some q ∧ q.i = k ∧ q.c = kc := by
    cases ex with
    | none => cases hh
    | some q => have e : (q.i, q.c) = (k, kc) := by simpa [hxOf] using hh
                exact ⟨q, rfl, congrArg Prod.fst e, congrArg Prod.snd e⟩
  subst hk
  subst e1
  subst e2
  obtain ⟨oe, pn, calm, ⟨Y, hY⟩, hz, ⟨vs, hv⟩, tab⟩ := cx.held q hq
  cases hp : T.cls[q.c]? with
  | none => rw [hp] at hf; cases hf
  | some pp =>
    rw [hp] at hf
    have hf : pp.2.1[j]? = some f := hf
    obtain ⟨t1, _⟩ := tab pp hp
    obtain ⟨ga, gg, sb, hd, nf⟩ := t1 f (List.mem_of_getElem? hf)
    have at_ := cx.attrs q.c pp hp
    have nd := hnd pp hp
    obtain ⟨n1, n2, _⟩ := nameB_ok h3
    have pn' : PE X (.Name n p) (tVar q.i) := pe_var (by rw [cx.names]; exact atB_ok h1) (by rw [cx.scope]; exact visB_ok h2) n1 n2
    refine ⟨fun pins s τ H Q I ht => ?_⟩
    obtain ⟨ρ, σ, S, so, eo, h⟩ := ht
    obtain ⟨as, s1, s2, x0, x1, x2, x3⟩ := eo.held q hq
    unfold ev at h
    rw [s1] at h
    obtain ⟨v, ev', h⟩ := At.opt (show At _ _ _ _ _ _ _ _ (MP.opt as[j]? S) Q from h)
    refine attr_of (by rfl) (thn (pn'.run pins s τ H (fun w H1 => w = .ref q.a ∧ H1 = H) I ⟨_, s2, rfl, rfl⟩) fun u s1' ⟨w, H1, I1, rw', e3, e4⟩ => ?_)
    subst e3
    subst e4
    obtain rfl : u = Value.ref q.a := rw'
    rcases x3 with ⟨z, _⟩ | ⟨_, dd, fs, ws, e5, e6, el, r⟩
    · rw [at_] at z
      rw [z] at hf
      simp at hf
    · rw [at_] at el
      obtain ⟨w, l1, l2⟩ := zip_lookup nd r hf ev'
      rw [← el] at l1
      obtain ⟨mA, ns, hr⟩ : ObjOk X.prog X.w H1 s1'.heap dd (.xd fs) := I1.hok dd _ e6
      obtain ⟨od, ho, hl⟩ := lookIn_ns ns
      obtain ⟨u, hu, ru⟩ := RelO.some_of (v := w) (o := mA f) (by rw [← l1]; exact hr f)
      have pin : s1'.heap.get? q.a = some oe := by
        have hm : (q.a, oe) ∈ X.pn := by rw [hY]; exact List.mem_cons_self
        exact (I1.pin (q.a, oe) (List.mem_append_left _ hm)).1
      have J : PySem.W.InstAt s1'.heap q.a oe (TX.at_ q.c) (some od) := ⟨pin, by rw [hz.1, x1], by unfold PySem.W.notCls; rw [hv] <;> rfl, by rw [hz.2, e5]; exact ho⟩
      exact HandSPX.exc_get I1.kIn J ga gg sb (PySem.W.findObj_own hd nf rfl (by rw [hl, hu])) (handed_of ru) ⟨w, H1, I1.tok _, ru, At.ok so h l2⟩
/-- isinstance of an exception that is held, with a dict or without -/
def rIsD (K : PySem.W.Frag) (D a : Addr) (d : Option Addr) : List V → Hp → VK → Prop := fun xs H Q => ∃ (c : V) (cv : Value) (b : Bool), xs = [.ref a, c] ∧ (∀ u, RelV c u → u = cv) ∧ PySem.W.kitOne K (.ref D) cv = some b ∧ (∀ dd, d = some dd → ∃ fs, H dd = some (.xd fs)) ∧ Q (.bl b) H
theorem call_isD {X : Cx} {a D : Addr} {d : Option Addr} {oe : Obj} {pn : List (Addr × Obj)} (C : ExcC X.K D) (hz : Zc (.ref D) d oe) (hf : ∃ vs, oe.data = .fields vs) : CallR (X.suite a ((a, oe) :: pn)) (.builtin "isinstance") (rIsD X.K D a d) := by
  rintro pins s σ H xs us Q I r ⟨c, cv, b, rfl, hcv, e, hd, q⟩
  obtain ⟨u1, u2, rfl, r1, r2⟩ : ∃ u1 u2, us = [u1, u2] ∧ RelV (.ref a) u1 ∧ RelV c u2 := by
    cases r with
    | cons x t => cases t with
      | cons y t => cases t; exact ⟨_, _, rfl, x, y⟩
  obtain rfl : u1 = Value.ref a := r1
  obtain rfl := hcv _ r2
  have pin := (I.pin (a, oe) (List.mem_append.mpr (.inl List.mem_cons_self))).1
  obtain ⟨fv, hfv⟩ := hf
  have nc : PySem.W.notCls oe := by unfold PySem.W.notCls; rw [hfv] <;> rfl
  obtain ⟨cd, hcd⟩ : ∃ cd, PySem.W.clsIn X.K D = some cd := by
    cases q : PySem.W.clsIn X.K D with
    | none => have z := C.hd; unfold PySem.W.hasDictIn at z; rw [q] at z; cases z
    | some cd => exact ⟨cd, rfl⟩
  have hc : (PySem.W.clsIn X.K D).isSome = true := by rw [hcd]; rfl
  have done : ∀ od, PySem.W.InstAt s.heap a oe D od → wpAny (model X.prog X.w) (X.suite a ((a, oe) :: pn)).A (call (.builtin "isinstance") [.ref a, u2]) (EP (X.suite a ((a, oe) :: pn)) pins σ Q) (X.suite a ((a, oe) :: pn)).xe s := fun od J =>
    PySem.W.kia_one (PySem.W.kitx_exc hc C.hg C.hk C.hs C.ha C.hn C.ht C.hm) I.kIn J e (fun z => nomatch z) fun tk => ⟨.bl b, H, I.kept (t' := tk) fun _ _ z => z, rfl, q⟩
  cases d with
  | none => exact done none ⟨pin, hz.1, nc, by rw [hz.2]; trivial⟩
  | some dd =>
    obtain ⟨fs, hx⟩ := hd dd rfl
    obtain ⟨mA, ns, hr⟩ : ObjOk X.prog X.w H s.heap dd (.xd fs) := I.hok dd _ hx
    obtain ⟨od, ho, _⟩ := lookIn_ns ns
    exact done (some od) ⟨pin, hz.1, nc, by rw [hz.2]; exact ho⟩
theorem s_eisi (cx : Ctx T TX C X W N sc cl ex) {i k kc : Nat} {n m g : Str} {p p2 p3 : Pos} (hh : hxOf ex = some (k, kc)) (hk : k = i) (h1 : atB N i n = true) (h2 : visB sc n = true) (h3 : nameB n = true) (hm : gloB sc m = true) (em : m = "isinstance") (bm : T.bi.contains m = true)
    (hg : gloB sc g = true) (hc : ((T.cls[kc]?).any fun p => p.2.2.contains g) = true) : PE X (.Call (.Name m p) [.Name n p2, .Name g p3] [] pos) (tE X.K TX b ex W (ev C b (.eisi i))) := by
  obtain ⟨q, hq, e1, e2⟩ : ∃ q, ex = some q ∧ q.i = k ∧ q.c = kc := by
    cases ex with
    | none => cases hh
    | some q => have e : (q.i, q.c) = (k, kc) := by simpa [hxOf] using hh
                exact ⟨q, rfl, congrArg Prod.fst e, congrArg Prod.snd e⟩
  subst hk
  subst e1
  subst e2
  obtain ⟨oe, pn, calm, ⟨Y, hY⟩, hz, hv, tab⟩ := cx.held q hq
  cases hp : T.cls[q.c]? with
  | none => rw [hp] at hc; simp at hc
  | some pp =>
    rw [hp] at hc
    have hc : pp.2.2.contains g = true := by simpa using hc
    obtain ⟨_, t2⟩ := tab pp hp
    obtain ⟨g1, g2, _, g4⟩ := cx.gl hm
    obtain ⟨k1, k2, _, k4⟩ := cx.gl hg
    subst em
    have mn : X.mg "isinstance" = none := (cx.free _ bm).2 (by decide +kernel)
    obtain ⟨n1, n2, _⟩ := nameB_ok h3
    have pn' : PE X (.Name n p2) (tVar q.i) := pe_var (by rw [cx.names]; exact atB_ok h1) (by rw [cx.scope]; exact visB_ok h2) n1 n2
    refine ⟨fun pins s τ H Q I ht => ?_⟩
    obtain ⟨ρ, σ, S, so, eo, h⟩ := ht
    obtain ⟨as, s1, s2, x0, x1, x2, x3⟩ := eo.held q hq
    unfold ev at h
    rw [s1] at h
    have h : At X.K TX b _ (relE X.K) ρ S H (.ok (.bl true) S) Q := h
    obtain ⟨EC, sup⟩ := t2
    have at_ := cx.attrs q.c pp hp
    have xdd : ∀ dd, q.d = some dd → ∃ fs, H dd = some (.xd fs) := fun dd e => by
      rcases x3 with ⟨_, z⟩ | ⟨_, d2, fs, _, z, hx, _⟩
      · rw [z] at e; cases e
      · rw [z] at e; cases e; exact ⟨fs, hx⟩
    obtain ⟨cv, u, hu, ru, un, kit⟩ := sup g hc
    have pg' : PE X (.Name g p3) (tC cv) := by
      rcases hu with hu | ⟨hu, hb, _⟩
      · exact pe_glob k1 hu ru k2
      · exact pe_bltn k1 hu hb ru k4 k2
    have ci : CallR X (.builtin "isinstance") (rIsD X.K (TX.at_ q.c) q.a q.d) := by
      have hz' : Zc (.ref (TX.at_ q.c)) q.d oe := by rw [← x1]; exact hz
      have z := call_isD (X := Y) (a := q.a) (D := TX.at_ q.c) (d := q.d) (oe := oe) (pn := pn) (by have e := EC; rw [hY] at e; exact e) hz' hv
      rw [hY]
      exact z
    exact (pe_callB ci g1 mn boot_isinstance (pa_cons pn' (pa_cons pg' pa_nil)) g4 g2).run pins s τ H Q I ⟨_, s2, cv, u, true, rfl, un, kit, xdd, At.ok (rel := relE X.K) so h (.bl true)⟩
/-! ### comprehensions -/
/-- a list that no number tells of, made meanwhile -/
theorem Grow.aside {ρ ρ' : List Addr} {S S' : Sto} {H H' : Hp} {D : Addr} {vs : List V} {o : HO} (g : Grow b ρ ρ' S S' H H') (hD : H D = none) (h : H' D = some (.lst vs)) : Grow b ρ ρ' S S' H (upd H' D o) :=
  ⟨g.keep.trans (.wlst h), g.pre, g.len, fun a u e n => let ⟨e1, n1⟩ := g.frame a u e n; ⟨by rw [upd_ne (ne_of_none e hD)]; exact e1, n1⟩, g.und⟩
theorem StOk.aside {K : PySem.W.Frag} {ρ : List Addr} {S : Sto} {H : Hp} {D : Addr} {vs : List V} {o : HO} (so : StOk K b ρ S H) (nd : D ∉ ρ) (h : H D = some (.lst vs)) : StOk K b ρ S (upd H D o) :=
  ⟨so.len, fun k c a q e => (so.cell k c a q e).keep (.wlst h) (List.prefix_refl _) fun _ u _ z => by rw [upd_ne fun (z' : a = D) => nd (by rw [← z']; exact List.mem_of_getElem? e)]; exact z, so.inj, so.base⟩
/-- it becomes a cell -/
theorem StOk.adopt {K : PySem.W.Frag} {ρ : List Addr} {S : Sto} {H : Hp} {D : Addr} {xs : List PV} {vs : List V} (so : StOk K b ρ S H) (nd : D ∉ ρ) (h : H D = some (.lst vs)) (r : RelPs K ρ H xs vs) : StOk K b (ρ ++ [D]) (S.push (.lst xs)) H := by
  have pp : ρ <+: ρ ++ [D] := List.prefix_append _ _
  have L := so.len
  have gc : ∀ {k : Nat} {d : Cell}, (S.push (.lst xs)).cells[k]? = some d → (k < S.cells.length ∧ S.cells[k]? = some d) ∨ (k = S.cells.length ∧ d = .lst xs) := fun {k d} q => by
    rcases get_snoc (show (S.cells ++ [.lst xs])[k]? = some d from q) with q | q
    · exact .inl ⟨(List.getElem?_eq_some_iff.mp q).1, q⟩
    · exact .inr q
  have ga : ∀ {k : Nat} {a : Addr}, (ρ ++ [D])[k]? = some a → (k < S.cells.length ∧ ρ[k]? = some a) ∨ (k = S.cells.length ∧ a = D) := fun {k a} e => by
    rcases get_snoc e with e | ⟨e, f⟩
    · have := (List.getElem?_eq_some_iff.mp e).1
      exact .inl ⟨by omega, e⟩
    · exact .inr ⟨by omega, f⟩
  have old : ∀ {k : Nat} {a : Addr}, ρ[k]? = some a → a ≠ D := fun e z => nd (by rw [← z]; exact List.mem_of_getElem? e)
  refine ⟨by simp [Sto.push, so.len], fun k d a q e => ?_, fun j k a d d' e1 e2 q1 q2 n1 n2 => ?_, by have := so.base; simp [Sto.push]; omega⟩
  · rcases gc q with ⟨l1, q⟩ | ⟨l1, hd⟩ <;> rcases ga e with ⟨l2, e⟩ | ⟨l2, ha⟩
    · exact (so.cell k d a q e).keep (.refl _) pp fun _ u _ z => z
    · omega
    · omega
    · rw [hd, ha]; exact ⟨vs, r.mono (.refl _) pp, h⟩
  · rcases gc q1 with ⟨l1, q1⟩ | ⟨l1, hd1⟩ <;> rcases gc q2 with ⟨l2, q2⟩ | ⟨l2, hd2⟩ <;> rcases ga e1 with ⟨m1, f1⟩ | ⟨m1, f1⟩ <;> rcases ga e2 with ⟨m2, f2⟩ | ⟨m2, f2⟩ <;> try omega
    · exact so.inj j k a d d' f1 f2 q1 q2 n1 n2
    · exact absurd f2 (old f1)
    · exact absurd f1 (old f2)
theorem Grow.adopt {ρ ρ' : List Addr} {S S' : Sto} {H H' : Hp} {D : Addr} {c : Cell} (g : Grow b ρ ρ' S S' H H') (hb : b ≤ S'.cells.length) (hD : H D = none) : Grow b ρ (ρ' ++ [D]) S (S'.push c) H H' :=
  ⟨g.keep, g.pre.trans (List.prefix_append _ _), Nat.le_trans g.len (by simp [Sto.push]), fun a u e n => let ⟨e1, n1⟩ := g.frame a u e n; ⟨e1, fun m => (List.mem_append.mp m).elim n1 fun z => ne_of_none e hD (List.mem_singleton.mp z)⟩, fun e => by
    obtain ⟨h1, h2⟩ := g.und e
    refine ⟨h1, fun n hn u k d hk q => ?_⟩
    rw [show (S'.push c).cells = S'.cells ++ [c] from rfl, List.getElem?_append_left (by omega)] at q
    exact h2 n hn u k d hk q⟩
theorem noExc_At {α β : Type} {K : PySem.W.Frag} {E E' : XK} {rel : List Addr → Hp → α → β → Prop} {ρ : List Addr} {S : Sto} {H : Hp} {r : R α} {Q : β → Hp → Prop} (h : At K TX b E rel ρ S H (noExc r) Q) : At K TX b E' rel ρ S H r Q := by
  cases r with
  | ok v S' => exact h
  | exc c as S' => exact h.elim
  | bad => exact h
/-- the turns' reading: from any place of the walk -/
theorem At.noE {α β : Type} {K : PySem.W.Frag} {E E' : XK} {rel : List Addr → Hp → α → β → Prop} {ρ : List Addr} {S : Sto} {H : Hp} {r : R α} {Q : β → Hp → Prop} (h : At K TX b (fun _ _ _ => False) rel ρ S H r Q) : At K TX b E rel ρ S H r Q := by
  cases r with
  | ok v S' => exact h
  | exc c as S' => exact fun ρ' H' cls d g so x => (h ρ' H' cls d g so x).elim
  | bad => exact h
end
end MP
end
section
set_option Elab.async false
set_option linter.all false
set_option maxRecDepth 100000
set_option maxHeartbeats 1000000
/-! MPSound11: comprehensions; every expression that is looked at runs like its MP. -/
namespace MP
open PySem PySem.Spec PyProof.Rows L2
section
variable [RT] {T : Tab} {TX : Exc} {C : Nat → List PV → Sto → R PV} {X : Cx} {W : WX} {N : List Str} {sc : Scope} {b : Nat} {cl : Bool} {ex : Option Held}
variable {x y z tg : Expr} {a c d : E} {pos : Pos}
abbrev noW : WX := fun _ _ _ _ => False
theorem Ctx.blk (cx : Ctx T TX C X W N sc true none) (s : Shared) (H : Hp) (scope : Scope) (A : Addr) (cs : List (Str × Addr)) (fp : List Addr) : Ctx T TX C (X.blk s H scope (compEnvC scope cs A X.env) fp) noW N (relS scope sc) true none :=
  ⟨by rw [← cx.scope]; rfl, cx.names, cx.nd, takes0, cx.calm, cx.unit, cx.free, cx.glb, ⟨cx.wide.depth, cx.wide.seer, cx.wide.tree, cx.wide.top⟩, cx.rcs, cx.kit, cx.inits, cx.meths, cx.xin, cx.fns, cx.num, cx.exc, cx.exm, cx.attrs, fun x hx => by cases hx⟩
theorem wipe_env {K : PySem.W.Frag} {ρ : List Addr} {H : Hp} {σ : Env} {τ : L2.St} (e : EnvOk K TX none ρ H σ τ) (own : List Nat) : EnvOk K TX none ρ H (MP.wipe σ own) (L2.wipe τ own) := e.wipe own
/-- a target stores nowhere but at its own names -/
theorem own_len (τ : L2.St) (own : List Nat) : (L2.wipe τ own).length = τ.length := wipe_length τ own
/-- slots set at places of own are forgotten by wipe -/
theorem wipe_set {τ : L2.St} {own : List Nat} {i : Nat} {o : Option V} (h : i ∈ own) : L2.wipe (τ.set i o) own = L2.wipe τ own := by
  induction own with
  | nil => cases h
  | cons v vs ih =>
    show (L2.wipe (τ.set i o) vs).set v none = (L2.wipe τ vs).set v none
    rcases List.mem_cons.mp h with rfl | h
    · by_cases hm : i ∈ vs
      · rw [ih hm]
      · have e : ∀ (us : List Nat), i ∉ us → ∀ τ : L2.St, L2.wipe (τ.set i o) us = (L2.wipe τ us).set i o := by
          intro us
          induction us with
          | nil => intro _ τ; rfl
          | cons u us ihu =>
            intro hn τ
            have hn' : i ≠ u ∧ i ∉ us := ⟨fun z => hn (by rw [z]; exact List.mem_cons_self), fun z => hn (List.mem_cons_of_mem _ z)⟩
            show (L2.wipe (τ.set i o) us).set u none = ((L2.wipe τ us).set u none).set i o
            rw [ihu hn'.2 τ, List.set_comm _ _ hn'.1]
        rw [e vs hm, List.set_set]
    · rw [ih h]
theorem wipe_wipe {τ : L2.St} {own : List Nat} : L2.wipe (L2.wipe τ own) own = L2.wipe τ own := by
  have e : ∀ us : List Nat, (∀ u ∈ us, u ∈ own) → L2.wipe (L2.wipe τ us) own = L2.wipe τ own := by
    intro us
    induction us with
    | nil => intro _; rfl
    | cons u us ih =>
      intro h
      show L2.wipe ((L2.wipe τ us).set u none) own = _
      rw [wipe_set (h u List.mem_cons_self), ih fun v hv => h v (List.mem_cons_of_mem _ hv)]
  exact e own fun u h => h
mutual
theorem g_own {X : Cx} (hc : X.calm = true) (hN : X.N = N) (hd : N.Nodup) (hsc : X.env.scope = sc) {lo : Bool} (hf : lo = false → ∀ x, sc.names.lookup x = some .cell → X.fn x = true) {own : List Nat} : ∀ {t : Tg} {tg : Expr}, tgB N lo sc t tg = true → (∀ i ∈ t.slots, i ∈ own) →
    PG X tg (fun v τ H Q => ∃ ρ σ σ' u, EnvOk X.K TX none ρ H σ τ ∧ RelP X.K ρ H u v ∧ bindT t u σ = some σ' ∧ ∀ τ', EnvOk X.K TX none ρ H σ' τ' → L2.wipe τ' own = L2.wipe τ own → Q τ' H)
  | .name i, tg, h, hi => by
    unfold tgB at h
    split at h
    · rename_i n p
      have h' := Bool.and_eq_true_iff.mp h
      have hl : Loc X.env.scope n ∧ (X.fn n = true ∨ X.env.scope.names.lookup n = some .local) := by
        rw [hsc]
        have h2 := h'.2
        cases lo with
        | true => exact ⟨.inl (kindB_ok h2), .inr (kindB_ok h2)⟩
        | false =>
          have h3 := locB_ok (sc := sc) (x := n) h2
          exact ⟨h3, h3.elim .inr fun e => .inl (hf rfl n e)⟩
      have g := pg_name (X := X) (i := i) (x := n) (pos := p) (by rw [hN]; exact hd) (by rw [hN]; exact atB_ok h'.1) hl.1 hl.2
      refine ⟨fun pins s τ H v u Q I r hq => g.run pins s τ H v u Q I r ?_⟩
      obtain ⟨ρ, σ, σ', w, eo, rp, e, k⟩ := hq
      unfold bindT at e
      cases e
      exact k _ (eo.set i rp) (wipe_set (hi i (by simp [Tg.slots])))
    · cases h
  | .tup ts, tg, h, hi => by
    unfold tgB at h
    split at h
    · rename_i es k p
      have ih := gs_own hc hN hd hsc hf (own := own) h (by simpa [Tg.slots] using hi)
      refine ⟨fun pins s τ H v u Q I r hq => ?_⟩
      obtain ⟨ρ, σ, σ', w, eo, rp, e, kk⟩ := hq
      unfold bindT at e
      cases w with
      | tup xs =>
        obtain ⟨a, vs, rfl, hq, rs⟩ := rp.of_tup
        have e' : bindTs ts xs σ = some σ' := e
        refine (pg_tup hc ih.1 rfl ih.2.1).run pins s τ H _ u Q I r ⟨a, vs, rfl, hq, ?_, ρ, σ, σ', xs, eo, rs, e', kk⟩
        rw [← rs.length]
        exact ih.2.2 σ σ' xs e'
      | lst xs =>
        obtain ⟨a, vs, rfl, hq, rs⟩ := rp.of_lst
        have e' : bindTs ts xs σ = some σ' := e
        refine (pg_unl hc ih.1 rfl ih.2.1).run pins s τ H _ u Q I r ⟨a, vs, rfl, hq.sq, ?_, ρ, σ, σ', xs, eo, rs, e', kk⟩
        rw [← rs.length]
        exact ih.2.2 σ σ' xs e'
      | _ => cases e
    · cases h
theorem gs_own {X : Cx} (hc : X.calm = true) (hN : X.N = N) (hd : N.Nodup) (hsc : X.env.scope = sc) {lo : Bool} (hf : lo = false → ∀ x, sc.names.lookup x = some .cell → X.fn x = true) {own : List Nat} : ∀ {ts : Tgs} {es : List Expr}, tgsB N lo sc ts es = true → (∀ i ∈ ts.slots, i ∈ own) →
    PGs X es (fun vs τ H Q => ∃ ρ σ σ' us, EnvOk X.K TX none ρ H σ τ ∧ RelPs X.K ρ H us vs ∧ bindTs ts us σ = some σ' ∧ ∀ τ', EnvOk X.K TX none ρ H σ' τ' → L2.wipe τ' own = L2.wipe τ own → Q τ' H) ∧
      (assignEach es X.env).findIdx? (·.1) = none ∧ ∀ σ σ' us, bindTs ts us σ = some σ' → us.length = (assignEach es X.env).length
  | .nil, [], _, _ => by
    have g := gs_ok (TX := TX) hc hN hd hsc hf (ts := .nil) (es := []) rfl
    refine ⟨⟨fun pins s τ H vs us Q I r hq => pgs_nil.run pins s τ H vs us Q I r ?_⟩, g.2⟩
    obtain ⟨ρ, σ, σ', us', eo, rs, e, k⟩ := hq
    cases us' with
    | nil =>
      cases rs
      unfold bindTs at e
      cases e
      exact ⟨rfl, k _ eo rfl⟩
    | cons _ _ => simp [bindTs] at e
  | .nil, _ :: _, h, _ => by simp [tgsB] at h
  | .cons _ _, [], h, _ => by simp [tgsB] at h
  | .cons t ts, e :: es, h, hi => by
    have g := gs_ok (TX := TX) hc hN hd hsc hf (ts := .cons t ts) (es := e :: es) h
    have h' := Bool.and_eq_true_iff.mp (by simpa [tgsB] using h)
    have hi' : (∀ i ∈ t.slots, i ∈ own) ∧ ∀ i ∈ ts.slots, i ∈ own :=
      ⟨fun i q => hi i (by simp [Tgs.slots, q]), fun i q => hi i (by simp [Tgs.slots, q])⟩
    have g1 := g_own hc hN hd hsc hf (own := own) h'.1 hi'.1
    obtain ⟨g2, g3, g4⟩ := gs_own hc hN hd hsc hf (own := own) h'.2 hi'.2
    have ha : assignEach (e :: es) X.env = (false, assign e X.env) :: assignEach es X.env := by
      have h1 := h'.1
      cases t with
      | name i => cases e <;> first | rfl | simp [tgB] at h1
      | tup ts => cases e <;> first | rfl | simp [tgB] at h1
    refine ⟨⟨fun pins s τ H vs us Q I r hq => (pgs_cons g1 g2 (by rw [ha]; rfl)).run pins s τ H vs us Q I r ?_⟩, g.2⟩
    obtain ⟨ρ, σ, σ', us', eo, rs, e, k⟩ := hq
    cases rs with
    | nil => simp [bindTs] at e
    | cons r1 r2 =>
      unfold bindTs at e
      split at e
      · rename_i σ1 e1
        exact ⟨_, _, rfl, ρ, σ, σ1, _, eo, r1, e1, fun τ' eo' w' => ⟨ρ, σ1, σ', _, eo', r2, e, fun τ'' eo'' w'' => k τ'' eo'' (w''.trans w')⟩⟩
      · cases e
end
abbrev gO (K : PySem.W.Frag) (TX : Exc) (own : List Nat) (t : Tg) : TG := fun v τ H Q => ∃ ρ σ σ' u, EnvOk K TX none ρ H σ τ ∧ RelP K ρ H u v ∧ bindT t u σ = some σ' ∧ ∀ τ', EnvOk K TX none ρ H σ' τ' → L2.wipe τ' own = L2.wipe τ own → Q τ' H
/-- a comprehension's run tells its reading; Z: what becomes of the list -/
theorem lc_core {K : PySem.W.Frag} {t : Tg} {own : List Nat} {it : It} {co : Eo} {e : E} {τ : L2.St} {H : Hp} {Q : VK} {ρ : List Addr} {σ : Env} {S : Sto} {Z : List PV → Sto → R PV} (so : StOk K b ρ S H) (eo : EnvOk K TX none ρ H σ τ)
    (h : At K TX b (fun cls d H' => W cls d τ H') (WalkOk K b) ρ S H (evi C b it σ S) fun J H1 => ∃ ρ1 w S1, Grow b ρ ρ1 S S1 H H1 ∧ StOk K b ρ1 S1 H1 ∧ WalkOk K b ρ1 H1 w J ∧
      At K TX b (fun _ _ _ => False) (relE K) ρ1 S1 H1 ((lcLoop (fun S => stands S w.2) (fun x => bindT t x (MP.wipe σ own)) (evc C b co) (ev C b e) w.1 [] S1).bd Z) Q)
    (fin : ∀ (D : Addr) (ρ1 : List Addr) (S1 : Sto) (H1 : Hp) (ρi : List Addr) (Si : Sto) (acc : List PV) (vs : List V) (Hc : Hp), H1 D = none → StOk K b ρ1 S1 H1 → Grow b ρ1 ρi S1 Si H1 Hc → StOk K b ρi Si Hc → D ∉ ρi → Hc D = some (.lst vs) → RelPs K ρi Hc acc vs → At K TX b (fun _ _ _ => False) (relE K) ρ1 S1 H1 (Z acc Si) Q → lk Q (.ref D) Hc) :
    tLc (tI K TX b W (evi C b it)) (gO K TX own t) (tTs K TX b none noW (evc C b co)) (tE K TX b none noW (ev C b e)) ((own.map fun i => ((N[i]?).getD Str.empty, i)).map (·.2)) τ H (lk Q) := by
  have mapown : (own.map fun i => ((N[i]?).getD Str.empty, i)).map (·.2) = own := by
    rw [List.map_map]
    exact List.map_id' own
  rw [mapown]
  refine ⟨ρ, σ, S, so, eo, At.mono h fun J H1 ⟨ρ1, w, S1, g1, so1, wo, h1⟩ => fun D hD => ?_⟩
  have eo1 := eo.grow g1
  obtain ⟨n, G, Y, wk, hn, hG, hY⟩ := wo.ex
  have nD : D ∉ ρ1 := so1.nin hD
  let run (xs acc : List PV) (Si : Sto) : R PV := (lcLoop (fun S => stands S w.2) (fun x => bindT t x (MP.wipe σ own)) (evc C b co) (ev C b e) xs acc Si).bd Z
  refine lc_it wk (fun i Hc => ∃ ρi Si acc vs, Grow b ρ1 ρi S1 Si H1 Hc ∧ StOk K b ρi Si Hc ∧ D ∉ ρi ∧ Hc D = some (.lst vs) ∧ RelPs K ρi Hc acc vs ∧ At K TX b (fun _ _ _ => False) (relE K) ρ1 S1 H1 (run (w.1.drop i) acc Si) Q)
    ⟨ρ1, S1, [], [], .alloc hD, so1.alloc hD, nD, upd_same, .nil, by simpa [run] using h1⟩ ?_ ?_ ?_
  · rintro i Hc hi ⟨ρi, Si, acc, vs, gi, soi, ni, hDi, rs, hq⟩
    refine hG ρi Si Hc gi.keep gi.pre soi ?_
    cases hst : stands Si w.2 with
    | true => rfl
    | false =>
      exfalso
      have : run (w.1.drop i) acc Si = .bad := by
        show R.bd _ _ = _
        cases w.1.drop i with
        | nil => unfold lcLoop; rw [hst]; rfl
        | cons x xs => unfold lcLoop; rw [hst]; rfl
      rw [this] at hq
      exact hq
  · rintro i xv Hc Hc' hin ⟨ρi, Si, acc, vs, gi, soi, ni, hDi, rs, hq⟩ hy
    have hlt : i < w.1.length := by rw [hn]; exact hin
    have hget : w.1[i]? = some (w.1[i]) := by simp [hlt]
    have hst : stands Si w.2 = true := by
      cases hst : stands Si w.2 with
      | true => rfl
      | false =>
        exfalso
        have : run (w.1.drop i) acc Si = .bad := by
          show R.bd _ _ = _
          cases w.1.drop i with
          | nil => unfold lcLoop; rw [hst]; rfl
          | cons x xs => unfold lcLoop; rw [hst]; rfl
        rw [this] at hq
        exact hq
    obtain ⟨gy, soy, ry⟩ := hY ρi Si Hc i xv _ Hc' gi.keep gi.pre soi hst hget hy
    have gi' := gi.trans gy
    obtain ⟨hDy, ny⟩ := gy.frame D _ hDi ni
    have rs' : RelPs K ρi Hc' acc vs := rs.mono gy.keep gy.pre
    rw [List.drop_eq_getElem_cons hlt] at hq
    have hq : At K TX b (fun _ _ _ => False) (relE K) ρ1 S1 H1 ((lcLoop (fun S => stands S w.2) (fun x => bindT t x (MP.wipe σ own)) (evc C b co) (ev C b e) (w.1[i] :: w.1.drop (i + 1)) acc Si).bd Z) Q := hq
    unfold lcLoop at hq
    rw [hst, if_pos rfl] at hq
    have eoi := ((eo1.grow gi').wipe own)
    cases hbd : bindT t w.1[i] (MP.wipe σ own) with
    | none => rw [hbd] at hq; exact hq.elim
    | some σ1 =>
      rw [hbd] at hq
      refine ⟨ρi, MP.wipe σ own, σ1, w.1[i], eoi, ry, hbd, fun τ1 eo1' hw => ⟨hw.trans wipe_wipe, ?_⟩⟩
      have hq : At K TX b (fun _ _ _ => False) (relE K) ρ1 S1 H1 ((((evc C b co) σ1 Si).bd fun c S1' => _).bd Z) Q := hq
      refine ⟨ρi, σ1, Si, soy, eo1', ?_⟩
      -- the test, then the element
      cases hc : evc C b co σ1 Si with
      | bad => rw [hc] at hq; exact hq.elim
      | exc c as S' => rw [hc] at hq; exact fun ρ' H' cls d g s x => hq ρ' H' cls d (gi'.trans g) s x
      | ok c S2 =>
        rw [hc] at hq
        intro ρ2 H2 c' g2 so2 ec
        obtain rfl : c = c' := ec
        obtain ⟨hD2, n2⟩ := g2.frame D _ hDy ny
        have rs2 := rs'.mono g2.keep g2.pre
        cases c with
        | false => exact iteF ⟨ρ2, S2, acc, vs, gi'.trans g2, so2, n2, hD2, rs2, hq⟩
        | true =>
          refine iteT ⟨ρ2, σ1, S2, so2, eo1'.grow g2, ?_⟩
          have hq : At K TX b (fun _ _ _ => False) (relE K) ρ1 S1 H1 (((ev C b e σ1 S2).bd fun y S3 => _).bd Z) Q := hq
          cases hv : ev C b e σ1 S2 with
          | bad => rw [hv] at hq; exact hq.elim
          | exc c as S' => rw [hv] at hq; exact fun ρ' H' cls d g s x => hq ρ' H' cls d ((gi'.trans g2).trans g) s x
          | ok y S3 =>
            rw [hv] at hq
            intro ρ3 H3 yv g3 so3 ry3
            obtain ⟨hD3, n3⟩ := g3.frame D _ hD2 n2
            have rs3 := rs2.mono g3.keep g3.pre
            have g03 := (gi'.trans g2).trans g3
            have hq : At K TX b (fun _ _ _ => False) (relE K) ρ1 S1 H1 ((if acc.length < lenMax then lcLoop (fun S => stands S w.2) (fun x => bindT t x (MP.wipe σ own)) (evc C b co) (ev C b e) (w.1.drop (i + 1)) (acc ++ [y]) S3 else (R.bad : R (List PV))).bd Z) Q := hq
            split at hq
            · rename_i hlen
              refine ⟨vs, hD3, by rw [line_eq, ← rs3.length]; exact hlen, ρ3, S3, acc ++ [y], vs ++ [yv], g03.aside hD hD3, so3.aside n3 hD3, n3, upd_same, (rs3.app (.cons ry3 .nil)).mono (.wlst hD3) (List.prefix_refl _), hq⟩
            · exact hq.elim
  · rintro Hc ⟨ρi, Si, acc, vs, gi, soi, ni, hDi, rs, hq⟩
    have en : w.1.drop n = [] := by rw [← hn]; exact List.drop_length
    rw [en] at hq
    have hq : At K TX b (fun _ _ _ => False) (relE K) ρ1 S1 H1 ((lcLoop (fun S => stands S w.2) (fun x => bindT t x (MP.wipe σ own)) (evc C b co) (ev C b e) [] acc Si).bd Z) Q := hq
    unfold lcLoop at hq
    split at hq
    · exact fin D ρ1 S1 H1 ρi Si acc vs Hc hD so1 gi soi ni hDi rs hq
    · exact hq.elim
theorem lc_read {K : PySem.W.Frag} {t : Tg} {own : List Nat} {it : It} {co : Eo} {e : E} {τ : L2.St} {H : Hp} {Q : VK} (hq : tE K TX b none W (ev C b (.lc t own it co e)) τ H Q) :
    tLc (tI K TX b W (evi C b it)) (gO K TX own t) (tTs K TX b none noW (evc C b co)) (tE K TX b none noW (ev C b e)) ((own.map fun i => ((N[i]?).getD Str.empty, i)).map (·.2)) τ H (lk Q) := by
  obtain ⟨ρ, σ, S, so, eo, h⟩ := hq
  unfold ev at h
  refine lc_core (Z := fun ys S2 => .ok (.lst ys) S2) so eo (At.mono (At.bd (rel := WalkOk K b) h) fun J H1 ⟨ρ1, w, S1, _, g1, so1, wo, h1⟩ => ⟨ρ1, w, S1, g1, so1, wo, noExc_At h1⟩) fun D ρ1 S1 H1 ρi Si acc vs Hc hD so1 gi soi ni hDi rs hz => ?_
  refine .inr ⟨D, .lst vs, hDi, trivial, fun o => ?_⟩
  exact hz ρi _ _ (gi.aside hD hDi) (soi.aside ni hDi) (.lst (.inl ⟨o, upd_same⟩) (rs.mono (.wlst hDi) (List.prefix_refl _)))
theorem noExc_bd {α β γ : Type} {K : PySem.W.Frag} {E E' : XK} {rel : List Addr → Hp → γ → β → Prop} {ρ : List Addr} {S : Sto} {H : Hp} {r : R α} {f : α → Sto → R γ} {Q : β → Hp → Prop} (hf : ∀ a S c as S', f a S ≠ .exc c as S') (h : At K TX b E rel ρ S H ((noExc r).bd f) Q) : At K TX b E' rel ρ S H (r.bd f) Q := by
  cases r with
  | ok v S' =>
    have h : At K TX b E rel ρ S H (f v S') Q := h
    show At K TX b E' rel ρ S H (f v S') Q
    cases e : f v S' with
    | ok w S2 => rw [e] at h; exact h
    | exc c as S2 => exact absurd e (hf _ _ _ _ _)
    | bad => rw [e] at h; exact h
  | exc c as S' => exact h.elim
  | bad => exact h
theorem lc_readN {K : PySem.W.Frag} {t : Tg} {own : List Nat} {it : It} {co : Eo} {e : E} {τ : L2.St} {H : Hp} {Q : VK} (hq : tE K TX b none W (ev C b (.new (.lc t own it co e))) τ H Q) :
    tLc (tI K TX b W (evi C b it)) (gO K TX own t) (tTs K TX b none noW (evc C b co)) (tE K TX b none noW (ev C b e)) ((own.map fun i => ((N[i]?).getD Str.empty, i)).map (·.2)) τ H (lk Q) := by
  obtain ⟨ρ, σ, S, so, eo, h⟩ := hq
  rw [ev, ev] at h
  have h := bd_assoc h
  refine lc_core (Z := fun ys S2 => .ok (.ref S2.len) (S2.push (.lst ys))) so eo (At.mono (At.bd (rel := WalkOk K b) h) fun J H1 ⟨ρ1, w, S1, _, g1, so1, wo, h1⟩ => ⟨ρ1, w, S1, g1, so1, wo, ?_⟩) fun D ρ1 S1 H1 ρi Si acc vs Hc hD so1 gi soi ni hDi rs hz => ?_
  · have h1 := noExc_bd (E' := fun _ _ _ => False) (fun a S c as S' => by cases a <;> (intro z; cases z)) h1
    exact bd_assoc h1
  · exact .inl (hz (ρi ++ [D]) Hc (.ref D) (gi.adopt soi.base hD) (soi.adopt ni hDi rs) (.ref soi.new))
theorem s_lc (cx : Ctx T TX C X W N sc true none) {t : Tg} {own : List Nat} {it : It} {co : Eo} {e : E} {elt iter : Expr} {ifs : List Expr} {scope : Scope} (hb : blkC N sc scope (own.map fun i => ((N[i]?).getD Str.empty, i)) = true)
    (htg : tgB N true (relS scope sc) t tg = true) (hown : ∀ i ∈ t.slots, i ∈ own) (hi : PI X tg iter (tI X.K TX b W (evi C b it))) (hs : ∀ x, foldedSetIterable iter X.env x = pure x)
    (ht : ∀ Y : Cx, Y.K = X.K → Ctx T TX C Y noW N (relS scope sc) true none → PTs Y ifs (tTs Y.K TX b none noW (evc C b co)))
    (he : ∀ Y : Cx, Y.K = X.K → Ctx T TX C Y noW N (relS scope sc) true none → PE Y elt (tE Y.K TX b none noW (ev C b e))) :
    PE X (.ListComp elt [⟨tg, iter, ifs, 0⟩] scope pos) (tE X.K TX b none W (ev C b (.lc t own it co e))) := by
  refine PE.weak (PE.lock (pe_lc (g := gO X.K TX own t) (tt := tTs X.K TX b none noW (evc C b co)) (te := tE X.K TX b none noW (ev C b e)) (cx.calm rfl) (by rw [cx.names]; exact cx.nd) hi (blkOk_by (by rw [cx.names, cx.scope]; exact hb))
    (fun s H A cs fp => g_own (X := X.blk s H scope (compEnvC scope cs A X.env) fp) (TX := TX) (own := own) (cx.calm rfl) cx.names cx.nd (cx.blk s H scope A cs fp).scope (lo := true) (fun q => by cases q) htg hown)
    (fun s H A cs fp => ht (X.blk s H scope (compEnvC scope cs A X.env) fp) rfl (cx.blk s H scope A cs fp)) (fun s H A cs fp => he (X.blk s H scope (compEnvC scope cs A X.env) fp) rfl (cx.blk s H scope A cs fp)) hs)) fun τ H Q q => lc_read q
theorem n_lc (cx : Ctx T TX C X W N sc true none) {t : Tg} {own : List Nat} {it : It} {co : Eo} {e : E} {elt iter : Expr} {ifs : List Expr} {scope : Scope} (hb : blkC N sc scope (own.map fun i => ((N[i]?).getD Str.empty, i)) = true)
    (htg : tgB N true (relS scope sc) t tg = true) (hown : ∀ i ∈ t.slots, i ∈ own) (hi : PI X tg iter (tI X.K TX b W (evi C b it))) (hs : ∀ x, foldedSetIterable iter X.env x = pure x)
    (ht : ∀ Y : Cx, Y.K = X.K → Ctx T TX C Y noW N (relS scope sc) true none → PTs Y ifs (tTs Y.K TX b none noW (evc C b co)))
    (he : ∀ Y : Cx, Y.K = X.K → Ctx T TX C Y noW N (relS scope sc) true none → PE Y elt (tE Y.K TX b none noW (ev C b e))) :
    PE X (.ListComp elt [⟨tg, iter, ifs, 0⟩] scope pos) (tE X.K TX b none W (ev C b (.new (.lc t own it co e)))) := by
  refine PE.weak (PE.lock (pe_lc (g := gO X.K TX own t) (tt := tTs X.K TX b none noW (evc C b co)) (te := tE X.K TX b none noW (ev C b e)) (cx.calm rfl) (by rw [cx.names]; exact cx.nd) hi (blkOk_by (by rw [cx.names, cx.scope]; exact hb))
    (fun s H A cs fp => g_own (X := X.blk s H scope (compEnvC scope cs A X.env) fp) (TX := TX) (own := own) (cx.calm rfl) cx.names cx.nd (cx.blk s H scope A cs fp).scope (lo := true) (fun q => by cases q) htg hown)
    (fun s H A cs fp => ht (X.blk s H scope (compEnvC scope cs A X.env) fp) rfl (cx.blk s H scope A cs fp)) (fun s H A cs fp => he (X.blk s H scope (compEnvC scope cs A X.env) fp) rfl (cx.blk s H scope A cs fp)) hs)) fun τ H Q q => lc_readN q
end
end MP
end
section
set_option Elab.async false
set_option linter.all false
set_option maxRecDepth 100000
set_option maxHeartbeats 1000000
/-! MPSound12: every expression that is looked at runs like its MP. -/
namespace MP
open PySem PySem.Spec PyProof.Rows L2
section
variable [RT] {T : Tab} {TX : Exc} {C : Nat → List PV → Sto → R PV} {N : List Str} {b : Nat}
/-- the attributes of each class have their own names -/
def Tab.ok (T : Tab) : Bool := T.cls.all fun p => decide p.2.1.Nodup
theorem Tab.nd (h : T.ok = true) {k : Nat} {p : Str × List Str × List Str} (e : T.cls[k]? = some p) : p.2.1.Nodup := of_decide_eq_true (List.all_eq_true.mp h p (List.mem_of_getElem? e))
theorem evs_len : ∀ {es : Es} {fs : List Expr} {sc : Scope} {cl : Bool} {hx : Option (Nat × Nat)}, trsB T N sc cl hx es fs = true → ∀ {σ : Env} {S : Sto} {vs : List PV} {S' : Sto}, evs C b es σ S = .ok vs S' → vs.length = fs.length
  | .nil, [], _, _, _, _, σ, S, vs, S', h => by unfold evs at h; cases h; rfl
  | .nil, _ :: _, _, _, _, q, _, _, _, _, _ => by simp [trsB] at q
  | .cons _ _, [], _, _, _, q, _, _, _, _, _ => by simp [trsB] at q
  | .cons e es, f :: fs, _, _, _, q, σ, S, vs, S', h => by
    have q' := Bool.and_eq_true_iff.mp (by simpa [trsB] using q)
    unfold evs at h
    cases h1 : ev C b e σ S with
    | bad => rw [h1] at h; cases h
    | exc c as S1 => rw [h1] at h; cases h
    | ok v S1 =>
      rw [h1] at h
      have h : (evs C b es σ S1).bd (fun vs S2 => R.ok (v :: vs) S2) = .ok vs S' := h
      cases h2 : evs C b es σ S1 with
      | bad => rw [h2] at h; cases h
      | exc c as S2 => rw [h2] at h; cases h
      | ok us S2 =>
        rw [h2] at h
        have ih := evs_len q'.2 h2
        cases h
        simp [ih]
theorem plain_of {sc : Scope} {cl : Bool} {hx : Option (Nat × Nat)} {e : E} {f : Expr} (h : trB T N sc cl hx e f = true) (env : PySem.Env)
    (ne : ∀ op p x, f ≠ .UnaryOp op x p) (nb : ∀ op vs p, f ≠ .BoolOp op vs p) (ni : ∀ t x y p, f ≠ .IfExp t x y p) (nc : ∀ x ops cs p, f ≠ .Compare x ops cs p) :
    ∀ whole, isTrue f env whole = (do let v ← whole; standAt f.pos; holding [v] (truthy v)) := by
  intro whole
  cases f with
  | UnaryOp op x p => exact absurd rfl (ne op p x)
  | BoolOp op vs p => exact absurd rfl (nb op vs p)
  | IfExp t x y p => exact absurd rfl (ni t x y p)
  | Compare x ops cs p => exact absurd rfl (nc x ops cs p)
  | _ => rfl
theorem no_set {sc : Scope} {cl : Bool} {hx : Option (Nat × Nat)} {es : List Expr} {k : Nat} {p : Pos} : ∀ e : E, trB T N sc cl hx e (.Set es k p) = true → False
  | .new e, h => by
    unfold trB at h
    simp only [Bool.and_eq_true] at h
    exact no_set e h.1.1
  | .frz e, h => by
    unfold trB at h
    simp only [Bool.and_eq_true] at h
    exact no_set e h.1.1
  | .var _, h | .cst _, h | .tup _, h | .lst _, h | .bin _ _ _, h | .neg _, h | .not _, h | .and _ _, h | .or _ _, h | .cmp _ _ _, h | .chain _ _ _ _ _, h | .ife _ _ _, h | .ix _ _, h | .slc _ _ _, h | .call _ _, h | .bi _ _, h | .isi _ _, h | .eat _ _, h | .eisi _, h | .lc _ _ _ _ _, h | .att _ _, h | .meth _ _ _ _, h | .mk _ _ _ _, h | .isr _ _, h | .dnew _, h | .dget _ _ _, h | .sdef _ _ _, h | .disp _ _, h | .fstr _, h | .maxD _ _, h => by simp [trB, constB] at h
theorem folded_of {sc : Scope} {it : It} {tg f : Expr} (h : tiB T N sc it tg f = true) (env : PySem.Env) : ∀ x, foldedSetIterable f env x = pure x := by
  intro x
  cases f with
  | Set es k p =>
    exfalso
    cases it with
    | seq e => unfold tiB at h; exact no_set e h
    | rng1 e => simp [tiB] at h
    | rng2 a c => simp [tiB] at h
    | rng3 a c => simp [tiB] at h
    | zip a c => unfold tiB at h; split at h <;> simp_all
    | enum a => unfold tiB at h; split at h <;> simp_all
  | _ => rfl
mutual
theorem sE (hT : T.ok = true) : ∀ (e : E) {f : Expr} {X : Cx} {W : WX} {sc : Scope} {cl : Bool} {ex : Option Held}, Ctx T TX C X W N sc cl ex → trB T N sc cl (hxOf ex) e f = true → PE X f (tE X.K TX b ex W (ev C b e))
  | .var i, f, X, W, sc, cl, ex, cx, h => by
    unfold trB at h
    split at h
    · simp only [Bool.and_eq_true] at h
      obtain ⟨⟨⟨h1, h2⟩, h3⟩, h4⟩ := h
      refine s_var cx h1 h2 h3 fun p hp e => ?_
      rw [hp] at h4
      simp [e] at h4
    · cases h
  | .cst v, f, X, W, sc, cl, ex, cx, h => s_const cx (by unfold trB at h; exact h)
  | .tup es, f, X, W, sc, cl, ex, cx, h => by
    unfold trB at h
    split at h
    · have h' := Bool.and_eq_true_iff.mp h
      exact s_tup (sEs hT es cx h'.1) fun σ S vs S' q => by rw [evs_len h'.1 q]; exact of_decide_eq_true h'.2
    · cases h
  | .lst es, f, X, W, sc, cl, ex, cx, h => by
    unfold trB at h
    split at h
    · have h' := Bool.and_eq_true_iff.mp h
      exact s_lst (sEs hT es cx h'.1) fun σ S vs S' q => by rw [evs_len h'.1 q]; exact of_decide_eq_true h'.2
    · cases h
  | .bin o a c, f, X, W, sc, cl, ex, cx, h => by
    unfold trB at h
    split at h
    · simp only [Bool.and_eq_true] at h
      rw [opB_ok h.1.1]
      exact s_bin cx (sE hT a cx h.1.2) (sE hT c cx h.2)
    · cases h
  | .neg a, f, X, W, sc, cl, ex, cx, h => by
    unfold trB at h
    split at h
    · exact s_neg (sE hT a cx h)
    · cases h
  | .not a, f, X, W, sc, cl, ex, cx, h => by
    unfold trB at h
    split at h
    · exact s_not (sE hT a cx h)
    · cases h
  | .and a c, f, X, W, sc, cl, ex, cx, h => by
    unfold trB at h
    split at h
    · have h' := Bool.and_eq_true_iff.mp h
      exact s_and (sE hT a cx h'.1) (pe_one (sE hT c cx h'.2))
    · have h' := Bool.and_eq_true_iff.mp h
      exact s_and (sE hT a cx h'.1) (sE hT c cx h'.2)
    · cases h
  | .or a c, f, X, W, sc, cl, ex, cx, h => by
    unfold trB at h
    split at h
    · have h' := Bool.and_eq_true_iff.mp h
      exact s_or (sE hT a cx h'.1) (pe_one (sE hT c cx h'.2))
    · have h' := Bool.and_eq_true_iff.mp h
      exact s_or (sE hT a cx h'.1) (sE hT c cx h'.2)
    · cases h
  | .cmp o a c, f, X, W, sc, cl, ex, cx, h => by
    unfold trB at h
    split at h
    · simp only [Bool.and_eq_true, Bool.not_eq_true'] at h
      obtain ⟨⟨⟨h1, h2⟩, h3⟩, h4⟩ := h
      have e := cmB_ok h1
      subst e
      exact s_cmp cx (sE hT a cx h2) (sE hT c cx h3) h4
    · cases h
  | .chain o o' a c d, f, X, W, sc, cl, ex, cx, h => by
    unfold trB at h
    split at h
    · simp only [Bool.and_eq_true, Bool.not_eq_true'] at h
      obtain ⟨⟨⟨⟨⟨h1, h1'⟩, h2⟩, h3⟩, h4⟩, h5⟩ := h
      have e := cmB_ok h1
      have e' := cmB_ok h1'
      subst e
      subst e'
      exact s_chain cx (sE hT a cx h2) (sE hT c cx h3) (sE hT d cx h4) h5
    · cases h
  | .ife c a d, f, X, W, sc, cl, ex, cx, h => by
    unfold trB at h
    split at h
    · simp only [Bool.and_eq_true] at h
      exact s_ife (sT hT c cx h.1.1) (sE hT a cx h.1.2) (sE hT d cx h.2)
    · cases h
  | .ix a c, f, X, W, sc, cl, ex, cx, h => by
    unfold trB at h
    split at h
    · simp only [Bool.and_eq_true, Bool.not_eq_true'] at h
      exact s_ix cx (sE hT a cx h.1.1) (sE hT c cx h.1.2) h.2
    · cases h
  | .slc a lo hi, f, X, W, sc, cl, ex, cx, h => by
    unfold trB at h
    split at h
    · simp only [Bool.and_eq_true] at h
      exact s_slc (sE hT a cx h.1.1) (sEo hT lo cx h.1.2) (sEo hT hi cx h.2)
    · cases h
  | .call n es, f, X, W, sc, cl, ex, cx, h => by
    unfold trB at h
    split at h
    · simp only [Bool.and_eq_true] at h
      obtain ⟨⟨⟨h1, h2⟩, h3⟩, h4⟩ := h
      subst h1
      have hs := h4
      cases es with
      | nil => simp [trsB] at h4
      | cons e1 es1 =>
        have h4' := Bool.and_eq_true_iff.mp (by simpa [trsB] using h4)
        exact s_call cx h2 (of_decide_eq_true h3) (sEs hT (.cons e1 es1) cx hs) (star_of h4'.1 _ _) (stars_of h4'.2 _ _)
    · cases h
  | .bi n es, f, X, W, sc, cl, ex, cx, h => by
    unfold trB at h
    split at h
    · simp only [Bool.and_eq_true] at h
      obtain ⟨⟨⟨⟨h1, h2⟩, h3⟩, h4⟩, h5⟩ := h
      subst h1
      have hs := h5
      cases es with
      | nil => simp [trsB] at h5
      | cons e1 es1 =>
        have h5' := Bool.and_eq_true_iff.mp (by simpa [trsB] using h5)
        exact s_bi cx h2 (of_decide_eq_true h3) h4 (sEs hT (.cons e1 es1) cx hs) (star_of h5'.1 _ _) (stars_of h5'.2 _ _)
    · cases h
  | .isi a t, f, X, W, sc, cl, ex, cx, h => by
    unfold trB at h
    split at h
    · simp only [Bool.and_eq_true] at h
      obtain ⟨⟨⟨⟨⟨⟨h1, h2⟩, h3⟩, h4⟩, h5⟩, h6⟩, h7⟩ := h
      exact s_isi cx h1 h2 (of_decide_eq_true h3) (of_decide_eq_true h4) h5 h6 (sE hT a cx h7) fun es => star_of h7 es _
    · cases h
  | .eat i j, f, X, W, sc, cl, ex, cx, h => by
    unfold trB at h
    split at h
    · split at h
      · rename_i k c hh
        simp only [Bool.and_eq_true] at h
        obtain ⟨⟨⟨⟨h1, h2⟩, h3⟩, h4⟩, h5⟩ := h
        exact s_eat cx hh (of_decide_eq_true h1) h2 h3 h4 (of_decide_eq_true h5) fun p hp => Tab.nd hT hp
      · cases h
    · cases h
  | .eisi i, f, X, W, sc, cl, ex, cx, h => by
    unfold trB at h
    split at h
    · split at h
      · rename_i k c hh
        simp only [Bool.and_eq_true] at h
        obtain ⟨⟨⟨⟨⟨⟨⟨⟨h1, h2⟩, h3⟩, h4⟩, h5⟩, h6⟩, h7⟩, h8⟩, h9⟩ := h
        exact s_eisi cx hh (of_decide_eq_true h1) h2 h3 h4 h5 (of_decide_eq_true h6) h7 h8 h9
      · cases h
    · cases h
  | .lc t own it co e, f, X, W, sc, cl, ex, cx, h => by
    unfold trB at h
    split at h
    · simp only [Bool.and_eq_true] at h
      obtain ⟨⟨⟨⟨⟨⟨⟨h1, h2⟩, h3⟩, h4⟩, h0⟩, h5⟩, h6⟩, h7⟩ := h
      subst h1
      have hn : ex = none := by
        cases ex with
        | none => rfl
        | some x => simp [hxOf] at h2
      subst hn
      refine s_lc cx h3 h4 (fun i hi => of_decide_eq_true (List.all_eq_true.mp h0 i hi)) (sIt hT it cx h5) (folded_of h5 _) (fun Y hY cy => ?_) fun Y hY cy => sE hT e cy h7
      split at h6
      · split at h6
        · exact ⟨fun pins s τ H Q I hq => pts_nil.run pins s τ H Q I (by
            obtain ⟨ρ, σ, S, so, eo, q⟩ := hq
            exact At.ok (rel := relT) so (by unfold evc at q; exact q) rfl)⟩
        · cases h6
      · have h6' := Bool.and_eq_true_iff.mp h6
        cases co with
        | none => exact absurd h6'.2 (by simp)
        | some c =>
          have q := h6'.1
          unfold troB at q
          have p := sT hT c (ex := none) cy q
          refine ⟨fun pins s τ H Q I hq => (pts_one p).run pins s τ H Q I ?_⟩
          obtain ⟨ρ, σ, S, so, eo, q⟩ := hq
          exact ⟨ρ, σ, S, so, eo, by unfold evc at q; exact q⟩
      · cases h6
    · cases h
  | .new (.lst es), f, X, W, sc, cl, ex, cx, h => by
    unfold trB at h
    simp only [Bool.and_eq_true] at h
    have h := h.1.1
    unfold trB at h
    split at h
    · have h' := Bool.and_eq_true_iff.mp h
      exact n_lst (sEs hT es cx h'.1) fun σ S vs S' q => by rw [evs_len h'.1 q]; exact of_decide_eq_true h'.2
    · cases h
  | .new (.bin o a c), f, X, W, sc, cl, ex, cx, h => by
    unfold trB at h
    simp only [Bool.and_eq_true] at h
    have h := h.1.1
    unfold trB at h
    split at h
    · simp only [Bool.and_eq_true] at h
      rw [opB_ok h.1.1]
      exact n_bin cx (sE hT a cx h.1.2) (sE hT c cx h.2)
    · cases h
  | .new (.slc a lo hi), f, X, W, sc, cl, ex, cx, h => by
    unfold trB at h
    simp only [Bool.and_eq_true] at h
    have h := h.1.1
    unfold trB at h
    split at h
    · simp only [Bool.and_eq_true] at h
      exact n_slc (sE hT a cx h.1.1) (sEo hT lo cx h.1.2) (sEo hT hi cx h.2)
    · cases h
  | .new (.bi n es), f, X, W, sc, cl, ex, cx, h => by
    unfold trB at h
    simp only [Bool.and_eq_true] at h
    have hf : n = .list ∨ n = .sorted := by
      have z := h.1.2
      cases n <;> first | exact .inl rfl | exact .inr rfl | cases z
    have h := h.1.1
    unfold trB at h
    split at h
    · simp only [Bool.and_eq_true] at h
      obtain ⟨⟨⟨⟨h1, h2⟩, h3⟩, h4⟩, h5⟩ := h
      subst h1
      have hs := h5
      cases es with
      | nil => simp [trsB] at h5
      | cons e1 es1 =>
        have h5' := Bool.and_eq_true_iff.mp (by simpa [trsB] using h5)
        exact n_bi cx hf h2 (of_decide_eq_true h3) h4 (sEs hT (.cons e1 es1) cx hs) (star_of h5'.1 _ _) (stars_of h5'.2 _ _)
    · cases h
  | .new (.lc t own it co e), f, X, W, sc, cl, ex, cx, h => by
    unfold trB at h
    simp only [Bool.and_eq_true] at h
    have h := h.1.1
    unfold trB at h
    split at h
    · simp only [Bool.and_eq_true] at h
      obtain ⟨⟨⟨⟨⟨⟨⟨h1, h2⟩, h3⟩, h4⟩, h0⟩, h5⟩, h6⟩, h7⟩ := h
      subst h1
      have hn : ex = none := by
        cases ex with
        | none => rfl
        | some x => simp [hxOf] at h2
      subst hn
      refine n_lc cx h3 h4 (fun i hi => of_decide_eq_true (List.all_eq_true.mp h0 i hi)) (sIt hT it cx h5) (folded_of h5 _) (fun Y hY cy => ?_) fun Y hY cy => sE hT e cy h7
      split at h6
      · split at h6
        · exact ⟨fun pins s τ H Q I hq => pts_nil.run pins s τ H Q I (by
            obtain ⟨ρ, σ, S, so, eo, q⟩ := hq
            exact At.ok (rel := relT) so (by unfold evc at q; exact q) rfl)⟩
        · cases h6
      · have h6' := Bool.and_eq_true_iff.mp h6
        cases co with
        | none => exact absurd h6'.2 (by simp)
        | some c =>
          have q := h6'.1
          unfold troB at q
          have p := sT hT c (ex := none) cy q
          refine ⟨fun pins s τ H Q I hq => (pts_one p).run pins s τ H Q I ?_⟩
          obtain ⟨ρ, σ, S, so, eo, q⟩ := hq
          exact ⟨ρ, σ, S, so, eo, by unfold evc at q; exact q⟩
      · cases h6
    · cases h
  | .new (.var _), f, X, W, sc, cl, ex, cx, h => by
    unfold trB at h
    simp [E.fresh] at h
  | .new (.cst _), f, X, W, sc, cl, ex, cx, h => by
    unfold trB at h
    simp [E.fresh] at h
  | .new (.tup _), f, X, W, sc, cl, ex, cx, h => by
    unfold trB at h
    simp [E.fresh] at h
  | .new (.neg _), f, X, W, sc, cl, ex, cx, h => by
    unfold trB at h
    simp [E.fresh] at h
  | .new (.not _), f, X, W, sc, cl, ex, cx, h => by
    unfold trB at h
    simp [E.fresh] at h
  | .new (.and _ _), f, X, W, sc, cl, ex, cx, h => by
    unfold trB at h
    simp [E.fresh] at h
  | .new (.or _ _), f, X, W, sc, cl, ex, cx, h => by
    unfold trB at h
    simp [E.fresh] at h
  | .new (.cmp _ _ _), f, X, W, sc, cl, ex, cx, h => by
    unfold trB at h
    simp [E.fresh] at h
  | .new (.chain _ _ _ _ _), f, X, W, sc, cl, ex, cx, h => by
    unfold trB at h
    simp [E.fresh] at h
  | .new (.ife _ _ _), f, X, W, sc, cl, ex, cx, h => by
    unfold trB at h
    simp [E.fresh] at h
  | .new (.ix _ _), f, X, W, sc, cl, ex, cx, h => by
    unfold trB at h
    simp [E.fresh] at h
  | .new (.call _ _), f, X, W, sc, cl, ex, cx, h => by
    unfold trB at h
    simp [E.fresh] at h
  | .new (.isi _ _), f, X, W, sc, cl, ex, cx, h => by
    unfold trB at h
    simp [E.fresh] at h
  | .new (.eat _ _), f, X, W, sc, cl, ex, cx, h => by
    unfold trB at h
    simp [E.fresh] at h
  | .new (.eisi _), f, X, W, sc, cl, ex, cx, h => by
    unfold trB at h
    simp [E.fresh] at h
  | .new (.new _), f, X, W, sc, cl, ex, cx, h => by
    unfold trB at h
    simp [E.fresh] at h
  | .new (.frz _), f, X, W, sc, cl, ex, cx, h => by
    unfold trB at h
    simp [E.fresh] at h
  | .new (.att _ _), f, X, W, sc, cl, ex, cx, h => by
    unfold trB at h
    simp [E.fresh] at h
  | .new (.meth _ _ _ _), f, X, W, sc, cl, ex, cx, h => by
    unfold trB at h
    simp [E.fresh] at h
  | .new (.mk _ _ _ _), f, X, W, sc, cl, ex, cx, h => by
    unfold trB at h
    simp [E.fresh] at h
  | .new (.isr _ _), f, X, W, sc, cl, ex, cx, h => by
    unfold trB at h
    simp [E.fresh] at h
  | .new (.dnew _), f, X, W, sc, cl, ex, cx, h => by
    unfold trB at h
    simp [E.fresh] at h
  | .new (.dget _ _ _), f, X, W, sc, cl, ex, cx, h => by
    unfold trB at h
    simp [E.fresh] at h
  | .new (.sdef _ _ _), f, X, W, sc, cl, ex, cx, h => by
    unfold trB at h
    simp [E.fresh] at h
  | .new (.disp _ _), f, X, W, sc, cl, ex, cx, h => by
    unfold trB at h
    simp [E.fresh] at h
  | .new (.fstr _), f, X, W, sc, cl, ex, cx, h => by
    unfold trB at h
    simp [E.fresh] at h
  | .new (.maxD _ _), f, X, W, sc, cl, ex, cx, h => by
    unfold trB at h
    simp [E.fresh] at h
  | .frz e, f, X, W, sc, cl, ex, cx, h => by
    unfold trB at h
    simp only [Bool.and_eq_true] at h
    exact s_frz (sE hT e cx h.1.1)
  | .att e ps, f, X, W, sc, cl, ex, cx, h => by
    unfold trB at h
    split at h
    · simp only [Bool.and_eq_true] at h
      exact s_att cx (sE hT e cx h.1.1) h.1.2 h.2
    · cases h
  | .meth _ _ _ _, f, X, W, sc, cl, ex, cx, h => by simp [trB] at h
  | .mk _ _ _ _, f, X, W, sc, cl, ex, cx, h => by simp [trB] at h
  | .isr _ _, f, X, W, sc, cl, ex, cx, h => by simp [trB] at h
  | .dnew _, f, X, W, sc, cl, ex, cx, h => by simp [trB] at h
  | .dget _ _ _, f, X, W, sc, cl, ex, cx, h => by simp [trB] at h
  | .sdef _ _ _, f, X, W, sc, cl, ex, cx, h => by simp [trB] at h
  | .disp _ _, f, X, W, sc, cl, ex, cx, h => by simp [trB] at h
  | .maxD _ _, f, X, W, sc, cl, ex, cx, h => by simp [trB] at h
  | .fstr es, f, X, W, sc, cl, ex, cx, h => by
    unfold trB at h
    split at h
    · exact s_fstr (sFs hT es cx h)
    · cases h
theorem sT (hT : T.ok = true) : ∀ (e : E) {f : Expr} {X : Cx} {W : WX} {sc : Scope} {cl : Bool} {ex : Option Held}, Ctx T TX C X W N sc cl ex → trB T N sc cl (hxOf ex) e f = true → PT X f (tTs X.K TX b ex W (evT C b e))
  | .not a, f, X, W, sc, cl, ex, cx, h => by
    unfold trB at h
    split at h
    · exact t_not (sT hT a cx h)
    · cases h
  | .and a c, f, X, W, sc, cl, ex, cx, h => by
    unfold trB at h
    split at h
    · have h' := Bool.and_eq_true_iff.mp h
      exact (t_and (sT hT a cx h'.1) (pw_and1 (sT hT c cx h'.2))).pt
    · have h' := Bool.and_eq_true_iff.mp h
      exact (t_and (sT hT a cx h'.1) (sW hT c .And rfl cx h'.2)).pt
    · cases h
  | .or a c, f, X, W, sc, cl, ex, cx, h => by
    unfold trB at h
    split at h
    · have h' := Bool.and_eq_true_iff.mp h
      exact (t_or (sT hT a cx h'.1) (pw_or1 (sT hT c cx h'.2))).pt
    · have h' := Bool.and_eq_true_iff.mp h
      exact (t_or (sT hT a cx h'.1) (sW hT c .Or rfl cx h'.2)).pt
    · cases h
  | .cmp o a c, f, X, W, sc, cl, ex, cx, h => by
    unfold trB at h
    split at h
    · simp only [Bool.and_eq_true, Bool.not_eq_true'] at h
      obtain ⟨⟨⟨h1, h2⟩, h3⟩, h4⟩ := h
      have e := cmB_ok h1
      subst e
      exact t_cmp cx (sE hT a cx h2) (sE hT c cx h3) h4
    · cases h
  | .chain o o' a c d, f, X, W, sc, cl, ex, cx, h => by
    unfold trB at h
    split at h
    · simp only [Bool.and_eq_true, Bool.not_eq_true'] at h
      obtain ⟨⟨⟨⟨⟨h1, h1'⟩, h2⟩, h3⟩, h4⟩, h5⟩ := h
      have e := cmB_ok h1
      have e' := cmB_ok h1'
      subst e
      subst e'
      exact t_chain cx (sE hT a cx h2) (sE hT c cx h3) (sE hT d cx h4) h5
    · cases h
  | .var i, f, X, W, sc, cl, ex, cx, h => by
    unfold trB at h
    split at h
    · simp only [Bool.and_eq_true] at h
      obtain ⟨⟨⟨h1, h2⟩, h3⟩, h4⟩ := h
      refine t_tru (s_var cx h1 h2 h3 fun p hp e => ?_) (fun σ S => ?_) fun _ => rfl
      · rw [hp] at h4
        simp [e] at h4
      · rw [evT, ev]
        split <;> rfl
    · cases h
  | .ix a c, f, X, W, sc, cl, ex, cx, h => by
    have h0 := h
    unfold trB at h
    split at h
    · simp only [Bool.and_eq_true, Bool.not_eq_true'] at h
      have p := s_ix (pos := by assumption) cx (sE hT a cx h.1.1) (sE hT c cx h.1.2) h.2
      refine t_tru p (fun σ S => ?_) fun _ => rfl
      rw [evT, ev]
      cases ev C b a σ S with
      | ok v S1 =>
        show ((ev C b c σ S1).bd _) = ((ev C b c σ S1).bd _).bd _
        cases ev C b c σ S1 <;> rfl
      | exc c as S1 => rfl
      | bad => rfl
    · cases h
  | .call n es, f, X, W, sc, cl, ex, cx, h => by
    have h0 := h
    unfold trB at h
    split at h
    · simp only [Bool.and_eq_true] at h
      obtain ⟨⟨⟨h1, h2⟩, h3⟩, h4⟩ := h
      subst h1
      have hs := h4
      cases es with
      | nil => simp [trsB] at h4
      | cons e1 es1 =>
        have h4' := Bool.and_eq_true_iff.mp (by simpa [trsB] using h4)
        exact t_tru (s_call cx h2 (of_decide_eq_true h3) (sEs hT (.cons e1 es1) cx hs) (star_of h4'.1 _ _) (stars_of h4'.2 _ _)) (fun σ S => by rw [evT, ev]) fun _ => rfl
    · cases h
  | .bi n es, f, X, W, sc, cl, ex, cx, h => by
    have h0 := h
    unfold trB at h
    split at h
    · simp only [Bool.and_eq_true] at h
      obtain ⟨⟨⟨⟨h1, h2⟩, h3⟩, h4⟩, h5⟩ := h
      subst h1
      have hs := h5
      cases es with
      | nil => simp [trsB] at h5
      | cons e1 es1 =>
        have h5' := Bool.and_eq_true_iff.mp (by simpa [trsB] using h5)
        exact t_tru (s_bi cx h2 (of_decide_eq_true h3) h4 (sEs hT (.cons e1 es1) cx hs) (star_of h5'.1 _ _) (stars_of h5'.2 _ _)) (fun σ S => by rw [evT, ev]) fun _ => rfl
    · cases h
  | .isi a t, f, X, W, sc, cl, ex, cx, h => by
    unfold trB at h
    split at h
    · simp only [Bool.and_eq_true] at h
      obtain ⟨⟨⟨⟨⟨⟨h1, h2⟩, h3⟩, h4⟩, h5⟩, h6⟩, h7⟩ := h
      refine t_val (s_isi cx h1 h2 (of_decide_eq_true h3) (of_decide_eq_true h4) h5 h6 (sE hT a cx h7) fun es => star_of h7 es _) (fun σ S => ?_) fun _ => rfl
      rw [evT, ev]
      cases ev C b a σ S <;> rfl
    · cases h
  | .eisi i, f, X, W, sc, cl, ex, cx, h => by
    unfold trB at h
    split at h
    · split at h
      · rename_i k c hh
        simp only [Bool.and_eq_true] at h
        obtain ⟨⟨⟨⟨⟨⟨⟨⟨h1, h2⟩, h3⟩, h4⟩, h5⟩, h6⟩, h7⟩, h8⟩, h9⟩ := h
        refine t_val (s_eisi cx hh (of_decide_eq_true h1) h2 h3 h4 h5 (of_decide_eq_true h6) h7 h8 h9) (fun σ S => ?_) fun _ => rfl
        rw [evT, ev]
        split <;> rfl
      · cases h
    · cases h
  | .att e ps, f, X, W, sc, cl, ex, cx, h => by
    have h0 := h
    unfold trB at h
    split at h
    · simp only [Bool.and_eq_true] at h
      exact t_tru (s_att cx (sE hT e cx h.1.1) h.1.2 h.2) (fun σ S => by rw [evT, ev]) fun _ => rfl
    · cases h
  | .meth _ _ _ _, f, X, W, sc, cl, ex, cx, h => by simp [trB] at h
  | .isr _ _, f, X, W, sc, cl, ex, cx, h => by simp [trB] at h
  | .new _, _, X, W, sc, cl, ex, cx, h => ⟨fun _ _ _ _ _ _ ⟨ρ, σ, S, so, eo, q⟩ => by unfold evT at q; exact q.elim⟩
  | .frz _, _, X, W, sc, cl, ex, cx, h => ⟨fun _ _ _ _ _ _ ⟨ρ, σ, S, so, eo, q⟩ => by unfold evT at q; exact q.elim⟩
  | .mk _ _ _ _, _, X, W, sc, cl, ex, cx, h => ⟨fun _ _ _ _ _ _ ⟨ρ, σ, S, so, eo, q⟩ => by unfold evT at q; exact q.elim⟩
  | .dnew _, _, X, W, sc, cl, ex, cx, h => ⟨fun _ _ _ _ _ _ ⟨ρ, σ, S, so, eo, q⟩ => by unfold evT at q; exact q.elim⟩
  | .dget _ _ _, _, X, W, sc, cl, ex, cx, h => ⟨fun _ _ _ _ _ _ ⟨ρ, σ, S, so, eo, q⟩ => by unfold evT at q; exact q.elim⟩
  | .sdef _ _ _, _, X, W, sc, cl, ex, cx, h => ⟨fun _ _ _ _ _ _ ⟨ρ, σ, S, so, eo, q⟩ => by unfold evT at q; exact q.elim⟩
  | .disp _ _, _, X, W, sc, cl, ex, cx, h => ⟨fun _ _ _ _ _ _ ⟨ρ, σ, S, so, eo, q⟩ => by unfold evT at q; exact q.elim⟩
  | .fstr _, _, X, W, sc, cl, ex, cx, h => ⟨fun _ _ _ _ _ _ ⟨ρ, σ, S, so, eo, q⟩ => by unfold evT at q; exact q.elim⟩
  | .maxD _ _, _, X, W, sc, cl, ex, cx, h => ⟨fun _ _ _ _ _ _ ⟨ρ, σ, S, so, eo, q⟩ => by unfold evT at q; exact q.elim⟩
  | .cst _, _, X, W, sc, cl, ex, cx, h => ⟨fun _ _ _ _ _ _ ⟨ρ, σ, S, so, eo, q⟩ => by unfold evT at q; exact q.elim⟩
  | .tup _, _, X, W, sc, cl, ex, cx, h => ⟨fun _ _ _ _ _ _ ⟨ρ, σ, S, so, eo, q⟩ => by unfold evT at q; exact q.elim⟩
  | .lst _, _, X, W, sc, cl, ex, cx, h => ⟨fun _ _ _ _ _ _ ⟨ρ, σ, S, so, eo, q⟩ => by unfold evT at q; exact q.elim⟩
  | .bin _ _ _, _, X, W, sc, cl, ex, cx, h => ⟨fun _ _ _ _ _ _ ⟨ρ, σ, S, so, eo, q⟩ => by unfold evT at q; exact q.elim⟩
  | .neg _, _, X, W, sc, cl, ex, cx, h => ⟨fun _ _ _ _ _ _ ⟨ρ, σ, S, so, eo, q⟩ => by unfold evT at q; exact q.elim⟩
  | .ife _ _ _, _, X, W, sc, cl, ex, cx, h => ⟨fun _ _ _ _ _ _ ⟨ρ, σ, S, so, eo, q⟩ => by unfold evT at q; exact q.elim⟩
  | .slc _ _ _, _, X, W, sc, cl, ex, cx, h => ⟨fun _ _ _ _ _ _ ⟨ρ, σ, S, so, eo, q⟩ => by unfold evT at q; exact q.elim⟩
  | .eat _ _, _, X, W, sc, cl, ex, cx, h => ⟨fun _ _ _ _ _ _ ⟨ρ, σ, S, so, eo, q⟩ => by unfold evT at q; exact q.elim⟩
  | .lc _ _ _ _ _, _, X, W, sc, cl, ex, cx, h => ⟨fun _ _ _ _ _ _ ⟨ρ, σ, S, so, eo, q⟩ => by unfold evT at q; exact q.elim⟩
/-- the rest of a chain of and, or -/
theorem sW (hT : T.ok = true) : ∀ (e : E) {f : Expr} {X : Cx} {W : WX} {sc : Scope} {cl : Bool} {ex : Option Held} (op : BoolOp) {x y : Expr} {r : List Expr} {p : Pos}, f = .BoolOp op (x :: y :: r) p → Ctx T TX C X W N sc cl ex → trB T N sc cl (hxOf ex) e f = true → PW X f (tTs X.K TX b ex W (evT C b e))
  | .and a c, f, X, W, sc, cl, ex, op, _, _, _, _, hf, cx, h => by
    unfold trB at h
    split at h
    · have h' := Bool.and_eq_true_iff.mp h
      exact (t_and (sT hT a cx h'.1) (pw_and1 (sT hT c cx h'.2)))
    · have h' := Bool.and_eq_true_iff.mp h
      exact (t_and (sT hT a cx h'.1) (sW hT c .And rfl cx h'.2))
    · cases h
  | .or a c, f, X, W, sc, cl, ex, op, _, _, _, _, hf, cx, h => by
    unfold trB at h
    split at h
    · have h' := Bool.and_eq_true_iff.mp h
      exact (t_or (sT hT a cx h'.1) (pw_or1 (sT hT c cx h'.2)))
    · have h' := Bool.and_eq_true_iff.mp h
      exact (t_or (sT hT a cx h'.1) (sW hT c .Or rfl cx h'.2))
    · cases h
  | .var _, f, X, W, sc, cl, ex, op, _, _, _, _, hf, cx, h => by subst hf; simp [trB, constB] at h
  | .cst _, f, X, W, sc, cl, ex, op, _, _, _, _, hf, cx, h => by subst hf; simp [trB, constB] at h
  | .tup _, f, X, W, sc, cl, ex, op, _, _, _, _, hf, cx, h => by subst hf; simp [trB, constB] at h
  | .lst _, f, X, W, sc, cl, ex, op, _, _, _, _, hf, cx, h => by subst hf; simp [trB, constB] at h
  | .bin _ _ _, f, X, W, sc, cl, ex, op, _, _, _, _, hf, cx, h => by subst hf; simp [trB, constB] at h
  | .neg _, f, X, W, sc, cl, ex, op, _, _, _, _, hf, cx, h => by subst hf; simp [trB, constB] at h
  | .not _, f, X, W, sc, cl, ex, op, _, _, _, _, hf, cx, h => by subst hf; simp [trB, constB] at h
  | .cmp _ _ _, f, X, W, sc, cl, ex, op, _, _, _, _, hf, cx, h => by subst hf; simp [trB, constB] at h
  | .chain _ _ _ _ _, f, X, W, sc, cl, ex, op, _, _, _, _, hf, cx, h => by subst hf; simp [trB, constB] at h
  | .ife _ _ _, f, X, W, sc, cl, ex, op, _, _, _, _, hf, cx, h => by subst hf; simp [trB, constB] at h
  | .ix _ _, f, X, W, sc, cl, ex, op, _, _, _, _, hf, cx, h => by subst hf; simp [trB, constB] at h
  | .slc _ _ _, f, X, W, sc, cl, ex, op, _, _, _, _, hf, cx, h => by subst hf; simp [trB, constB] at h
  | .call _ _, f, X, W, sc, cl, ex, op, _, _, _, _, hf, cx, h => by subst hf; simp [trB, constB] at h
  | .bi _ _, f, X, W, sc, cl, ex, op, _, _, _, _, hf, cx, h => by subst hf; simp [trB, constB] at h
  | .isi _ _, f, X, W, sc, cl, ex, op, _, _, _, _, hf, cx, h => by subst hf; simp [trB, constB] at h
  | .eat _ _, f, X, W, sc, cl, ex, op, _, _, _, _, hf, cx, h => by subst hf; simp [trB, constB] at h
  | .eisi _, f, X, W, sc, cl, ex, op, _, _, _, _, hf, cx, h => by subst hf; simp [trB, constB] at h
  | .lc _ _ _ _ _, f, X, W, sc, cl, ex, op, _, _, _, _, hf, cx, h => by subst hf; simp [trB, constB] at h
  | .new _, _, X, W, sc, cl, ex, op, _, _, _, _, hf, cx, h => ⟨fun _ _ _ _ _ _ _ ⟨ρ, σ, S, so, eo, q⟩ => by unfold evT at q; exact q.elim⟩
  | .frz _, _, X, W, sc, cl, ex, op, _, _, _, _, hf, cx, h => ⟨fun _ _ _ _ _ _ _ ⟨ρ, σ, S, so, eo, q⟩ => by unfold evT at q; exact q.elim⟩
  | .mk _ _ _ _, _, X, W, sc, cl, ex, op, _, _, _, _, hf, cx, h => ⟨fun _ _ _ _ _ _ _ ⟨ρ, σ, S, so, eo, q⟩ => by unfold evT at q; exact q.elim⟩
  | .dnew _, _, X, W, sc, cl, ex, op, _, _, _, _, hf, cx, h => ⟨fun _ _ _ _ _ _ _ ⟨ρ, σ, S, so, eo, q⟩ => by unfold evT at q; exact q.elim⟩
  | .dget _ _ _, _, X, W, sc, cl, ex, op, _, _, _, _, hf, cx, h => ⟨fun _ _ _ _ _ _ _ ⟨ρ, σ, S, so, eo, q⟩ => by unfold evT at q; exact q.elim⟩
  | .sdef _ _ _, _, X, W, sc, cl, ex, op, _, _, _, _, hf, cx, h => ⟨fun _ _ _ _ _ _ _ ⟨ρ, σ, S, so, eo, q⟩ => by unfold evT at q; exact q.elim⟩
  | .disp _ _, _, X, W, sc, cl, ex, op, _, _, _, _, hf, cx, h => ⟨fun _ _ _ _ _ _ _ ⟨ρ, σ, S, so, eo, q⟩ => by unfold evT at q; exact q.elim⟩
  | .fstr _, _, X, W, sc, cl, ex, op, _, _, _, _, hf, cx, h => ⟨fun _ _ _ _ _ _ _ ⟨ρ, σ, S, so, eo, q⟩ => by unfold evT at q; exact q.elim⟩
  | .maxD _ _, _, X, W, sc, cl, ex, op, _, _, _, _, hf, cx, h => ⟨fun _ _ _ _ _ _ _ ⟨ρ, σ, S, so, eo, q⟩ => by unfold evT at q; exact q.elim⟩
  | .att _ _, f, X, W, sc, cl, ex, op, _, _, _, _, hf, cx, h => by subst hf; simp [trB, constB] at h
  | .meth _ _ _ _, f, X, W, sc, cl, ex, op, _, _, _, _, hf, cx, h => by subst hf; simp [trB, constB] at h
  | .isr _ _, f, X, W, sc, cl, ex, op, _, _, _, _, hf, cx, h => by subst hf; simp [trB, constB] at h
theorem sEs (hT : T.ok = true) : ∀ (es : Es) {fs : List Expr} {X : Cx} {W : WX} {sc : Scope} {cl : Bool} {ex : Option Held}, Ctx T TX C X W N sc cl ex → trsB T N sc cl (hxOf ex) es fs = true → PA X fs (tAs X.K TX b ex W (evs C b es))
  | .nil, [], X, W, sc, cl, ex, cx, h => a_nil
  | .nil, _ :: _, X, W, sc, cl, ex, cx, h => by simp [trsB] at h
  | .cons _ _, [], X, W, sc, cl, ex, cx, h => by simp [trsB] at h
  | .cons e es, f :: fs, X, W, sc, cl, ex, cx, h => by
    have h' := Bool.and_eq_true_iff.mp (by simpa [trsB] using h)
    exact a_cons (sE hT e cx h'.1) (sEs hT es cx h'.2) (star_of h'.1 _ _)
theorem sFs (hT : T.ok = true) : ∀ (es : Es) {fs : List Expr} {X : Cx} {W : WX} {sc : Scope} {cl : Bool} {ex : Option Held}, Ctx T TX C X W N sc cl ex → trfB T N sc cl (hxOf ex) es fs = true → ∃ ts, PJ X fs ts ∧ ∀ acc τ H Q, tF X.K TX b C ex es acc τ H Q → tJs ts acc τ H Q
  | .nil, [], X, W, sc, cl, ex, cx, h => ⟨[], .nil, fun acc τ H Q q => f_nil q⟩
  | .nil, _ :: _, X, W, sc, cl, ex, cx, h => by simp [trfB] at h
  | .cons _ _, [], X, W, sc, cl, ex, cx, h => by simp [trfB] at h
  | .cons e es, g :: fs, X, W, sc, cl, ex, cx, h => by
    unfold trfB at h
    have h' := Bool.and_eq_true_iff.mp h
    obtain ⟨ts, pj, ht⟩ := sFs hT es cx h'.2
    have h1 := h'.1
    split at h1
    · have h2 := Bool.and_eq_true_iff.mp h1
      have pe := sE hT e cx h2.1
      have h3 := h2.2
      split at h3
      · exact ⟨_, .cons pe pj, fun acc τ H Q q => f_const q ht⟩
      · cases h3
    · exact ⟨_, .cons (pe_fmt (sE hT e cx h1)) pj, fun acc τ H Q q => f_cons q ht⟩
    · cases h1
theorem sEo (hT : T.ok = true) : ∀ (e : Eo) {f : Option Expr} {X : Cx} {W : WX} {sc : Scope} {cl : Bool} {ex : Option Held}, Ctx T TX C X W N sc cl ex → troB T N sc cl (hxOf ex) e f = true → PO X f (tOs X.K TX b ex W (evo C b e))
  | .none, none, X, W, sc, cl, ex, cx, h => o_none
  | .none, some _, X, W, sc, cl, ex, cx, h => by simp [troB] at h
  | .some e, none, X, W, sc, cl, ex, cx, h => by simp [troB] at h
  | .some e, some f, X, W, sc, cl, ex, cx, h => o_some (sE hT e cx (by unfold troB at h; exact h))
theorem sIt (hT : T.ok = true) : ∀ (it : It) {tg f : Expr} {X : Cx} {W : WX} {sc : Scope}, Ctx T TX C X W N sc true none → tiB T N sc it tg f = true → PI X tg f (tI X.K TX b W (evi C b it))
  | .seq e, tg, f, X, W, sc, cx, h => i_seq (sE hT e cx (by unfold tiB at h; exact h))
  | .rng1 e, tg, f, X, W, sc, cx, h => by
    unfold tiB at h
    split at h
    · simp only [Bool.and_eq_true] at h
      obtain ⟨⟨⟨h1, h2⟩, h3⟩, h4⟩ := h
      have e2 := of_decide_eq_true h2
      subst e2
      exact i_rng1 (cx.gl h1).1 ((cx.free _ h3).2 (by decide +kernel)) (sE hT e cx h4) (star_of h4 _ _)
    · cases h
  | .rng2 a c, tg, f, X, W, sc, cx, h => by
    unfold tiB at h
    split at h
    · simp only [Bool.and_eq_true] at h
      obtain ⟨⟨⟨⟨h1, h2⟩, h3⟩, h4⟩, h5⟩ := h
      have e2 := of_decide_eq_true h2
      subst e2
      exact i_rng2 (cx.gl h1).1 ((cx.free _ h3).2 (by decide +kernel)) (sE hT a cx h4) (sE hT c cx h5) (fun es => star_of h4 es _) (star_of h5 _ _)
    · cases h
  | .rng3 a c, tg, f, X, W, sc, cx, h => by
    unfold tiB at h
    split at h
    · simp only [Bool.and_eq_true] at h
      obtain ⟨⟨⟨⟨h1, h2⟩, h3⟩, h4⟩, h5⟩ := h
      have e2 := of_decide_eq_true h2
      subst e2
      exact i_rng3 (cx.gl h1).1 ((cx.free _ h3).2 (by decide +kernel)) (sE hT a cx h4) (sE hT c cx h5) (fun es => star_of h4 es _) (fun es => star_of h5 es _)
    · cases h
  | .zip a c, tg, f, X, W, sc, cx, h => by
    unfold tiB at h
    split at h
    · simp only [Bool.and_eq_true] at h
      obtain ⟨⟨⟨⟨h1, h2⟩, h3⟩, h4⟩, h5⟩ := h
      have e2 := of_decide_eq_true h2
      subst e2
      exact i_zip (cx.gl h1).1 ((cx.free _ h3).2 (by decide +kernel)) (sE hT a cx h4) (sE hT c cx h5) (fun es => star_of h4 es _) (star_of h5 _ _)
    · cases h
  | .enum a, tg, f, X, W, sc, cx, h => by
    unfold tiB at h
    split at h
    · simp only [Bool.and_eq_true] at h
      obtain ⟨⟨⟨h1, h2⟩, h3⟩, h4⟩ := h
      have e2 := of_decide_eq_true h2
      subst e2
      exact i_enum (cx.gl h1).1 ((cx.free _ h3).2 (by decide +kernel)) (sE hT a cx h4) (star_of h4 _ _)
    · cases h
end
end
end MP
end
section
set_option Elab.async false
set_option linter.all false
set_option maxRecDepth 100000
set_option maxHeartbeats 1000000
/-! MPSound13: the look at statements; forms of statements. -/
namespace MP
open PySem PySem.Spec PyProof.Rows L2
section
variable (T : Tab) (N : List Str)
/-- a value that is no comprehension and may be given to names -/
def notComp : Expr → Bool
  | .ListComp _ _ _ _ => false
  | .SetComp _ _ _ _ => false
  | .DictComp _ _ _ _ _ => false
  | _ => true
/-- a tuple that is written out is unpacked as it stands only if its parts are constants -/
def unpackB : Expr → Bool
  | .Tuple vs _ _ => vs.all (foldedForSure 8)
  | _ => true
def isLc : E → Bool
  | .lc _ _ _ _ _ => true
  | .new (.lc _ _ _ _ _) => true
  | _ => false
mutual
def trS (sc : Scope) (cl : Bool) (hx : Option (Nat × Nat)) : St → Stmt → Bool
  | .asg t e, s => match s with
    | .Assign [g] v pos => match t with
      | .of (.name i) => match g with
        | .Name x p => atB N i x && locB sc x && !(hx.any fun q => decide (q.1 = i)) && trB T N sc cl hx e v && (notComp v || match v with
          | .ListComp _ _ s vp => isLc e && cl && decide (sc.kind = .function) && kindB sc x .local && (p.line == vp.line) && !(s.names.any fun q => q.1 == x && (q.2 == .local || q.2 == .cell))
          | _ => false)
        | _ => false
      | .of (.tup ts) => cl && tgB N false sc (.tup ts) g && trB T N sc cl hx e v && notComp v && unpackB v
      | .sub a i => cl && (match g with
        | .Subscript x y _ => trB T N sc cl hx a x && trB T N sc cl hx i y && !isSlice y
        | _ => false) && trB T N sc cl hx e v && notComp v
      | .att _ _ => false
    | _ => false
  | .augA _ _ _, _ => false
  | .par i j a c, s => match s with
    | .Assign [.Tuple [.Name x px, .Name y py] _ _] (.Tuple [u, v] _ _) _ => cl && atB N i x && atB N j y && !decide (i = j) && kindB sc x .local && kindB sc y .local && decide (sc.kind = .function) && (px.line == py.line) && !decide (x = y)
        && !([u, v].all (foldedForSure 8)) && !([u, v].all (constantsAlone 8)) && trB T N sc cl hx a u && trB T N sc cl hx c v
    | _ => false
  | .aug i o e, s => match s with
    | .AugAssign (.Name x _) .Add v _ => cl && (match o with
      | .add => true
      | _ => false) && atB N i x && locB sc x && trB T N sc cl hx e v
    | _ => false
  | .expr e, s => match s with
    | .Expr v _ => trB T N sc cl hx e v && notComp v
    | _ => false
  | .append a e, s => match s with
    | .Expr (.Call (.Attribute x f ap) [v] [] cp) _ => cl && decide (f = "append") && (ap.endLine == cp.line) && trB T N sc cl hx a x && trB T N sc cl hx e v && (match x with
      | .Name _ _ => true
      | .Subscript _ _ _ => true
      | _ => false)
    | _ => false
  | .ifs c p q, s => match s with
    | .If t u v _ => trB T N sc cl hx c t && trSs sc cl hx p u && trSs sc cl hx q v
    | _ => false
  | .fors t it p, s => match s with
    | .For g f u [] _ => cl && hx.isNone && tgB N false sc t g && tiB T N sc it g f && trSs sc cl hx p u
    | _ => false
  | .whiles c p, s => match s with
    | .While t u [] _ => cl && hx.isNone && trB T N sc cl hx c t && trSs sc cl hx p u
    | _ => false
  | .ret e, s => match s with
    | .Return (some v) _ => trB T N sc cl hx e v
    | _ => false
  | .retN, s => match s with
    | .Return none _ => true
    | _ => false
  | .raise c es, s => match s with
    | .Raise (some (.Call (.Name x _) [] [] _)) none _ => cl && gloB sc x && decide ((T.cls[c]?.map fun p => (p.1, p.2.1)) = some (x, [])) && (match es with
      | .nil => true
      | _ => false)
    | .Raise (some (.Call (.Name x _) (g :: gs) [] _)) none _ => cl && gloB sc x && decide ((T.cls[c]?.map fun p => (p.1, p.2.1.length)) = some (x, (g :: gs).length)) && decide ((g :: gs).length ≤ 1000) && trsB T N sc cl hx es (g :: gs)
    | _ => false
  | .tryo p c i h, s => match s with
    | .Try u [.ExceptHandler (some (.Name x _)) n (v :: vs) _] [] [] _ => cl && hx.isNone && gloB sc x && decide ((T.cls[c]?.map (·.1)) = some x) && trSs sc cl hx p u && (match i, n with
      | some k, some y => atB N k y && kindB sc y .local && trSs sc false (some (k, c)) h (v :: vs)
      | none, none => trSs sc false none h (v :: vs)
      | _, _ => false)
    | _ => false
  | .pass, s => match s with
    | .Pass _ => true
    | _ => false
  | .brk, s => match s with
    | .Break _ => true
    | _ => false
  | .cont, s => match s with
    | .Continue _ => true
    | _ => false
def trSs (sc : Scope) (cl : Bool) (hx : Option (Nat × Nat)) : Ss → List Stmt → Bool
  | .nil, ss => ss.isEmpty
  | .cons s ss, ts => match ts with
    | t :: ts => trS sc cl hx s t && trSs sc cl hx ss ts
    | [] => false
end
end
/-- where a statement stands -/
structure CtxS [RT] (T : Tab) (TX : Exc) (C : Nat → List PV → Sto → R PV) (X : Cx) (W : WX) (N : List Str) (sc : Scope) (cl : Bool) (ex : Option Held) : Prop extends Ctx T TX C X W N sc cl ex where
  stk : X.stack = X.env :: X.outer
  frame : X.env.frame = some X.env.locals
  po : cl = true → PassesOwn (model X.prog X.w) X.A X.env X.xe
  fn : ∀ x, X.fn x = true
section
variable [RT] {T : Tab} {TX : Exc} {C : Nat → List PV → Sto → R PV} {X : Cx} {W : WX} {N : List Str} {sc : Scope} {b : Nat} {cl : Bool} {ex : Option Held}
variable {x y z tg : Expr} {a c d : E} {pos : Pos}
abbrev tSt (K : PySem.W.Frag) (TX : Exc) (b : Nat) (ex : Option Held) (W : WX) (r : Env → Sto → RS) : TS := tS K TX b ex W r
theorem swaps_of {v : Expr} (h : notComp v = true) (o : Option Expr) (l : Nat) (env : PySem.Env) : swapsWith v o l env = pure false := by
  cases v <;> first | rfl | cases h
theorem sole_of {v : Expr} (h : notComp v = true) (t : Expr) (l : Nat) (env : PySem.Env) : swapsWithSole [t] v l env = pure false := swaps_of h _ _ _
theorem stores_sub {v u i : Expr} {p : Pos} (env : PySem.Env) : swappedStores [.Subscript u i p] v env = pure none := by
  cases v <;> rfl
theorem stores_tup {v : Expr} {ts : List Expr} {k : Nat} {p : Pos} (h : unpackB v = true) (env : PySem.Env) : swappedStores [.Tuple ts k p] v env = pure none := by
  cases v with
  | Tuple vs k2 p2 =>
    have h : vs.all (foldedForSure 8) = true := h
    unfold swappedStores
    simp only [pure_bind]
    split
    · rfl
    · split
      · rfl
      · split
        · rfl
        · first | rfl | rw [if_pos h]
  | _ => rfl
theorem stores_par {u v : Expr} {x y : Str} {px py p p2 : Pos} {k k2 : Nat} (env : PySem.Env) (hk : env.scope.kind = .function) (hx : env.scope.names.lookup x = some .local) (hy : env.scope.names.lookup y = some .local) (hl : (px.line == py.line) = true) (hne : x ≠ y)
    (h1 : ([u, v].all (foldedForSure 8)) = false) (h2 : ([u, v].all (constantsAlone 8)) = false) (su : ∀ w q, u ≠ .Starred w q) (sv : ∀ w q, v ≠ .Starred w q) : swappedStores [.Tuple [.Name x px, .Name y py] k p] (.Tuple [u, v] k2 p2) env = pure (some [x, y]) := by
  have hb : env.blockKind = .function := by unfold Env.blockKind; rw [hk]; rfl
  have kx : env.kindOf x = some .local := hx
  have ky : env.kindOf y = some .local := hy
  have hl' : px.line = py.line := by simpa using hl
  have nu : (match u with
    | .Starred .. => true
    | _ => false) = false := by cases u <;> first | rfl | exact absurd rfl (su _ _)
  have nv : (match v with
    | .Starred .. => true
    | _ => false) = false := by cases v <;> first | rfl | exact absurd rfl (sv _ _)
  unfold swappedStores
  simp only [pure_bind, List.length_cons, List.length_nil, hb, bne_self_eq_false, Bool.or_false, List.any_cons, List.any_nil, nu, nv, kx, ky, List.head?_cons, Option.map_some, Option.getD_some, Expr.pos, List.filterMap_cons, hl', beq_self_eq_true, Bool.and_self, if_true, List.filterMap_nil, h1, h2, Bool.false_eq_true, if_false]
  have e2 : ([x, y] : List Str).eraseDups.length = 2 := by
    have : (y == x) = false := by simpa using fun e => hne e.symm
    simp [List.eraseDups_cons, List.filter, this]
  simp [e2]
end
end MP
end
section
set_option Elab.async false
set_option linter.all false
set_option maxRecDepth 100000
set_option maxHeartbeats 1000000
/-! MPSound14: each form of a statement. -/
namespace MP
open PySem PySem.Spec PyProof.Rows L2
section
variable [RT] {T : Tab} {TX : Exc} {C : Nat → List PV → Sto → R PV} {X : Cx} {W : WX} {N : List Str} {sc : Scope} {b : Nat} {cl : Bool} {ex : Option Held}
variable {x y z tg : Expr} {a c d : E} {pos : Pos}
theorem u_name (cx : CtxS T TX C X W N sc cl ex) {i : Nat} {n : Str} {v : Expr} {p : Pos} (h1 : atB N i n = true) (h2 : locB sc n = true) (h3 : ∀ q, hxOf ex = some q → q.1 ≠ i) (he : PE X v (tE X.K TX b ex W (ev C b a))) (hs : swapsWith v (some (.Name n p)) pos.line X.env = pure false) :
    PS X (.Assign [.Name n p] v pos) (tSt X.K TX b ex W (xst C b (.asg (.of (.name i)) a))) := by
  refine PS.weak (ps_set (i := i) (by rw [cx.names]; exact cx.nd) (by rw [cx.names]; exact atB_ok h1) (by rw [cx.scope]; exact locB_ok h2) he hs (.inl (cx.fn n))) fun D τ H ⟨ρ, σ, S, so, eo, h⟩ => ?_
  unfold xst at h
  refine ⟨ρ, σ, S, so, eo, At.mono (AtS.st (rel := relE X.K) eo h) fun w H1 ⟨ρ1, v, S1, _, g1, so1, eo1, r1, h1⟩ => ?_⟩
  unfold bindT at h1
  exact h1 ρ1 H1 _ .refl so1 (eo1.setH i r1 fun q hq => h3 (q.i, q.c) (by rw [hq]; rfl))
/-- the ends, or they are met once a thing is locked -/
def lkD (D : Ends) : Ends := { D with nx := fun σ H => D.nx σ H ∨ ∃ p u, H p = some u ∧ Mut (some u) ∧ ∀ o, D.nx σ (upd H p (.frz o u)) }
theorem PS.lock {X : Cx} {s : Stmt} {t : TS} (h : PS X s t) : PS X s (fun D σ H => t (lkD D) σ H) :=
  ⟨fun pins s σ H D I q => thn (h.run pins s σ H _ I q) fun f s' z => by
    cases f with
    | next =>
      obtain ⟨σ', H', J, z⟩ := z
      rcases z with z | ⟨p, u, e, mu, z⟩
      · exact ⟨σ', H', J, z⟩
      · obtain ⟨o, J'⟩ := J.lock e mu
        exact ⟨σ', _, J', z o⟩
    | _ => exact z⟩
theorem u_lc (cx : CtxS T TX C X W N sc true none) {i : Nat} {n : Str} {p : Pos} {t : Tg} {own : List Nat} {it : It} {co : Eo} {e : E} {elt iter : Expr} {ifs : List Expr} {scope : Scope} {vp : Pos} (h1 : atB N i n = true) (h2 : kindB sc n .local = true) (hkf : sc.kind = .function) (hl : (p.line == vp.line) = true)
    (hnm : (scope.names.any fun q => q.1 == n && (q.2 == .local || q.2 == .cell)) = false) (hb : blkC N sc scope (own.map fun i => ((N[i]?).getD Str.empty, i)) = true)
    (htg : tgB N true (relS scope sc) t tg = true) (hown : ∀ i ∈ t.slots, i ∈ own) (hi : PI X tg iter (tI X.K TX b W (evi C b it))) (hs : ∀ x, foldedSetIterable iter X.env x = pure x)
    (ht : ∀ Y : Cx, Y.K = X.K → Ctx T TX C Y noW N (relS scope sc) true none → PTs Y ifs (tTs Y.K TX b none noW (evc C b co)))
    (he : ∀ Y : Cx, Y.K = X.K → Ctx T TX C Y noW N (relS scope sc) true none → PE Y elt (tE Y.K TX b none noW (ev C b e))) :
    PS X (.Assign [.Name n p] (.ListComp elt [⟨tg, iter, ifs, 0⟩] scope vp) pos) (tSt X.K TX b none W (xst C b (.asg (.of (.name i)) (.lc t own it co e)))) := by
  have cx' := cx.toCtx
  have ln : X.env.scope.names.lookup n = some .local := by rw [cx.scope]; exact kindB_ok h2
  refine PS.weak (PS.lock (ps_setLc (i := i) (g := gO X.K TX own t) (tt := tTs X.K TX b none noW (evc C b co)) (te := tE X.K TX b none noW (ev C b e)) (cx.calm rfl) (by rw [cx.names]; exact cx.nd) (by rw [cx.names]; exact atB_ok h1) ln
    (sw_true (by rw [cx.scope]; exact hkf) ln hl hnm) hi (blkOk_by (by rw [cx.names, cx.scope]; exact hb))
    (fun s H A cs fp => g_own (X := X.blk s H scope (compEnvC scope cs A X.env) fp) (TX := TX) (own := own) (cx.calm rfl) cx.names cx.nd (cx'.blk s H scope A cs fp).scope (lo := true) (fun q => by cases q) htg hown)
    (fun s H A cs fp => ht (X.blk s H scope (compEnvC scope cs A X.env) fp) rfl (cx'.blk s H scope A cs fp)) (fun s H A cs fp => he (X.blk s H scope (compEnvC scope cs A X.env) fp) rfl (cx'.blk s H scope A cs fp)) hs)) fun D τ H ⟨ρ, σ, S, so, eo, h⟩ => ?_
  unfold xst at h
  exact lc_read (N := N) (C := C) (it := it) ⟨ρ, σ, S, so, eo, At.mono (AtS.st (rel := relE X.K) eo h) fun w H1 ⟨ρ1, v, S1, _, g1, so1, eo1, r1, h1⟩ => by
    unfold bindT at h1
    exact h1 ρ1 H1 _ .refl so1 (eo1.set i r1)⟩
theorem u_lcN (cx : CtxS T TX C X W N sc true none) {i : Nat} {n : Str} {p : Pos} {t : Tg} {own : List Nat} {it : It} {co : Eo} {e : E} {elt iter : Expr} {ifs : List Expr} {scope : Scope} {vp : Pos} (h1 : atB N i n = true) (h2 : kindB sc n .local = true) (hkf : sc.kind = .function) (hl : (p.line == vp.line) = true)
    (hnm : (scope.names.any fun q => q.1 == n && (q.2 == .local || q.2 == .cell)) = false) (hb : blkC N sc scope (own.map fun i => ((N[i]?).getD Str.empty, i)) = true)
    (htg : tgB N true (relS scope sc) t tg = true) (hown : ∀ i ∈ t.slots, i ∈ own) (hi : PI X tg iter (tI X.K TX b W (evi C b it))) (hs : ∀ x, foldedSetIterable iter X.env x = pure x)
    (ht : ∀ Y : Cx, Y.K = X.K → Ctx T TX C Y noW N (relS scope sc) true none → PTs Y ifs (tTs Y.K TX b none noW (evc C b co)))
    (he : ∀ Y : Cx, Y.K = X.K → Ctx T TX C Y noW N (relS scope sc) true none → PE Y elt (tE Y.K TX b none noW (ev C b e))) :
    PS X (.Assign [.Name n p] (.ListComp elt [⟨tg, iter, ifs, 0⟩] scope vp) pos) (tSt X.K TX b none W (xst C b (.asg (.of (.name i)) (.new (.lc t own it co e))))) := by
  have cx' := cx.toCtx
  have ln : X.env.scope.names.lookup n = some .local := by rw [cx.scope]; exact kindB_ok h2
  refine PS.weak (PS.lock (ps_setLc (i := i) (g := gO X.K TX own t) (tt := tTs X.K TX b none noW (evc C b co)) (te := tE X.K TX b none noW (ev C b e)) (cx.calm rfl) (by rw [cx.names]; exact cx.nd) (by rw [cx.names]; exact atB_ok h1) ln
    (sw_true (by rw [cx.scope]; exact hkf) ln hl hnm) hi (blkOk_by (by rw [cx.names, cx.scope]; exact hb))
    (fun s H A cs fp => g_own (X := X.blk s H scope (compEnvC scope cs A X.env) fp) (TX := TX) (own := own) (cx.calm rfl) cx.names cx.nd (cx'.blk s H scope A cs fp).scope (lo := true) (fun q => by cases q) htg hown)
    (fun s H A cs fp => ht (X.blk s H scope (compEnvC scope cs A X.env) fp) rfl (cx'.blk s H scope A cs fp)) (fun s H A cs fp => he (X.blk s H scope (compEnvC scope cs A X.env) fp) rfl (cx'.blk s H scope A cs fp)) hs)) fun D τ H ⟨ρ, σ, S, so, eo, h⟩ => ?_
  unfold xst at h
  exact lc_readN (N := N) (C := C) (it := it) ⟨ρ, σ, S, so, eo, At.mono (AtS.st (rel := relE X.K) eo h) fun w H1 ⟨ρ1, v, S1, _, g1, so1, eo1, r1, h1⟩ => by
    unfold bindT at h1
    exact h1 ρ1 H1 _ .refl so1 (eo1.set i r1)⟩
theorem u_tup (cx : CtxS T TX C X W N sc true none) {ts : Tgs} {g v : Expr} (hg : tgB N false sc (.tup ts) g = true) (he : PE X v (tE X.K TX b none W (ev C b a))) (hn : notComp v = true) (hu : unpackB v = true) : PS X (.Assign [g] v pos) (tSt X.K TX b none W (xst C b (.asg (.of (.tup ts)) a))) := by
  have pg := g_ok (TX := TX) (X := X) (cx.calm rfl) cx.names cx.nd cx.scope (lo := false) (fun _ x _ => cx.fn x) hg
  obtain ⟨es, k, p, rfl⟩ : ∃ es k p, g = .Tuple es k p := by
    unfold tgB at hg
    split at hg
    · exact ⟨_, _, _, rfl⟩
    · cases hg
  refine PS.weak (ps_asg he pg (sole_of hn _ _ _) (stores_tup hu _) (by rfl)) fun D τ H ⟨ρ, σ, S, so, eo, h⟩ => ?_
  unfold xst at h
  refine ⟨ρ, σ, S, so, eo, At.mono (AtS.st (rel := relE X.K) eo h) fun w H1 ⟨ρ1, v, S1, _, g1, so1, eo1, r1, h1⟩ => ?_⟩
  cases e : bindT (.tup ts) v σ with
  | none => rw [e] at h1; exact h1.elim
  | some σ1 =>
    rw [e] at h1
    exact ⟨ρ1, σ, σ1, v, eo1, r1, e, fun τ' eo' => h1 ρ1 H1 τ' .refl so1 eo'⟩
theorem und_set {n : Nat} {v : PV} (hv : v.und n = true) : ∀ {xs : List PV} (j : Nat), PV.unds n xs = true → PV.unds n (xs.set j v) = true
  | [], _, _ => rfl
  | x :: xs, 0, h => by
    have h' := Bool.and_eq_true_iff.mp (by simpa [PV.unds] using h)
    simp [PV.unds, hv, h'.2]
  | x :: xs, j + 1, h => by
    have h' := Bool.and_eq_true_iff.mp (by simpa [PV.unds] using h)
    simp [PV.unds, h'.1, und_set hv j h'.2]
theorem und_app {n : Nat} {v : PV} (hv : v.und n = true) : ∀ {xs : List PV}, PV.unds n xs = true → PV.unds n (xs ++ [v]) = true
  | [], _ => by simp [PV.unds, hv]
  | x :: xs, h => by
    have h' := Bool.and_eq_true_iff.mp (by simpa [PV.unds] using h)
    simp [PV.unds, h'.1, und_app hv h'.2]
/-- a list or a dict is written -/
def rSetA (K : PySem.W.Frag) (b : Nat) : TSet := fun o k v H Q => rSetL o k v H Q ∨ ∃ ρ S j y x a c, StOk K b ρ S H ∧ ρ[j]? = some a ∧ o = .ref a ∧ RelP K ρ H y k ∧ RelP K ρ H x v ∧ dPut S j y x = some c ∧ ∀ H', Grow b ρ ρ S (S.wr b j c x.pure) H H' → StOk K b ρ (S.wr b j c x.pure) H' → Keep H H' → Q H'
theorem set_any (hu : X.A.units + 1 < cLine) : PSet X (rSetA X.K b) := by
  intro pins s σ H o k v uo uk uv Q I ro rk rv h
  rcases h with h | ⟨ρ, S, j, y, x, a, c, so, ea, rfl, ry, rx, hp, q⟩
  · exact set_list pins s σ H o k v uo uk uv Q I ro rk rv h
  · obtain rfl : uo = Value.ref a := ro
    exact g_put hu I so ea ry rk rx rv hp fun s' H' I' g so' kp => ⟨H', I', q H' g so' kp⟩
theorem u_sub (cx : CtxS T TX C X W N sc true ex) {u i v : Expr} {p : Pos} (ha : PE X u (tE X.K TX b ex W (ev C b c))) (hi : PE X i (tE X.K TX b ex W (ev C b d))) (hsl : isSlice i = false) (he : PE X v (tE X.K TX b ex W (ev C b a))) (hn : notComp v = true) :
    PS X (.Assign [.Subscript u i p] v pos) (tSt X.K TX b ex W (xst C b (.asg (.sub c d) a))) := by
  have pg := pg_sub (pos := p) ha hi (set_any (b := b) (by have := cx.unit; omega)) (by
    intro w
    cases i <;> first | rfl | cases hsl)
  refine PS.weak (ps_asg he pg (sole_of hn _ _ _) (stores_sub _) (by rfl)) fun D τ H ⟨ρ, σ, S, so, eo, h⟩ => ?_
  unfold xst at h
  refine ⟨ρ, σ, S, so, eo, At.mono (AtS.st (rel := relE X.K) eo h) fun w H1 ⟨ρ1, v, S1, _, g1, so1, eo1, r1, h1⟩ => ?_⟩
  refine ⟨ρ1, σ, S1, so1, eo1, At.mono (AtS.st (rel := relE X.K) eo1 h1) fun w2 H2 ⟨ρ2, o, S2, _, g2, so2, eo2, r2, h2⟩ => ?_⟩
  refine ⟨ρ2, σ, S2, so2, eo2, At.mono (AtS.st (rel := relE X.K) eo2 h2) fun w3 H3 ⟨ρ3, k, S3, _, g3, so3, eo3, r3, h3⟩ => ?_⟩
  have r1' := RelP.mono (g2.trans g3).keep (g2.trans g3).pre r1
  have r2' := RelP.mono g3.keep g3.pre r2
  unfold subR at h3
  split at h3
  · obtain ⟨p, rfl, ep⟩ := r2'.of_ref
    split at h3
    · rename_i xs hx
      split at h3
      · split at h3
        · rename_i j hj
          obtain rfl := RelP.of_int r3
          obtain ⟨vs, rs, hp⟩ := so3.lst hx ep
          refine .inl ⟨p, vs, _, j, rfl, rfl, hp, by rw [← rs.length]; exact hj, ?_⟩
          exact h3 ρ3 _ τ (.write hx ep hp (fun m hm hv => und_set hv j hm)) (so3.write hx ep (rs.set r1' j)) (eo3.mono (.wlst hp) (List.prefix_refl _))
        · exact h3.elim
      · exact h3.elim
    · split at h3
      · rename_i c' hc
        exact .inr ⟨ρ3, S3, _, _, _, p, c', so3, ep, rfl, r3, r1', hc, fun H' g so' kp => h3 ρ3 H' τ g so' (eo3.mono kp (List.prefix_refl _))⟩
      · exact h3.elim
  · exact h3.elim
theorem u_par (cx : CtxS T TX C X W N sc true none) {i j : Nat} {n m : Str} {u v : Expr} {px py p p2 : Pos} {k k2 : Nat} (h1 : atB N i n = true) (h2 : atB N j m = true) (hij : i ≠ j) (hn : kindB sc n .local = true) (hm : kindB sc m .local = true) (hk : sc.kind = .function)
    (hl : (px.line == py.line) = true) (hne : n ≠ m) (hf : ([u, v].all (foldedForSure 8)) = false) (hc : ([u, v].all (constantsAlone 8)) = false) (ha : PE X u (tE X.K TX b none W (ev C b a))) (hb : PE X v (tE X.K TX b none W (ev C b c)))
    (su : ∀ es, starEach (u :: es) X.env = (false, eval u X.env) :: starEach es X.env) (sv : starEach [v] X.env = [(false, eval v X.env)]) (nu : ∀ w q, u ≠ .Starred w q) (nv : ∀ w q, v ≠ .Starred w q) :
    PS X (.Assign [.Tuple [.Name n px, .Name m py] k p] (.Tuple [u, v] k2 p2) pos) (tSt X.K TX b none W (xst C b (.par i j a c))) := by
  have ln : X.env.scope.names.lookup n = some .local := by rw [cx.scope]; exact kindB_ok hn
  have lm : X.env.scope.names.lookup m = some .local := by rw [cx.scope]; exact kindB_ok hm
  refine PS.weak (ps_par (i := i) (j := j) (cx.calm rfl) (by rw [cx.names]; exact cx.nd) (by rw [cx.names]; exact atB_ok h1) (by rw [cx.names]; exact atB_ok h2) hij ln lm (pa_cons ha (pa_cons hb pa_nil sv) (su _))
    (stores_par _ (by rw [cx.scope]; exact hk) ln lm hl hne hf hc nu nv) rfl) fun D τ H ⟨ρ, σ, S, so, eo, h⟩ => ?_
  unfold xst at h
  refine ⟨ρ, σ, S, so, eo, At.mono (AtS.st (rel := relE X.K) eo h) fun w H1 ⟨ρ1, v, S1, _, g1, so1, eo1, r1, h1⟩ => ?_⟩
  refine ⟨ρ1, σ, S1, so1, eo1, At.mono (AtS.st (rel := relE X.K) eo1 h1) fun w2 H2 ⟨ρ2, o, S2, _, g2, so2, eo2, r2, h2⟩ => ?_⟩
  exact ⟨w, w2, rfl, h2 ρ2 H2 _ .refl so2 ((eo2.set i (RelP.mono g2.keep g2.pre r1)).set j r2)⟩
theorem u_aug (cx : CtxS T TX C X W N sc true ex) {i : Nat} {n : Str} {v : Expr} {p : Pos} (h1 : atB N i n = true) (h2 : locB sc n = true) (h3 : ∀ q, hxOf ex = some q → q.1 ≠ i) (he : PE X v (tE X.K TX b ex W (ev C b a))) : PS X (.AugAssign (.Name n p) .Add v pos) (tSt X.K TX b ex W (xst C b (.aug i .add a))) := by
  refine PS.weak (ps_aug (i := i) (by rw [cx.names]; exact cx.nd) (by rw [cx.names]; exact atB_ok h1) (by rw [cx.scope]; exact locB_ok h2) he ip_add (.inl (cx.fn n))) fun D τ H ⟨ρ, σ, S, so, eo, h⟩ => ?_
  unfold xst at h
  split at h
  · rename_i u hu
    have hne : ∀ q, ex = some q → q.i ≠ i := fun q hq => h3 (q.i, q.c) (by rw [hq]; rfl)
    obtain ⟨w0, e0, r0⟩ := eo.val i u hu hne
    refine ⟨w0, e0, ρ, σ, S, so, eo, At.mono (AtS.st (rel := relE X.K) eo h) fun w H1 ⟨ρ1, v, S1, _, g1, so1, eo1, r1, h1⟩ => ?_⟩
    split at h1
    · obtain rfl := RelP.of_int r1
      obtain rfl := r0.of_int
      exact ⟨_, _, rfl, rfl, h1 ρ1 H1 _ .refl so1 (eo1.setH i (.int _) hne)⟩
    · exact h1.elim
  · exact h.elim
theorem u_expr {v : Expr} (he : PE X v (tE X.K TX b ex W (ev C b a))) (hn : notComp v = true) : PS X (.Expr v pos) (tSt X.K TX b ex W (xst C b (.expr a))) := by
  refine PS.weak (ps_expr he (swaps_of hn _ _ _)) fun D τ H ⟨ρ, σ, S, so, eo, h⟩ => ?_
  unfold xst at h
  exact ⟨ρ, σ, S, so, eo, At.mono (AtS.st (rel := relE X.K) eo h) fun w H1 ⟨ρ1, v, S1, _, g1, so1, eo1, r1, h1⟩ => h1 ρ1 H1 τ .refl so1 eo1⟩
theorem u_append {u v : Expr} {ap cp : Pos} (ha : PE X u (tE X.K TX b ex W (ev C b c))) (he : PE X v (tE X.K TX b ex W (ev C b a))) (hbase : attributeBase u "append" X.env (eval u X.env) = eval u X.env) (hline : (ap.endLine == cp.line) = true)
    (sv : starEach [v] X.env = [(false, eval v X.env)]) : PS X (.Expr (.Call (.Attribute u "append" ap) [v] [] cp) pos) (tSt X.K TX b ex W (xst C b (.append c a))) := by
  refine PS.weak (ps_expr (pe_bm PySem.F.plainAttrs_list PySem.F.slot_list_append PySem.F.type_list_append mt_append ha (pa_cons he pa_nil sv) hbase (by rw [sv]; rfl) hline sv rfl) rfl) fun D τ H ⟨ρ, σ, S, so, eo, h⟩ => ?_
  unfold xst at h
  refine ⟨ρ, σ, S, so, eo, At.mono (AtS.st (rel := relE X.K) eo h) fun w H1 ⟨ρ1, o, S1, _, g1, so1, eo1, r1, h1⟩ => ?_⟩
  split at h1
  · split at h1
    · rename_i A _ ys hy
      obtain ⟨p, rfl, ep⟩ := RelP.of_ref r1
      obtain ⟨us, _, hp⟩ := so1.lst hy ep
      refine ⟨.inl ⟨rfl, _, .inl (.inl hp)⟩, ρ1, σ, S1, so1, eo1, At.mono (AtS.st (rel := relE X.K) eo1 h1) fun w2 H2 ⟨ρ2, v, S2, _, g2, so2, eo2, r2, h2⟩ => ?_⟩
      have ep2 := pre_get g2.pre ep
      split at h2
      · rename_i xs hx
        split at h2
        · rename_i hlen
          obtain ⟨vs, rs, hp2⟩ := so2.lst hx ep2
          refine ⟨p, vs, w2, rfl, rfl, hp2, by rw [line_eq, ← rs.length]; exact hlen, ?_⟩
          exact h2 ρ2 _ τ (.write hx ep2 hp2 (fun m hm hv => und_app hv hm)) (so2.write hx ep2 (rs.app (.cons r2 .nil))) (eo2.mono (.wlst hp2) (List.prefix_refl _))
        · exact h2.elim
      · exact h2.elim
    · exact h1.elim
  · exact h1.elim
theorem u_if {t u : List Stmt} {p q : Ss} (hc : PT X x (tTs X.K TX b ex W (evT C b a))) (h1 : PSs X t (tSt X.K TX b ex W (xss C b p))) (h2 : PSs X u (tSt X.K TX b ex W (xss C b q))) : PS X (.If x t u pos) (tSt X.K TX b ex W (xst C b (.ifs a p q))) := by
  refine PS.weak (ps_if hc h1 h2) fun D τ H ⟨ρ, σ, S, so, eo, h⟩ => ?_
  unfold xst at h
  refine ⟨ρ, σ, S, so, eo, At.mono (AtS.st (rel := relT) eo h) fun w H1 ⟨ρ1, v, S1, _, g1, so1, eo1, r1, h1⟩ => ?_⟩
  obtain rfl : v = w := r1
  cases v with
  | true => exact iteT ⟨ρ1, σ, S1, so1, eo1, h1⟩
  | false => exact iteF ⟨ρ1, σ, S1, so1, eo1, h1⟩
theorem u_ret {v : Expr} (he : PE X v (tE X.K TX b ex W (ev C b a))) : PS X (.Return (some v) pos) (tSt X.K TX b ex W (xst C b (.ret a))) := by
  refine PS.weak (ps_ret he) fun D τ H ⟨ρ, σ, S, so, eo, h⟩ => ?_
  unfold xst at h
  exact ⟨ρ, σ, S, so, eo, At.mono (AtS.st (rel := relE X.K) eo h) fun w H1 ⟨ρ1, v, S1, _, g1, so1, eo1, r1, h1⟩ => h1 ρ1 H1 w .refl so1 r1⟩
theorem u_retN : PS X (.Return none pos) (tSt X.K TX b ex W (xst C b .retN)) := by
  refine PS.weak ps_retN fun D τ H ⟨ρ, σ, S, so, eo, h⟩ => ?_
  unfold xst at h
  exact h ρ H .non .refl so .non
theorem u_pass : PS X (.Pass pos) (tSt X.K TX b ex W (xst C b .pass)) := PS.weak ps_pass fun D τ H ⟨ρ, σ, S, so, eo, h⟩ => by
  unfold xst at h
  exact h ρ H τ .refl so eo
theorem u_brk : PS X (.Break pos) (tSt X.K TX b ex W (xst C b .brk)) := PS.weak ps_break fun D τ H ⟨ρ, σ, S, so, eo, h⟩ => by
  unfold xst at h
  exact h ρ H τ .refl so eo
theorem u_cont : PS X (.Continue pos) (tSt X.K TX b ex W (xst C b .cont)) := PS.weak ps_continue fun D τ H ⟨ρ, σ, S, so, eo, h⟩ => by
  unfold xst at h
  exact h ρ H τ .refl so eo
theorem u_nil : PSs X [] (tSt X.K TX b ex W (xss C b .nil)) := PSs.weak pss_nil fun D τ H ⟨ρ, σ, S, so, eo, h⟩ => by
  unfold xss at h
  exact h ρ H τ .refl so eo
theorem u_cons {s : Stmt} {ss : List Stmt} {p : MP.St} {q : Ss} (h1 : PS X s (tSt X.K TX b ex W (xst C b p))) (h2 : PSs X ss (tSt X.K TX b ex W (xss C b q))) : PSs X (s :: ss) (tSt X.K TX b ex W (xss C b (.cons p q))) := by
  refine PSs.weak (pss_cons h1 h2) fun D τ H ⟨ρ, σ, S, so, eo, h⟩ => ?_
  unfold xss at h
  refine ⟨ρ, σ, S, so, eo, ?_⟩
  cases e : xst C b p σ S with
  | next σ1 S1 =>
    rw [e] at h
    exact fun ρ' H' τ' g so' eo' => ⟨ρ', σ1, S1, so', eo', AtS.grow g h⟩
  | ret v S1 => rw [e] at h; exact h
  | brk σ1 S1 => rw [e] at h; exact h
  | cont σ1 S1 => rw [e] at h; exact h
  | exc k as σ1 S1 => rw [e] at h; exact h
  | bad => rw [e] at h; exact h.elim
end
end MP
end
section
set_option Elab.async false
set_option linter.all false
set_option maxRecDepth 100000
set_option maxHeartbeats 1000000
/-! MPSoundH: exceptions that are made with arguments. -/
namespace MP
open PySem PySem.Spec PyProof.Rows L2
theorem upd_mid {H : Hp} {a d : Addr} {A A' B : HO} (h : d ≠ a) : upd (upd (upd H d A) a B) d A' = upd (upd H d A') a B := by
  funext b
  by_cases h1 : b = d
  · subst h1
    rw [upd_same, upd_ne h, upd_same]
  · rw [upd_ne h1]
    by_cases h2 : b = a
    · subst h2
      rw [upd_same, upd_same]
    · rw [upd_ne h2, upd_ne h2, upd_ne h1, upd_ne h1]
/-- the rows of an own __init__ that stores its arguments -/
def initB : List Str → List Stmt → Bool
  | [], ss => ss.isEmpty
  | f :: fs, ss => match ss with
    | .Assign [.Attribute (.Name s _) g _] (.Name y _) _ :: r => decide (s = "self") && decide (g = f) && decide (y = f) && nameB f && initB fs r
    | _ => false
theorem zip_snoc : ∀ {done : List Str} {wd : List V} {f : Str} {w : V}, done.length = wd.length → ((done ++ [f]).zip (wd ++ [w])).reverse = (f, w) :: (done.zip wd).reverse := by
  intro done wd f w h
  rw [List.zip_append h]
  simp
section
variable {X : Cx} {C : Addr} {fs : List Str}
/-- where an own __init__ stands, done of its rows being run -/
def tIni (K : PySem.W.Frag) (C : Addr) (fs done : List Str) : TS := fun D σ H => ∃ a ws H0, σ = (V.ref a :: ws).map some ∧ ws.length = fs.length ∧ H0 a = some (exo a C none) ∧
  ((done = [] ∧ H = H0 ∧ ∀ dx, H0 dx = none → dx ≠ a → D.nx σ (upd (upd H0 dx (exd dx (fs.zip ws).reverse)) a (exo a C (some dx)))) ∨
    ∃ dx, done ≠ [] ∧ dx ≠ a ∧ H = upd (upd H0 dx (exd dx (done.zip (ws.take done.length)).reverse)) a (exo a C (some dx)) ∧ D.nx σ (upd (upd H0 dx (exd dx (fs.zip ws).reverse)) a (exo a C (some dx))))
theorem pss_ini (hN : X.N = ("self" : Str) :: fs) (nd : (("self" : Str) :: fs).Nodup) (vis : ∀ x ∈ ("self" : Str) :: fs, Vis X.env.scope x) (T : OexC X.K C) (no : ∀ f ∈ fs, PySem.W.findIn X.K (.ref C) f = some none) (few : fs.length ≤ 900) :
    ∀ (todo done : List Str) (ss : List Stmt), fs = done ++ todo → initB todo ss = true → (todo = [] → done ≠ []) → PSs X ss (tIni X.K C fs done)
  | [], done, ss, hd, hb, he => by
    have e : ss = [] := by simpa [initB] using hb
    subst e
    refine PSs.weak pss_nil fun D σ H ⟨a, ws, H0, e1, e2, e3, h⟩ => ?_
    rcases h with ⟨h, _⟩ | ⟨dx, _, _, rfl, h⟩
    · exact absurd h (he rfl)
    · have ed : done = fs := by rw [hd, List.append_nil]
      rw [ed, ← e2, List.take_length]
      exact h
  | f :: todo, done, ss, hd, hb, he => by
    unfold initB at hb
    split at hb
    · rename_i s p1 g p2 y p3 pos r
      simp only [Bool.and_eq_true] at hb
      obtain ⟨⟨⟨⟨h1, h2⟩, h3⟩, h4⟩, h5⟩ := hb
      have h1 : s = "self" := of_decide_eq_true h1
      have h2 : g = f := of_decide_eq_true h2
      have h3 : y = f := of_decide_eq_true h3
      subst h1 h2 h3
      haveI : RT := ⟨fun _ => 0, fun _ => []⟩
      obtain ⟨n1, n2, _⟩ := nameB_ok h4
      have ih := pss_ini hN nd vis T no few todo (done ++ [y]) r (by rw [hd, List.append_assoc]; rfl) h5 (fun _ => by simp)
      have hf : y ∈ fs := by rw [hd]; simp
      have at0 : X.N[0]? = some ("self" : Str) := by rw [hN]; rfl
      have atf : X.N[done.length + 1]? = some y := by rw [hN, hd]; simp
      have ps : PE X (.Name "self" p1) (tVar 0) := pe_var (i := 0) at0 (vis _ List.mem_cons_self) (by decide) (by decide)
      have pf : PE X (.Name y p3) (tVar (done.length + 1)) := pe_var (i := done.length + 1) atf (vis _ (List.mem_cons_of_mem _ hf)) n1 n2
      refine PSs.weak (pss_cons (ps_ost (f := y) ps pf rfl) ih) fun D σ H ⟨a, ws, H0, e1, e2, e3, h⟩ => ?_
      have hl : done.length < ws.length := by rw [e2, hd]; simp
      have gw : σ[done.length + 1]? = some (some (ws[done.length])) := by rw [e1]; simp [hl]
      have g0 : σ[0]? = some (some (.ref a)) := by rw [e1]; rfl
      have tk : ws.take (done ++ [y]).length = ws.take done.length ++ [ws[done.length]] := by
        rw [List.length_append, List.length_singleton, List.take_add_one]
        simp [hl]
      have zl : done.length = (ws.take done.length).length := by rw [List.length_take]; omega
      refine ⟨ws[done.length], gw, .ref a, g0, a, C, rfl, T, no y hf, ?_⟩
      rcases h with ⟨rfl, rfl, h⟩ | ⟨dx, hn, hne, rfl, h⟩
      · refine .inl ⟨e3, fun dx n ne => ⟨a, ws, H, e1, e2, e3, .inr ⟨dx, by simp, ne, ?_, h dx n ne⟩⟩⟩
        rw [tk]
        rfl
      · refine .inr ⟨dx, _, upd_same, by rw [upd_ne hne]; exact upd_same, ?_, a, ws, H0, e1, e2, e3, .inr ⟨dx, by simp, hne, ?_, h⟩⟩
        · rw [List.length_reverse, List.length_zip, ← zl, Nat.min_self]
          have : done.length ≤ fs.length := by rw [hd]; simp
          omega
        · rw [upd_mid hne, tk, zip_snoc zl]
    · cases hb
end
theorem ini_ok {P : Program} {w : World} {K : PySem.W.Frag} {mg : Str → Option Value} {base : Heap} {x qual : Str} {params : Arguments} {body : List Stmt} {scope : Scope} {f C : Addr} {fd : FuncData} {fs : List Str} {k : Nat} (F : FunD K x qual params body scope [] [] f fd) (SC : FnScope (("self" : Str) :: fs) (("self" : Str) :: fs) scope)
    (hb : initB fs body = true) (T : OexC K C) (no : ∀ f ∈ fs, PySem.W.findIn K (.ref C) f = some none) (few : fs.length ≤ 900) (ne : fs ≠ []) : FnOk P w K mg base (L2.CX P w) (k + 1) f fd (("self" : Str) :: fs) (spX C fs) := by
  refine F.ok SC (fun vs H Q E q => ?_) (fun cdv A outer s H vs Q E hr q => ?_)
  · obtain ⟨a, ws, rfl, hl, _⟩ := q
    simp [hl]
  · obtain ⟨a, ws, rfl, hl, ha, q⟩ := q
    refine ⟨_, pss_ini (X := cxOf (L2.CX P w) P w K mg base (("self" : Str) :: fs) qual scope f cdv A outer s H E) (C := C) (fs := fs) rfl SC.nd (fun y hy => ?_) T no few fs [] body rfl hb (fun e => absurd e ne), a, ws, H, ?_, hl, ha, .inl ⟨rfl, rfl, q⟩⟩
    · exact (SC.par y hy).imp id fun e => .inl e
    · unfold L2.start
      simp [hl]
theorem lookup_app {f : Str} {w : V} : ∀ {xs : List (Str × V)} {g : Str}, (xs ++ [(f, w)]).lookup g = match xs.lookup g with
    | some v => some v
    | none => if g = f then some w else none
  | [], g => by
    by_cases h : g = f
    · subst h; simp [List.lookup]
    · have : (g == f) = false := by simpa using h
      simp [List.lookup, this, h]
  | (k, v) :: xs, g => by
    rw [List.cons_append, List.lookup_cons, List.lookup_cons]
    by_cases h : g == k
    · rw [h]
    · rw [Bool.not_eq_true] at h
      rw [h]
      exact lookup_app
theorem lookup_rev : ∀ {fs : List Str} {ws : List V} {g : Str}, fs.Nodup → ((fs.zip ws).reverse).lookup g = (fs.zip ws).lookup g
  | [], _, _, _ => rfl
  | _ :: _, [], _, _ => rfl
  | f :: fs, w :: ws, g, nd => by
    have nd' := List.nodup_cons.mp nd
    rw [List.zip_cons_cons, List.reverse_cons, lookup_app, lookup_rev nd'.2, List.lookup_cons]
    by_cases h : g = f
    · subst h
      have : (fs.zip ws).lookup g = none := by
        haveI : RT := ⟨fun _ => 0, fun _ => []⟩
        exact lk_none nd'.1
      rw [this]
      simp
    · have e : (g == f) = false := by simpa using h
      rw [e]
      cases (fs.zip ws).lookup g with
      | none => simp [h]
      | some v => rfl
section
variable [RT] {T : Tab} {TX : Exc} {C : Nat → List PV → Sto → R PV} {X : Cx} {W : WX} {N : List Str} {sc : Scope} {b : Nat} {cl : Bool} {ex : Option Held}
theorem passF : Passes (L2.CX X.prog X.w) X (fun _ _ _ => False) := fun _ _ _ _ _ _ _ h => by
  obtain ⟨_, _, _, _, _, _, _, _, _, _, _, _, z⟩ := h
  exact z.elim
theorem u_raiseN (cx : CtxS T TX C X W N sc true ex) {k : Nat} {n : Str} {p q : Pos} {pos : Pos} {es : Es} {g : Expr} {gs : List Expr} {pp : Str × List Str × List Str} (hg : gloB sc n = true) (hk : T.cls[k]? = some pp) (hn : pp.1 = n) (hne : pp.2.1 ≠ []) (hlen : (g :: gs).length = pp.2.1.length) (nd : pp.2.1.Nodup) (h1000 : (g :: gs).length ≤ 1000)
    (h : PA X (g :: gs) (tAs X.K TX b ex W (evs C b es))) (hl : ∀ σ S vs S', evs C b es σ S = .ok vs S' → vs.length = (g :: gs).length)
    (he : starEach (g :: gs) X.env = (false, eval g X.env) :: starEach gs X.env) (hpl : (backTo q (starEach gs X.env)).any (·.1) = false) : PS X (.Raise (some (.Call (.Name n p) (g :: gs) [] q)) none pos) (tSt X.K TX b ex W (xst C b (.raise k es))) := by
  obtain ⟨g1, g2, _, _⟩ := cx.gl hg
  obtain ⟨fI, fd, kk, OT, iC, tI, hb, F1, hr⟩ := cx.xin rfl k pp hk hne
  have xk := cx.exc k _ hk
  have lt : k < TX.n := by rw [cx.num]; exact (List.getElem?_eq_some_iff.mp hk).1
  have at0 : TX.attrs k = pp.2.1 := cx.attrs k _ hk
  subst hn
  refine PS.weak (ps_raise (cx.calm rfl) cx.takes (pmk_oex (dvs := []) (ds := []) OT iC tI F1 hr hb .nil passF g1 xk.gl h g2 he hpl)) fun D τ H ⟨ρ, σ, S, so, eo, hq⟩ => ?_
  unfold xst at hq
  refine ⟨ρ, σ, S, so, eo, At.mono (AtS.st (rel := relA X.K) eo hq) fun ws H1 ⟨ρ1, vs, S1, e1, g1', so1, eo1, r1, h1⟩ => ?_⟩
  have len := hl _ _ _ _ e1
  have lw : ws.length = pp.2.1.length := by rw [← r1.length, len, hlen]
  refine ⟨by rw [lw, ← hlen]; exact h1000, fun a ha => ⟨a, ws, by rw [List.append_nil], lw, upd_same, fun dx hdx hd => ?_⟩⟩
  have hdx1 : H1 dx = none := by rw [upd_ne hd] at hdx; exact hdx
  refine ⟨rfl, dx, _, upd_same, by rw [upd_ne hd]; exact upd_same, hdx1, ?_⟩
  have e2 : upd (del (upd (upd (upd H1 a (exo a (TX.at_ k) none)) dx (exd dx (pp.2.1.zip ws).reverse)) a (exo a (TX.at_ k) (some dx))) a) dx (.xd (pp.2.1.zip ws).reverse) = upd H1 dx (.xd (pp.2.1.zip ws).reverse) := by
    funext c
    by_cases c1 : c = dx
    · subst c1; rw [upd_same, upd_same]
    · rw [upd_ne c1, upd_ne c1]
      by_cases c2 : c = a
      · subst c2; rw [del_same, ha]
      · rw [del_ne c2, upd_ne c2, upd_ne c1, upd_ne c2]
  rw [e2]
  refine h1 ρ1 _ τ _ _ (.alloc hdx1) (so1.alloc hdx1) (eo1.mono (.new hdx1) (List.prefix_refl _)) ⟨lt, rfl, ?_, .inr ⟨by rw [at0]; exact hne, dx, _, ws, rfl, upd_same, fun f => ?_, RelPs.mono (.new hdx1) (List.prefix_refl _) r1⟩⟩
  · rw [at0, len, hlen]
  · rw [at0]
    exact lookup_rev nd
end
end MP
end
section
set_option Elab.async false
set_option linter.all false
set_option maxRecDepth 100000
set_option maxHeartbeats 1000000
/-! MPSound15: loops, raise, try; every statement that is looked at runs like its MP. -/
namespace MP
open PySem PySem.Spec PyProof.Rows L2
section
variable [RT] {T : Tab} {TX : Exc} {C : Nat → List PV → Sto → R PV} {X : Cx} {W : WX} {N : List Str} {sc : Scope} {b : Nat} {cl : Bool} {ex : Option Held}
variable {x y z tg : Expr} {a c d : E} {pos : Pos}
theorem u_for (cx : CtxS T TX C X W N sc true none) {t : Tg} {it : It} {p : Ss} {iter : Expr} {body : List Stmt} (hg : tgB N false sc t tg = true) (hi : PI X tg iter (tI X.K TX b W (evi C b it))) (hs : ∀ x, foldedSetIterable iter X.env x = pure x)
    (hb : PSs X body (tSt X.K TX b none W (xss C b p))) : PS X (.For tg iter body [] pos) (tSt X.K TX b none W (xst C b (.fors t it p))) := by
  have pg := g_ok (TX := TX) (X := X) (cx.calm rfl) cx.names cx.nd cx.scope (lo := false) (fun _ x _ => cx.fn x) hg
  refine PS.weak (ps_for (cx.po rfl) (cx.calm rfl) hi pg hb hs) fun D τ H ⟨ρ, σ, S, so, eo, h⟩ => ?_
  unfold xst at h
  refine ⟨ρ, σ, S, so, eo, At.mono (AtS.st (rel := WalkOk X.K b) eo h) fun J H1 ⟨ρ1, w, S1, _, g1, so1, eo1, wo, h1⟩ => ?_⟩
  obtain ⟨n, G, Y, wk, hn, hG, hY⟩ := wo.ex
  let run (xs : List PV) (σi : Env) (Si : Sto) : RS := forLoop (fun S => stands S w.2) (bindT t) (xss C b p) xs σi Si
  have bad : ∀ {xs : List PV} {σi : Env} {Si : Sto}, stands Si w.2 = false → run xs σi Si = .bad := fun {xs σi Si} hst => by
    show forLoop _ _ _ _ _ _ = _
    cases xs with
    | nil => unfold forLoop; rw [hst]; rfl
    | cons x xs => unfold forLoop; rw [hst]; rfl
  refine for_it (g := fun v τ H Q => ∃ ρ σ σ' u, EnvOk X.K TX none ρ H σ τ ∧ RelP X.K ρ H u v ∧ bindT t u σ = some σ' ∧ ∀ τ', EnvOk X.K TX none ρ H σ' τ' → Q τ' H) (tb := tSt X.K TX b none W (xss C b p)) (D := D) wk (fun i τi Hc => ∃ ρi σi Si, Grow b ρ1 ρi S1 Si H1 Hc ∧ StOk X.K b ρi Si Hc ∧ EnvOk X.K TX none ρi Hc σi τi ∧ AtS X.K TX b none W D ρi Si Hc (run (w.1.drop i) σi Si)) ⟨ρ1, σ, S1, .refl, so1, eo1, h1⟩ ?_ ?_ ?_
  · rintro i τi Hc hi ⟨ρi, σi, Si, gi, soi, eoi, hq⟩
    refine hG ρi Si Hc gi.keep gi.pre soi ?_
    cases hst : stands Si w.2 with
    | true => rfl
    | false => rw [bad hst] at hq; exact hq.elim
  · rintro i xv τi Hc Hc' hin ⟨ρi, σi, Si, gi, soi, eoi, hq⟩ hy
    have hlt : i < w.1.length := by rw [hn]; exact hin
    have hget : w.1[i]? = some (w.1[i]) := by simp [hlt]
    have hst : stands Si w.2 = true := by
      cases hst : stands Si w.2 with
      | true => rfl
      | false => rw [bad hst] at hq; exact hq.elim
    obtain ⟨gy, soy, ry⟩ := hY ρi Si Hc i xv _ Hc' gi.keep gi.pre soi hst hget hy
    have hq := AtS.grow gy hq
    have gi := gi.trans gy
    have eoi := eoi.grow gy
    rw [List.drop_eq_getElem_cons hlt] at hq
    have hq : AtS X.K TX b none W D ρi Si Hc' (forLoop (fun S => stands S w.2) (bindT t) (xss C b p) (w.1[i] :: w.1.drop (i + 1)) σi Si) := hq
    unfold forLoop at hq
    rw [hst, if_pos rfl] at hq
    cases hbd : bindT t w.1[i] σi with
    | none => rw [hbd] at hq; exact hq.elim
    | some σ1 =>
      rw [hbd] at hq
      have hq : AtS X.K TX b none W D ρi Si Hc' (match xss C b p σ1 Si with
        | .next σ2 S2 => forLoop (fun S => stands S w.2) (bindT t) (xss C b p) (w.1.drop (i + 1)) σ2 S2
        | .cont σ2 S2 => forLoop (fun S => stands S w.2) (bindT t) (xss C b p) (w.1.drop (i + 1)) σ2 S2
        | .brk σ2 S2 => .next σ2 S2
        | r => r) := hq
      refine ⟨ρi, σi, σ1, w.1[i], eoi, ry, hbd, fun τ1 eo1' => ⟨ρi, σ1, Si, soy, eo1', ?_⟩⟩
      cases e : xss C b p σ1 Si with
      | next σ2 S2 =>
        rw [e] at hq
        exact fun ρ' H' τ' g so' eo' => ⟨ρ', σ2, S2, gi.trans g, so', eo', AtS.grow g hq⟩
      | cont σ2 S2 =>
        rw [e] at hq
        exact fun ρ' H' τ' g so' eo' => ⟨ρ', σ2, S2, gi.trans g, so', eo', AtS.grow g hq⟩
      | brk σ2 S2 => rw [e] at hq; exact hq
      | ret v S2 => rw [e] at hq; exact hq
      | exc k as σ2 S2 => rw [e] at hq; exact hq
      | bad => rw [e] at hq; exact hq.elim
  · rintro τi Hc ⟨ρi, σi, Si, gi, soi, eoi, hq⟩
    have en : w.1.drop n = [] := by rw [← hn]; exact List.drop_length
    rw [en] at hq
    have hq : AtS X.K TX b none W D ρi Si Hc (forLoop (fun S => stands S w.2) (bindT t) (xss C b p) [] σi Si) := hq
    unfold forLoop at hq
    split at hq
    · exact hq ρi Hc τi .refl soi eoi
    · exact hq.elim
theorem u_while (cx : CtxS T TX C X W N sc true none) {p : Ss} {body : List Stmt} (hc : PT X x (tTs X.K TX b none W (evT C b a))) (hb : PSs X body (tSt X.K TX b none W (xss C b p))) : PS X (.While x body [] pos) (tSt X.K TX b none W (xst C b (.whiles a p))) := by
  refine PS.weak (ps_while (cx.po rfl) hc hb) fun D τ H ⟨ρ, σ, S, so, eo, h⟩ => ?_
  unfold xst at h
  refine ⟨fun m τi Hc => ∃ ρi σi Si, StOk X.K b ρi Si Hc ∧ EnvOk X.K TX none ρi Hc σi τi ∧ AtS X.K TX b none W D ρi Si Hc (whileLoop (evT C b a) (xss C b p) m σi Si), ⟨fuel, ρ, σ, S, so, eo, h⟩, ?_⟩
  rintro m τi Hc ⟨ρi, σi, Si, soi, eoi, hq⟩
  cases m with
  | zero => unfold whileLoop at hq; exact hq.elim
  | succ m =>
    unfold whileLoop at hq
    refine ⟨ρi, σi, Si, soi, eoi, At.mono (AtS.st (rel := relT) eoi hq) fun k H1 ⟨ρ1, v, S1, _, g1, so1, eo1, r1, h1⟩ => ?_⟩
    obtain rfl : v = k := r1
    cases v with
    | false => exact iteF (h1 ρ1 H1 τi .refl so1 eo1)
    | true =>
      refine iteT ⟨fun τ' H' => ∃ ρi σi Si, StOk X.K b ρi Si H' ∧ EnvOk X.K TX none ρi H' σi τ' ∧ AtS X.K TX b none W D ρi Si H' (whileLoop (evT C b a) (xss C b p) m σi Si), fun τ' H' q => ⟨m, Nat.lt_succ_self m, q⟩, ρ1, σi, S1, so1, eo1, ?_⟩
      have h1 : AtS X.K TX b none W D ρ1 S1 H1 (match xss C b p σi S1 with
        | .next σ2 S2 => whileLoop (evT C b a) (xss C b p) m σ2 S2
        | .cont σ2 S2 => whileLoop (evT C b a) (xss C b p) m σ2 S2
        | .brk σ2 S2 => .next σ2 S2
        | r => r) := h1
      cases e : xss C b p σi S1 with
      | next σ2 S2 =>
        rw [e] at h1
        exact fun ρ' H' τ' g so' eo' => ⟨ρ', σ2, S2, so', eo', AtS.grow g h1⟩
      | cont σ2 S2 =>
        rw [e] at h1
        exact fun ρ' H' τ' g so' eo' => ⟨ρ', σ2, S2, so', eo', AtS.grow g h1⟩
      | brk σ2 S2 => rw [e] at h1; exact h1
      | ret v S2 => rw [e] at h1; exact h1
      | exc k as σ2 S2 => rw [e] at h1; exact h1
      | bad => rw [e] at h1; exact h1.elim
/-! ### raise -/
/-- X() of a class without an own __init__ -/
theorem make0 {c : Nat} {n : Str} {p : Pos} (hx : ExcK X.K X.mg (TX.at_ c) n []) (hg : Gl X n) (hd : (n == ("__debug__" : Str)) = false) : PMk X (.Call (.Name n p) [] [] pos) (fun _ H Q => Q (.ref (TX.at_ c)) none H) := by
  intro pins s τ H Q I h
  refine wpAny_Call_Name_kw (ld_glob I hg hx.gl ?_ hd)
  refine PySem.W.callWith_K0 I.kIn hx.kp ?_
  show wpAny _ _ (call (.ref (TX.at_ c)) []) _ _ _
  obtain ⟨bm, ns, nm, qn, bs, hdct, sn, sub, ab, col, dd, k0, k1, k2, k3, k5, mN, hC, hN, hni, F⟩ := exc_obj I.kIn (hx.no rfl)
  refine wpAny_call_exc_subT PySem.F.excBase_ValueError F hC hN hni (fun h' e hm => ?_) (Nat.zero_le _)
  exact mk_of I hm (raises_own hx.sb hx.ty) h (I.hok.gone hm.new)
theorem u_raise0 (cx : CtxS T TX C X W N sc true ex) {k : Nat} {n : Str} {p q : Pos} (hg : gloB sc n = true) (hk : (T.cls[k]?.map fun p => (p.1, p.2.1)) = some (n, [])) : PS X (.Raise (some (.Call (.Name n p) [] [] q)) none pos) (tSt X.K TX b ex W (xst C b (.raise k .nil))) := by
  obtain ⟨g1, g2, _, _⟩ := cx.gl hg
  cases e : T.cls[k]? with
  | none => rw [e] at hk; cases hk
  | some pp =>
    rw [e] at hk
    obtain ⟨n', fs, sup⟩ := pp
    have hk : (n', fs) = (n, []) := Option.some.inj hk
    cases hk
    have xk := cx.exc k _ e
    have lt : k < TX.n := by rw [cx.num]; exact (List.getElem?_eq_some_iff.mp e).1
    have at0 : TX.attrs k = [] := cx.attrs k _ e
    refine PS.weak (ps_raise (cx.calm rfl) cx.takes (make0 xk g1 g2)) fun D τ H ⟨ρ, σ, S, so, eo, h⟩ => ?_
    unfold xst evs at h
    exact h ρ H τ _ _ .refl so eo ⟨lt, rfl, by rw [at0]; rfl, .inl ⟨at0, rfl⟩⟩
/-! ### try -/
theorem Ctx.tr (cx : CtxS T TX C X W N sc true none) {W' : WX} {pn : List (Addr × Obj)} {xe : Value → Shared → Prop} (tk : Takes (X.tr pn xe) W') (po : PassesOwn (model X.prog X.w) X.A X.env xe) : CtxS T TX C (X.tr pn xe) W' N sc true none :=
  { scope := cx.scope, names := cx.names, nd := cx.nd, takes := tk, calm := cx.calm, unit := cx.unit, free := cx.free, glb := cx.glb, wide := ⟨cx.wide.depth, cx.wide.seer, cx.wide.tree, cx.wide.top⟩, rcs := cx.rcs, kit := cx.kit, inits := cx.inits, meths := cx.meths, xin := cx.xin, fns := cx.fns, num := cx.num, exc := cx.exc, exm := cx.exm, attrs := cx.attrs, held := (fun x hx => by cases hx), stk := cx.stk, frame := cx.frame, po := fun _ => po, fn := cx.fn }
/-- what a suite asks of the text's classes -/
structure SuiteOk (T : Tab) (TX : Exc) (K : PySem.W.Frag) (mg : Str → Option Value) (c : Nat) : Prop where
  tab : ∀ p : Str × List Str × List Str, T.cls[c]? = some p →
    (∀ f ∈ p.2.1, PySem.W.findIn K (.ref (TX.at_ c)) "__getattribute__" = some (some (.builtin "BaseException.__getattribute__")) ∧ PySem.W.findIn K (.ref (TX.at_ c)) "__getattr__" = some none ∧
      PySem.W.subIn K (.ref (TX.at_ c)) (.type "BaseException") = some true ∧ PySem.W.hasDictIn K (TX.at_ c) = true ∧ PySem.W.findIn K (.ref (TX.at_ c)) f = some none) ∧
    (ExcC K (TX.at_ c) ∧ ∀ z, p.2.2.contains z = true → ∃ (c' : V) (cv : Value), ((mg z = some cv) ∨ (mg z = none ∧ bootBuiltins z = some cv ∧ z ≠ "__name__")) ∧ RelV c' cv ∧ (∀ u, RelV c' u → u = cv) ∧ PySem.W.kitOne K (.ref (TX.at_ c)) cv = some true)
theorem Ctx.su (cx : CtxS T TX C X W N sc true none) (sk : ∀ c, SuiteOk T TX X.K X.mg c) {A : Addr} {oe : Obj} {cls : Value} {dd : Option Addr} {pn : List (Addr × Obj)} (hz : Zc cls dd oe) (hv : ∃ vs, oe.data = .fields vs) (k i : Nat) :
    CtxS T TX C (X.suite A ((A, oe) :: pn)) noW N sc false (some ⟨i, A, k, cls, dd⟩) :=
  { scope := cx.scope, names := cx.names, nd := cx.nd, takes := takes0, calm := (fun h => by cases h), unit := cx.unit, free := cx.free, glb := cx.glb, wide := ⟨cx.wide.depth, cx.wide.seer, cx.wide.tree, cx.wide.top⟩, rcs := cx.rcs, kit := cx.kit, inits := (fun h => by cases h), meths := (fun h => by cases h), xin := (fun h => by cases h), fns := (fun h => by cases h), num := cx.num, exc := cx.exc, exm := cx.exm, attrs := cx.attrs, stk := cx.stk, frame := cx.frame, po := (fun h => by cases h), fn := cx.fn,
    held := fun x hx => by
      cases hx
      exact ⟨oe, pn, rfl, ⟨X, rfl⟩, hz, hv, fun p hp => ⟨((sk k).tab p hp).1, ((sk k).tab p hp).2⟩⟩ }
theorem Ctx.su0 (cx : CtxS T TX C X W N sc true none) {A : Addr} {pn : List (Addr × Obj)} : CtxS T TX C (X.suite A pn) noW N sc false none :=
  { scope := cx.scope, names := cx.names, nd := cx.nd, takes := takes0, calm := (fun h => by cases h), unit := cx.unit, free := cx.free, glb := cx.glb, wide := ⟨cx.wide.depth, cx.wide.seer, cx.wide.tree, cx.wide.top⟩, rcs := cx.rcs, kit := cx.kit, inits := (fun h => by cases h), meths := (fun h => by cases h), xin := (fun h => by cases h), fns := (fun h => by cases h), num := cx.num, exc := cx.exc, exm := cx.exm, attrs := cx.attrs, stk := cx.stk, frame := cx.frame, po := (fun h => by cases h), fn := cx.fn,
    held := fun x hx => by cases hx }
theorem EnvOk.hold {K : PySem.W.Frag} {ρ : List Addr} {H : Hp} {σ : Env} {τ : L2.St} (e : EnvOk K TX none ρ H σ τ) {i : Nat} {A : Addr} {c : Nat} {cls : Value} {dd : Option Addr} {as : List PV} (hi : i < σ.length) (x : ExcOk K TX ρ H c as cls dd) :
    EnvOk K TX (some ⟨i, A, c, cls, dd⟩) ρ H (σ.set i (some (.tup (.int c :: as)))) (τ.set i (some (.ref A))) := by
  refine ⟨by simp [e.len], fun j u h n => ?_, fun x hx => ?_⟩
  · have ne : i ≠ j := n _ rfl
    rw [List.getElem?_set_ne ne] at h
    rw [List.getElem?_set_ne ne]
    exact e.val j u h fun x hx => by cases hx
  · cases hx
    exact ⟨as, by rw [List.getElem?_set_self hi], by rw [List.getElem?_set_self (by rw [← e.len]; exact hi)], x⟩
theorem EnvOk.unhold {K : PySem.W.Frag} {ρ : List Addr} {H : Hp} {σ : Env} {τ : L2.St} {q : Held} (e : EnvOk K TX (some q) ρ H σ τ) : EnvOk K TX none ρ H (σ.set q.i none) (τ.set q.i none) := by
  refine ⟨by simp [e.len], fun j u h n => ?_, fun x hx => by cases hx⟩
  by_cases hj : q.i = j
  · subst hj
    by_cases hi : q.i < σ.length
    · rw [List.getElem?_set_self hi] at h; cases h
    · rw [List.getElem?_eq_none (by simpa using hi)] at h; cases h
  · rw [List.getElem?_set_ne hj] at h
    rw [List.getElem?_set_ne hj]
    exact e.val j u h fun x hx => by cases hx; exact hj
theorem caught_exc {c : Nat} {i : Option Nat} {h : Env → Sto → RS} {d : Nat} {as : List PV} {σ : Env} {S : Sto} : caught c i h (.exc d as σ S) = if d = c then (if holdOk σ i then unslot i (h (hold c as σ i) S) else .bad) else .exc d as σ S := rfl
theorem u_try_as (cx : CtxS T TX C X W N sc true none) {p h : Ss} {k i : Nat} {n m : Str} {np hp : Pos} {body suite : List Stmt} {s0 : Stmt} (hg : gloB sc n = true) (hk : (T.cls[k]?.map (·.1)) = some n) (h1 : atB N i m = true) (h2 : kindB sc m .local = true)
    (hb : ∀ (W' : WX) (Y : Cx), Y.K = X.K ∧ Y.mg = X.mg → CtxS T TX C Y W' N sc true none → PSs Y body (tSt Y.K TX b none W' (xss C b p)))
    (hs : ∀ (A : Addr) (oe : Obj) (cls : Value) (dd : Option Addr) (pn : List (Addr × Obj)), Zc cls dd oe → (∃ vs, oe.data = .fields vs) → PSs (X.suite A ((A, oe) :: pn)) (s0 :: suite) (tSt X.K TX b (some ⟨i, A, k, cls, dd⟩) noW (xss C b h))) :
    PS X (.Try body [.ExceptHandler (some (.Name n np)) (some m) (s0 :: suite) hp] [] [] pos) (tSt X.K TX b none W (xst C b (.tryo p k (some i) h))) := by
  obtain ⟨g1, g2, _, _⟩ := cx.gl hg
  cases e : T.cls[k]? with
  | none => rw [e] at hk; cases hk
  | some pp =>
    rw [e] at hk
    obtain ⟨n', fs, sup⟩ := pp
    have hk : n' = n := Option.some.inj hk
    subst hk
    have xk := cx.exc k _ e
    have lt : k < TX.n := by rw [cx.num]; exact (List.getElem?_eq_some_iff.mp e).1
    have hi : X.N[i]? = some m := by rw [cx.names]; exact atB_ok h1
    refine PS.weak (ps_try_as (i := i) (c := .ref (TX.at_ k)) (tb := fun W' => tSt X.K TX b none W' (xss C b p)) (ts := fun A cls dd => tSt X.K TX b (some ⟨i, A, k, cls, dd⟩) noW (xss C b h)) (Wout := W) cx.stk cx.frame (by rw [cx.names]; exact cx.nd) hi
      (by show X.env.scope.names.lookup m = _; rw [cx.scope]; exact kindB_ok h2) ⟨g1, g2, .inl xk.gl⟩ cx.takes (fun W' pn xe tk po => hb W' (X.tr pn xe) ⟨rfl, rfl⟩ (Ctx.tr cx tk po)) hs) fun D τ H ⟨ρ, σ, S, so, eo, q⟩ => ?_
    unfold xst at q
    refine ⟨ρ, σ, S, so, eo, ?_⟩
    cases r : xss C b p σ S with
    | next σ1 S1 => rw [r] at q; exact q
    | ret v S1 => rw [r] at q; exact q
    | brk σ1 S1 => rw [r] at q; exact q
    | cont σ1 S1 => rw [r] at q; exact q
    | bad => rw [r] at q; exact q
    | exc d as σ1 S1 =>
      rw [r] at q
      intro ρ' H' τ' cls dd g so' eo' x
      have q := AtS.grow g q
      rw [caught_exc] at q
      refine ⟨decide (d = k), ?_, fun hd A hA => ?_, fun hd => ?_⟩
      · rw [x.2.1]
        exact cx.exm k d lt x.1
      · have hd : d = k := of_decide_eq_true hd
        subst hd
        rw [if_pos rfl] at q
        split at q
        · rename_i hl
          have hlen : i < σ1.length := of_decide_eq_true hl
          refine ⟨ρ', σ1.set i (some (.tup (.int d :: as))), S1, so', eo'.hold hlen x, ?_⟩
          have q : AtS X.K TX b none W D ρ' S1 H' (unslot (some i) (xss C b h (σ1.set i (some (.tup (.int d :: as)))) S1)) := q
          cases r2 : xss C b h (σ1.set i (some (.tup (.int d :: as)))) S1 with
          | next σ2 S2 => rw [r2] at q; exact fun ρ2 H2 τ2 g2 so2 eo2 => q ρ2 H2 _ g2 so2 eo2.unhold
          | brk σ2 S2 => rw [r2] at q; exact fun ρ2 H2 τ2 g2 so2 eo2 => q ρ2 H2 _ g2 so2 eo2.unhold
          | cont σ2 S2 => rw [r2] at q; exact fun ρ2 H2 τ2 g2 so2 eo2 => q ρ2 H2 _ g2 so2 eo2.unhold
          | ret v S2 => rw [r2] at q; exact q
          | exc c as σ2 S2 => rw [r2] at q; exact q.elim
          | bad => rw [r2] at q; exact q.elim
        · exact q.elim
      · have hd : ¬ d = k := of_decide_eq_false hd
        rw [if_neg hd] at q
        exact q ρ' H' τ' cls dd .refl so' eo' x
theorem u_try_only (cx : CtxS T TX C X W N sc true none) {p h : Ss} {k : Nat} {n : Str} {np hp : Pos} {body suite : List Stmt} {s0 : Stmt} (hg : gloB sc n = true) (hk : (T.cls[k]?.map (·.1)) = some n)
    (hb : ∀ (W' : WX) (Y : Cx), Y.K = X.K ∧ Y.mg = X.mg → CtxS T TX C Y W' N sc true none → PSs Y body (tSt Y.K TX b none W' (xss C b p)))
    (hs : ∀ (A : Addr) (pn : List (Addr × Obj)), PSs (X.suite A pn) (s0 :: suite) (tSt X.K TX b none noW (xss C b h))) :
    PS X (.Try body [.ExceptHandler (some (.Name n np)) none (s0 :: suite) hp] [] [] pos) (tSt X.K TX b none W (xst C b (.tryo p k none h))) := by
  obtain ⟨g1, g2, _, _⟩ := cx.gl hg
  cases e : T.cls[k]? with
  | none => rw [e] at hk; cases hk
  | some pp =>
    rw [e] at hk
    obtain ⟨n', fs, sup⟩ := pp
    have hk : n' = n := Option.some.inj hk
    subst hk
    have xk := cx.exc k _ e
    have lt : k < TX.n := by rw [cx.num]; exact (List.getElem?_eq_some_iff.mp e).1
    refine PS.weak (ps_try_only (c := .ref (TX.at_ k)) (tb := fun W' => tSt X.K TX b none W' (xss C b p)) (ts := fun A cls dd => tSt X.K TX b none noW (xss C b h)) (Wout := W) cx.stk cx.frame ⟨g1, g2, .inl xk.gl⟩ cx.takes
      (fun W' pn xe tk po => hb W' (X.tr pn xe) ⟨rfl, rfl⟩ (Ctx.tr cx tk po)) fun A oe cls dd pn _ _ => hs A _) fun D τ H ⟨ρ, σ, S, so, eo, q⟩ => ?_
    unfold xst at q
    refine ⟨ρ, σ, S, so, eo, ?_⟩
    cases r : xss C b p σ S with
    | next σ1 S1 => rw [r] at q; exact q
    | ret v S1 => rw [r] at q; exact q
    | brk σ1 S1 => rw [r] at q; exact q
    | cont σ1 S1 => rw [r] at q; exact q
    | bad => rw [r] at q; exact q
    | exc d as σ1 S1 =>
      rw [r] at q
      intro ρ' H' τ' cls dd g so' eo' x
      have q := AtS.grow g q
      rw [caught_exc] at q
      refine ⟨decide (d = k), ?_, fun hd A hA => ?_, fun hd => ?_⟩
      · rw [x.2.1]
        exact cx.exm k d lt x.1
      · have hd : d = k := of_decide_eq_true hd
        subst hd
        rw [if_pos rfl] at q
        have q : AtS X.K TX b none W D ρ' S1 H' (unslot none (xss C b h σ1 S1)) := q
        refine ⟨ρ', σ1, S1, so', eo', ?_⟩
        cases r2 : xss C b h σ1 S1 with
        | next σ2 S2 => rw [r2] at q; exact q
        | brk σ2 S2 => rw [r2] at q; exact q
        | cont σ2 S2 => rw [r2] at q; exact q
        | ret v S2 => rw [r2] at q; exact q
        | exc c as σ2 S2 => rw [r2] at q; exact q.elim
        | bad => rw [r2] at q; exact q.elim
      · have hd : ¬ d = k := of_decide_eq_false hd
        rw [if_neg hd] at q
        exact q ρ' H' τ' cls dd .refl so' eo' x
end
end MP
end
section
set_option Elab.async false
set_option linter.all false
set_option maxRecDepth 100000
set_option maxHeartbeats 1000000
/-! MPSound16: every statement that is looked at runs like its MP. -/
namespace MP
open PySem PySem.Spec PyProof.Rows L2
section
variable [RT] {T : Tab} {TX : Exc} {C : Nat → List PV → Sto → R PV} {X : Cx} {W : WX} {N : List Str} {sc : Scope} {b : Nat} {cl : Bool} {ex : Option Held}
theorem v_cond (hT : T.ok = true) {Y : Cx} {ifs : List Expr} {co : Eo} (m6 : (match ifs with
    | [] => (match co with
      | .none => true
      | .some _ => false)
    | [z] => troB T N sc true none co (some z) && (match co with
      | .none => false
      | .some _ => true)
    | _ => false) = true) (cy : Ctx T TX C Y noW N sc true none) : PTs Y ifs (tTs Y.K TX b none noW (evc C b co)) := by
  cases ifs with
  | nil =>
    cases co with
    | none => exact ⟨fun pins s τ H Q I hq => pts_nil.run pins s τ H Q I (by
        obtain ⟨ρ, σ, S, so, eo, q⟩ := hq
        exact At.ok (rel := relT) so (by unfold evc at q; exact q) rfl)⟩
    | some c => cases m6
  | cons z r =>
    cases r with
    | nil =>
      cases co with
      | none => simp [troB] at m6
      | some c =>
        have q := (Bool.and_eq_true_iff.mp m6).1
        unfold troB at q
        have p := sT (b := b) hT c (ex := none) cy q
        refine ⟨fun pins s τ H Q I hq => (pts_one p).run pins s τ H Q I ?_⟩
        obtain ⟨ρ, σ, S, so, eo, q⟩ := hq
        exact ⟨ρ, σ, S, so, eo, by unfold evc at q; exact q⟩
    | cons _ _ => cases m6
theorem v_lc (hT : T.ok = true) (cx : CtxS T TX C X W N sc cl ex) {i : Nat} {n : Str} {p pos : Pos} {e : E} {elt : Expr} {gs : List Comprehension} {s : Scope} {vp : Pos} (h1 : atB N i n = true) (h4 : trB T N sc cl (hxOf ex) e (.ListComp elt gs s vp) = true)
    (h5 : (isLc e && cl && decide (sc.kind = .function) && kindB sc n .local && (p.line == vp.line) && !(s.names.any fun q => q.1 == n && (q.2 == .local || q.2 == .cell))) = true) :
    PS X (.Assign [.Name n p] (.ListComp elt gs s vp) pos) (tSt X.K TX b ex W (xst C b (.asg (.of (.name i)) e))) := by
  simp only [Bool.and_eq_true, Bool.not_eq_true'] at h5
  obtain ⟨⟨⟨⟨⟨k0, k1⟩, k2⟩, k3⟩, k4⟩, k5⟩ := h5
  subst k1
  have cx' := cx.toCtx
  obtain ⟨nw, t, own, it, co, e', he⟩ : ∃ nw t own it co e', e = if nw = true then E.new (.lc t own it co e') else .lc t own it co e' := by
    unfold isLc at k0
    split at k0
    · rename_i t own it co e'
      exact ⟨false, t, own, it, co, e', rfl⟩
    · rename_i t own it co e'
      exact ⟨true, t, own, it, co, e', rfl⟩
    · cases k0
  have h : trB T N sc true (hxOf ex) (.lc t own it co e') (.ListComp elt gs s vp) = true := by
    cases nw with
    | false => rw [he] at h4; exact h4
    | true =>
      rw [he] at h4
      have h4 : trB T N sc true (hxOf ex) (E.new (.lc t own it co e')) (.ListComp elt gs s vp) = true := h4
      unfold trB at h4
      simp only [Bool.and_eq_true] at h4
      exact h4.1.1
  unfold trB at h
  split at h
  · rename_i heq
    cases heq
    simp only [Bool.and_eq_true] at h
    obtain ⟨⟨⟨⟨⟨⟨⟨_, m2⟩, m3⟩, m4⟩, m0⟩, m5⟩, m6⟩, m7⟩ := h
    have hn : ex = none := by
      cases ex with
      | none => rfl
      | some x => simp [hxOf] at m2
    subst hn
    have ht : ∀ Y : Cx, Y.K = X.K → Ctx T TX C Y noW N (relS s sc) true none → PTs Y _ (tTs Y.K TX b none noW (evc C b co)) := fun Y hY cy => v_cond hT m6 cy
    have hel : ∀ Y : Cx, Y.K = X.K → Ctx T TX C Y noW N (relS s sc) true none → PE Y elt (tE Y.K TX b none noW (ev C b e')) := fun Y hY cy => sE hT e' cy m7
    cases nw with
    | false =>
      rw [he]
      exact u_lc cx h1 k3 (of_decide_eq_true k2) k4 k5 m3 m4 (fun i hi => of_decide_eq_true (List.all_eq_true.mp m0 i hi)) (sIt hT it cx' m5) (folded_of m5 _) ht hel
    | true =>
      rw [he]
      exact u_lcN cx h1 k3 (of_decide_eq_true k2) k4 k5 m3 m4 (fun i hi => of_decide_eq_true (List.all_eq_true.mp m0 i hi)) (sIt hT it cx' m5) (folded_of m5 _) ht hel
  · cases h
theorem none_of {hx : Option Held} (h : (hxOf hx).isNone = true) : hx = none := by
  cases hx with
  | none => rfl
  | some x => simp [hxOf] at h
theorem v_asg (hT : T.ok = true) (cx : CtxS T TX C X W N sc cl ex) {t : Tt} {e : E} {s : Stmt} (h : trS T N sc cl (hxOf ex) (.asg t e) s = true) (hh : t = t → True) : PS X s (tSt X.K TX b ex W (xst C b (.asg t e))) := by
  have cx' := cx.toCtx
  unfold trS at h
  split at h
  · rename_i g v pos
    split at h
    · rename_i i
      split at h
      · simp only [Bool.and_eq_true] at h
        obtain ⟨⟨⟨⟨h1, h2⟩, h3⟩, h4⟩, h5⟩ := h
        have h3' : ∀ q, hxOf ex = some q → q.1 ≠ i := fun q hq e => by
          rw [hq] at h3
          simp [e] at h3
        cases hn : notComp v with
        | true => exact u_name cx h1 h2 h3' (sE hT e cx' h4) (swaps_of hn _ _ _)
        | false =>
          rw [hn, Bool.false_or] at h5
          split at h5
          · exact v_lc hT cx h1 h4 h5
          · cases h5
      · cases h
    · simp only [Bool.and_eq_true] at h
      obtain ⟨⟨⟨⟨h1, h2⟩, h3⟩, h4⟩, h5⟩ := h
      subst h1
      have hn : ex = none := by
        cases ex with
        | none => rfl
        | some x =>
          obtain ⟨_, _, hc, _⟩ := cx.held x rfl
          rw [cx.calm rfl] at hc
          cases hc
      subst hn
      exact u_tup cx h2 (sE hT e cx' h3) h4 h5
    · simp only [Bool.and_eq_true] at h
      obtain ⟨⟨⟨h1, h2⟩, h3⟩, h4⟩ := h
      subst h1
      split at h2
      · simp only [Bool.and_eq_true, Bool.not_eq_true'] at h2
        obtain ⟨⟨m1, m2⟩, m3⟩ := h2
        exact u_sub cx (sE hT _ cx' m1) (sE hT _ cx' m2) m3 (sE hT e cx' h3) h4
      · cases h2
    · cases h
  · cases h
theorem held_none (cx : CtxS T TX C X W N sc true ex) : ex = none := by
  cases ex with
  | none => rfl
  | some x =>
    obtain ⟨_, _, hc, _⟩ := cx.held x rfl
    rw [cx.calm rfl] at hc
    cases hc
theorem nostar_of {hx : Option (Nat × Nat)} {e : E} {f : Expr} (h : trB T N sc cl hx e f = true) : ∀ w q, f ≠ .Starred w q := by
  intro w q z
  subst z
  have := star_of h [] default
  cases this
theorem v_par (hT : T.ok = true) (cx : CtxS T TX C X W N sc cl ex) {i j : Nat} {a c : E} {s : Stmt} (h : trS T N sc cl (hxOf ex) (.par i j a c) s = true) : PS X s (tSt X.K TX b ex W (xst C b (.par i j a c))) := by
  have cx' := cx.toCtx
  unfold trS at h
  split at h
  · simp only [Bool.and_eq_true, Bool.not_eq_true'] at h
    obtain ⟨⟨⟨⟨⟨⟨⟨⟨⟨⟨⟨⟨h1, h2⟩, h3⟩, h4⟩, h5⟩, h6⟩, h7⟩, h8⟩, h9⟩, h10⟩, h11⟩, h12⟩, h13⟩ := h
    subst h1
    have hn := held_none cx
    subst hn
    exact u_par cx h2 h3 (of_decide_eq_false h4) h5 h6 (of_decide_eq_true h7) h8 (of_decide_eq_false h9) h10 h11 (sE hT a cx' h12) (sE hT c cx' h13) (fun es => star_of h12 es _) (star_of h13 _ _) (nostar_of h12) (nostar_of h13)
  · cases h
theorem v_append (hT : T.ok = true) (cx : CtxS T TX C X W N sc cl ex) {a e : E} {s : Stmt} (h : trS T N sc cl (hxOf ex) (.append a e) s = true) : PS X s (tSt X.K TX b ex W (xst C b (.append a e))) := by
  have cx' := cx.toCtx
  unfold trS at h
  split at h
  · rename_i x f ap v cp pos
    simp only [Bool.and_eq_true] at h
    obtain ⟨⟨⟨⟨⟨h1, h2⟩, h3⟩, h4⟩, h5⟩, h6⟩ := h
    subst h1
    have hf : f = "append" := of_decide_eq_true h2
    subst hf
    refine u_append (sE hT a cx' h4) (sE hT e cx' h5) ?_ h3 (star_of h5 _ _)
    split at h6
    · rfl
    · rfl
    · cases h6
  · cases h
theorem v_raise (hT : T.ok = true) (cx : CtxS T TX C X W N sc cl ex) {k : Nat} {es : Es} {s : Stmt} (h : trS T N sc cl (hxOf ex) (.raise k es) s = true) : PS X s (tSt X.K TX b ex W (xst C b (.raise k es))) := by
  unfold trS at h
  split at h
  · simp only [Bool.and_eq_true] at h
    obtain ⟨⟨⟨h1, h2⟩, h3⟩, h4⟩ := h
    subst h1
    cases es with
    | nil => exact u_raise0 cx h2 (of_decide_eq_true h3)
    | cons _ _ => cases h4
  · rename_i x p1 g gs p2 p3
    simp only [Bool.and_eq_true] at h
    obtain ⟨⟨⟨⟨h1, h2⟩, h3⟩, h4⟩, h5⟩ := h
    subst h1
    have h3 := of_decide_eq_true h3
    cases e : T.cls[k]? with
    | none => rw [e] at h3; cases h3
    | some pp =>
      rw [e] at h3
      have h3 : (pp.1, pp.2.1.length) = (x, (g :: gs).length) := Option.some.inj h3
      have hl : pp.2.1.length = (g :: gs).length := congrArg Prod.snd h3
      have hs := h5
      cases es with
      | nil => simp [trsB] at h5
      | cons e1 es1 =>
        have h5' := Bool.and_eq_true_iff.mp (by simpa [trsB] using h5)
        exact u_raiseN cx h2 e (congrArg Prod.fst h3) (fun z => by rw [z] at hl; simp at hl) hl.symm (Tab.nd hT e) (of_decide_eq_true h4) (sEs hT (.cons e1 es1) cx.toCtx hs) (fun σ S vs S' q => evs_len hs q) (star_of h5'.1 _ _) (stars_of h5'.2 _ _)
  · cases h
end
section
variable [RT] {T : Tab} {TX : Exc} {C : Nat → List PV → Sto → R PV} {N : List Str} {b : Nat}
mutual
theorem sS (hT : T.ok = true) : ∀ (p : MP.St) {s : Stmt} {X : Cx} {W : WX} {sc : Scope} {cl : Bool} {ex : Option Held}, (∀ c, SuiteOk T TX X.K X.mg c) → CtxS T TX C X W N sc cl ex → trS T N sc cl (hxOf ex) p s = true → PS X s (tSt X.K TX b ex W (xst C b p))
  | .asg t e, s, X, W, sc, cl, ex, sk, cx, h => v_asg hT cx h fun _ => trivial
  | .par i j a c, s, X, W, sc, cl, ex, sk, cx, h => v_par hT cx h
  | .append a e, s, X, W, sc, cl, ex, sk, cx, h => v_append hT cx h
  | .raise k es, s, X, W, sc, cl, ex, sk, cx, h => v_raise hT cx h
  | .aug i o e, s, X, W, sc, cl, ex, sk, cx, h => by
    have cx' := cx.toCtx
    unfold trS at h
    split at h
    · simp only [Bool.and_eq_true] at h
      obtain ⟨⟨⟨⟨h1, h2⟩, h3⟩, h4⟩, h5⟩ := h
      subst h1
      have hn := held_none cx
      subst hn
      cases o with
      | add => exact u_aug cx h3 h4 (fun q hq => by cases hq) (sE hT e cx' h5)
      | _ => cases h2
    · cases h
  | .augA _ _ _, s, X, W, sc, cl, ex, sk, cx, h => by simp [trS] at h
  | .expr e, s, X, W, sc, cl, ex, sk, cx, h => by
    unfold trS at h
    split at h
    · have h' := Bool.and_eq_true_iff.mp h
      exact u_expr (sE hT e cx.toCtx h'.1) h'.2
    · cases h
  | .ifs c p q, s, X, W, sc, cl, ex, sk, cx, h => by
    unfold trS at h
    split at h
    · simp only [Bool.and_eq_true] at h
      exact u_if (sT hT c cx.toCtx h.1.1) (sSs hT p sk cx h.1.2) (sSs hT q sk cx h.2)
    · cases h
  | .fors t it p, s, X, W, sc, cl, ex, sk, cx, h => by
    unfold trS at h
    split at h
    · simp only [Bool.and_eq_true] at h
      obtain ⟨⟨⟨⟨h1, h2⟩, h3⟩, h4⟩, h5⟩ := h
      subst h1
      have hn := none_of h2
      subst hn
      exact u_for cx h3 (sIt hT it cx.toCtx h4) (folded_of h4 _) (sSs hT p sk cx h5)
    · cases h
  | .whiles c p, s, X, W, sc, cl, ex, sk, cx, h => by
    unfold trS at h
    split at h
    · simp only [Bool.and_eq_true] at h
      obtain ⟨⟨⟨h1, h2⟩, h3⟩, h4⟩ := h
      subst h1
      have hn := none_of h2
      subst hn
      exact u_while cx (sT hT c cx.toCtx h3) (sSs hT p sk cx h4)
    · cases h
  | .ret e, s, X, W, sc, cl, ex, sk, cx, h => by
    unfold trS at h
    split at h
    · exact u_ret (sE hT e cx.toCtx h)
    · cases h
  | .retN, s, X, W, sc, cl, ex, sk, cx, h => by
    unfold trS at h
    split at h
    · exact u_retN
    · cases h
  | .tryo p k i q, s, X, W, sc, cl, ex, sk, cx, h => by
    unfold trS at h
    split at h
    · simp only [Bool.and_eq_true] at h
      obtain ⟨⟨⟨⟨⟨h1, h2⟩, h3⟩, h4⟩, h5⟩, h6⟩ := h
      subst h1
      have hn := none_of h2
      subst hn
      have hb : ∀ (W' : WX) (Y : Cx), Y.K = X.K ∧ Y.mg = X.mg → CtxS T TX C Y W' N sc true none → PSs Y _ (tSt Y.K TX b none W' (xss C b p)) := fun W' Y e cy => sSs hT p (by rw [e.1, e.2]; exact sk) cy h5
      split at h6
      · rename_i k' y
        simp only [Bool.and_eq_true] at h6
        obtain ⟨⟨m1, m2⟩, m3⟩ := h6
        exact u_try_as cx h3 (of_decide_eq_true h4) m1 m2 hb fun A oe cls dd pn hz hv => sSs hT q (X := X.suite A ((A, oe) :: pn)) (ex := some ⟨k', A, k, cls, dd⟩) sk (Ctx.su cx sk hz hv k k') m3
      · exact u_try_only cx h3 (of_decide_eq_true h4) hb fun A pn => sSs hT q (X := X.suite A pn) (ex := none) sk (Ctx.su0 cx) h6
      · cases h6
    · cases h
  | .pass, s, X, W, sc, cl, ex, sk, cx, h => by
    unfold trS at h
    split at h
    · exact u_pass
    · cases h
  | .brk, s, X, W, sc, cl, ex, sk, cx, h => by
    unfold trS at h
    split at h
    · exact u_brk
    · cases h
  | .cont, s, X, W, sc, cl, ex, sk, cx, h => by
    unfold trS at h
    split at h
    · exact u_cont
    · cases h
theorem sSs (hT : T.ok = true) : ∀ (p : Ss) {s : List Stmt} {X : Cx} {W : WX} {sc : Scope} {cl : Bool} {ex : Option Held}, (∀ c, SuiteOk T TX X.K X.mg c) → CtxS T TX C X W N sc cl ex → trSs T N sc cl (hxOf ex) p s = true → PSs X s (tSt X.K TX b ex W (xss C b p))
  | .nil, [], X, W, sc, cl, ex, sk, cx, h => u_nil
  | .nil, _ :: _, X, W, sc, cl, ex, sk, cx, h => by simp [trSs] at h
  | .cons _ _, [], X, W, sc, cl, ex, sk, cx, h => by simp [trSs] at h
  | .cons p q, s :: ss, X, W, sc, cl, ex, sk, cx, h => by
    have h' := Bool.and_eq_true_iff.mp (by simpa [trSs] using h)
    exact u_cons (sS hT p sk cx h'.1) (sSs hT q sk cx h'.2)
end
end
end MP
end
section
set_option Elab.async false
set_option linter.all false
set_option maxRecDepth 100000
set_option maxHeartbeats 1000000
/-! MPSound17: defs by their bodies; what the top leaves; the end of a law. -/
namespace MP
open PySem PySem.Spec PyProof.Rows L2
/-! ### defs -/
/-- a def: its name, its row of the text, its names by slot, its parameters, its MP -/
structure DefT where
  name : Str
  st : Stmt
  N : List Str
  ps : List Str
  fd : FDef
def scopeB (N ps : List Str) (sc : Scope) : Bool :=
  decide (sc.kind = .function) && !sc.isCoroutine && !sc.isGenerator && decide N.Nodup && decide (N.take ps.length = ps) && (ps.all fun x => locB sc x) && (sc.names.all fun y => !decide (y.2 = .free))
def DefT.look (T : Tab) (t : DefT) : Bool := scopeB t.N t.ps (defScope t.st) && trSs T t.N (defScope t.st) true none t.fd.body (defBody t.st) && decide (t.ps.length = t.fd.np) && decide (t.N.length = t.fd.nn)
theorem scopeB_ok {N ps : List Str} {sc : Scope} (h : scopeB N ps sc = true) : FnScope N ps sc := by
  unfold scopeB at h
  simp only [Bool.and_eq_true, Bool.not_eq_true'] at h
  obtain ⟨⟨⟨⟨⟨⟨h1, h2⟩, h3⟩, h4⟩, h5⟩, h6⟩, h7⟩ := h
  refine ⟨of_decide_eq_true h1, h2, h3, of_decide_eq_true h4, of_decide_eq_true h5, fun x hx => ?_, fun y hy e => ?_⟩
  · have z := List.all_eq_true.mp h6 x hx
    haveI : RT := ⟨fun _ => 0, fun _ => []⟩
    exact (locB_ok z)
  · have z := List.all_eq_true.mp h7 y hy
    simp [e] at z
/-- what the text's top leaves -/
structure GlobOk [RT] (T : Tab) (TX : Exc) (D : List DefT) (K : PySem.W.Frag) (mg : Str → Option Value) : Prop where
  free : ∀ x, T.bi.contains x = true → (x = "gcd" → mg x = some (.builtin "math.gcd")) ∧ (x ≠ "gcd" → mg x = none)
  glb : ∀ p ∈ T.glb, ∃ w u, mg p.1 = some u ∧ RelV w u ∧ ∀ ρ H, RelP K ρ H p.2 w
  rcs : ∀ (c : Nat) (p : Str × List Str), T.rcs[c]? = some p → RcK K mg c p
  kit : ∀ (c d : Nat), c < T.rcs.length → d < T.rcs.length → PySem.W.kitOne K (.ref (RT.rc d)) (.ref (RT.rc c)) = some (decide (d = c))
  num : TX.n = T.cls.length
  exc : ∀ (c : Nat) (p : Str × List Str × List Str), T.cls[c]? = some p → ExcK K mg (TX.at_ c) p.1 p.2.1
  exm : ∀ c d, c < TX.n → d < TX.n → PySem.W.exmOne K (.ref (TX.at_ d)) (.ref (TX.at_ c)) = some (decide (d = c))
  attrs : ∀ (c : Nat) (p : Str × List Str × List Str), T.cls[c]? = some p → TX.attrs c = p.2.1
  suite : ∀ c, SuiteOk T TX K mg c
  xin : ∀ (c : Nat) (p : Str × List Str × List Str), T.cls[c]? = some p → p.2.1 ≠ [] → ∃ fI fd x qual params body scope, OexC K (TX.at_ c) ∧ PySem.W.findIn K (.ref (TX.at_ c)) "__init__" = some (some (.ref fI)) ∧ PySem.W.typeIn K (.ref fI) = some (.type "function") ∧
    Binds K fd ("self" :: p.2.1) [] ∧ FunD K x qual params body scope [] [] fI fd ∧ FnScope (("self" : Str) :: p.2.1) (("self" : Str) :: p.2.1) scope ∧ initB p.2.1 body = true ∧ (∀ f ∈ p.2.1, PySem.W.findIn K (.ref (TX.at_ c)) f = some none) ∧ p.2.1.length ≤ 900
  fns : ∀ (f : Nat) (t : DefT), D[f]? = some t → ∃ fa fdata, mg t.name = some (.ref fa) ∧ PySem.W.keepIn K (.ref fa) = true ∧ Binds K fdata t.ps [] ∧ (∀ (s : Shared) (us : List Value), us.length = t.ps.length → BindsTo s fdata ⟨us, []⟩ (t.ps.zip us)) ∧ FunD K t.name t.name (defArgs t.st) (defBody t.st) (defScope t.st) [] [] fa fdata
section
variable [RT] {T : Tab} {TX : Exc} {D : List DefT} {K : PySem.W.Frag} {mg : Str → Option Value} {P : Program} {w : World} {base : Heap}
/-- a def's promise, d calls deep -/
abbrev spF (K : PySem.W.Frag) (TX : Exc) (D : List DefT) (d f : Nat) : Sp := spC K TX (callN (D.map (·.fd)) d f)
theorem start_env {TX : Exc} {ρ : List Addr} {H : Hp} {args : List PV} {vs : List V} {N : List Str} {np : Nat} (r : RelPs K ρ H args vs) (h1 : args.length = np) : EnvOk K TX none ρ H (args.map some ++ List.replicate (N.length - np) none) (L2.start N vs) := by
  have hl := r.length
  refine ⟨by simp [L2.start, ← hl, h1], fun i v h _ => ?_, fun x hx => by cases hx⟩
  by_cases hi : i < args.length
  · rw [List.getElem?_append_left (by simpa using hi), List.getElem?_map] at h
    cases e : args[i]? with
    | none => rw [e] at h; cases h
    | some u =>
      rw [e] at h
      have h : u = v := by simpa using h
      subst h
      obtain ⟨w, h2, h3⟩ := r.get e
      refine ⟨w, ?_, h3⟩
      unfold L2.start
      rw [List.getElem?_append_left (by simpa [← hl] using hi), List.getElem?_map, h2]
      rfl
  · rw [List.getElem?_append_right (by simpa using Nat.le_of_not_lt hi), List.getElem?_replicate] at h
    split at h <;> cases h
theorem paired_und {α β : Type} {F G : α → β → Prop} {g : α → Bool} (f : ∀ a b, g a = true → F a b → G a b) : ∀ {xs : List α} {ys : List β}, (xs.all g) = true → Paired F xs ys → Paired G xs ys
  | _, _, _, .nil => .nil
  | _, _, h, .cons p t => by
    rw [List.all_cons, Bool.and_eq_true] at h
    exact .cons (f _ _ h.1 p) (paired_und f h.2 t)
theorem paired_all {α β : Type} {F : α → β → Prop} {g : α → Bool} (f : ∀ a b, F a b → g a = true) : ∀ {xs : List α} {ys : List β}, Paired F xs ys → (xs.all g) = true
  | _, _, .nil => rfl
  | _, _, .cons p t => by rw [List.all_cons, f _ _ p, paired_all f t]; rfl
theorem unds_all {n : Nat} {κ : Type} : ∀ (kvs : List (κ × PV)), PV.unds n (kvs.map (·.2)) = kvs.all fun p => p.2.und n
  | [] => rfl
  | p :: kvs => by
    have ih := unds_all (n := n) kvs
    rw [List.map_cons, List.all_cons, ← ih]
    rfl
theorem CellOk.und {ρ : List Addr} {H : Hp} {a : Addr} {c : Cell} (co : CellOk K ρ H a c) : c.und ρ.length = true := by
  cases c with
  | lst xs => obtain ⟨vs, r, _⟩ := co; exact r.und
  | ro xs => obtain ⟨vs, r, _⟩ := co; exact r.und
  | ins c fs => obtain ⟨dx, vs, r, _⟩ := co; exact r.und
  | dT kvs =>
    obtain ⟨xs, r, _⟩ := co
    show PV.unds _ _ = true
    rw [unds_all]
    exact paired_all (fun _ _ z => let ⟨_, q, _⟩ := z.2.2; q.und) r.rel
  | dK kvs =>
    obtain ⟨xs, r, _⟩ := co
    show PV.unds _ _ = true
    rw [unds_all]
    exact paired_all (fun _ _ z => z.2.und) r
theorem CellOk.cut {ρ ρ' : List Addr} {n : Nat} {H : Hp} {a : Addr} {c : Cell} (tk : ρ'.take n <+: ρ) (u : c.und n = true) (co : CellOk K ρ' H a c) : CellOk K ρ H a c := by
  cases c with
  | lst xs => obtain ⟨vs, r, z⟩ := co; exact ⟨vs, r.cut tk u, z⟩
  | ro xs => obtain ⟨vs, r, z⟩ := co; exact ⟨vs, r.cut tk u, z⟩
  | ins c fs => obtain ⟨dx, vs, r, z⟩ := co; exact ⟨dx, vs, r.cut tk u, z⟩
  | dT kvs =>
    obtain ⟨xs, r, z⟩ := co
    have u : PV.unds n (kvs.map (·.2)) = true := u
    rw [unds_all] at u
    exact ⟨xs, ⟨paired_und (fun _ _ g z => ⟨z.1, z.2.1, let ⟨w, q, l⟩ := z.2.2; ⟨w, q.cut tk g, l⟩⟩) u r.rel⟩, z⟩
  | dK kvs =>
    obtain ⟨xs, r, z⟩ := co
    have u : PV.unds n (kvs.map (·.2)) = true := u
    rw [unds_all] at u
    exact ⟨xs, paired_und (fun _ _ g z => ⟨z.1, z.2.cut tk g⟩) u r, z⟩
/-- what a def made is forgotten -/
theorem trunc_ok {ρ ρ' : List Addr} {S S1 : Sto} {H H' : Hp} (so : StOk K S.cells.length ρ S H) (g : Grow S.cells.length ρ ρ' ⟨S.cells, false⟩ S1 H H') (so' : StOk K S.cells.length ρ' S1 H') (hd : S1.dirty = false) :
    Grow S.cells.length ρ ρ S ⟨S1.cells.take S.cells.length, S.dirty⟩ H H' ∧ StOk K S.cells.length ρ ⟨S1.cells.take S.cells.length, S.dirty⟩ H' := by
  have okS : okU S.cells.length S.cells := fun k c hk q => by
    obtain ⟨a, ha⟩ := so.lt q
    have z := (so.cell k c a q ha).und
    rw [so.len] at z
    exact z
  obtain ⟨_, u⟩ := g.und hd
  have okT := u _ (Nat.le_refl _) okS
  have gl : S.cells.length ≤ S1.cells.length := g.len
  have hlen : (S1.cells.take S.cells.length).length = S.cells.length := by
    rw [List.length_take]
    omega
  have tk : ρ'.take S.cells.length <+: ρ := by
    obtain ⟨t, rfl⟩ := g.pre
    rw [← so.len, List.take_left]
    exact List.prefix_refl _
  have get : ∀ {k : Nat} {c : Cell}, (S1.cells.take S.cells.length)[k]? = some c → k < S.cells.length ∧ S1.cells[k]? = some c := fun {k c} q => by
    have h1 := (List.getElem?_eq_some_iff.mp q).1
    rw [hlen] at h1
    rw [List.getElem?_take_of_lt h1] at q
    exact ⟨h1, q⟩
  refine ⟨⟨g.keep, List.prefix_refl _, by rw [hlen]; exact Nat.le_refl _, fun a o e n => ⟨(g.frame a o e n).1, n⟩, fun e => ⟨e, fun n hn us k c hk q => ?_⟩⟩, ⟨by rw [hlen]; exact so.len, fun k c a q e => ?_, fun j k a c d e1 e2 q1 q2 n1 n2 => ?_, by rw [hlen]; exact Nat.le_refl _⟩⟩
  · obtain ⟨h1, q⟩ := get q
    exact u n hn us k c hk q
  · obtain ⟨h1, q⟩ := get q
    exact (so'.cell k c a q (pre_get g.pre e)).cut tk (okT k c h1 q)
  · obtain ⟨_, q1⟩ := get q1
    obtain ⟨_, q2⟩ := get q2
    exact so'.inj j k a c d (pre_get g.pre e1) (pre_get g.pre e2) q1 q2 n1 n2
/-- leaving a def -/
theorem fin_ok {E : XK} {ρ ρ' : List Addr} {S S1 : Sto} {H H' : Hp} {v : PV} {w : V} {Q : VK} (so : StOk K S.cells.length ρ S H) (g : Grow S.cells.length ρ ρ' ⟨S.cells, false⟩ S1 H H') (so' : StOk K S.cells.length ρ' S1 H') (r : RelP K ρ' H' v w)
    (h : At K TX S.cells.length E (relE K) ρ S H (fin S v S1) Q) : Q w H' := by
  unfold fin at h
  split at h
  · rename_i hp
    have hp' := Bool.and_eq_true_iff.mp hp
    obtain ⟨g2, so2⟩ := trunc_ok so g so' (by simpa using hp'.2)
    exact h ρ H' w g2 so2 (r.pure_any hp'.1)
  · refine h ρ' H' w ⟨g.keep, g.pre, g.len, g.frame, fun e => ?_⟩ ⟨so'.len, so'.cell, so'.inj, so'.base⟩ r
    have e' : S.dirty = false ∧ S1.dirty = false := by simpa using e
    exact ⟨e'.1, (g.und e'.2).2⟩
theorem finX_ok {E : XK} {ρ ρ' : List Addr} {S S1 : Sto} {H H' : Hp} {c : Nat} {as : List PV} {cls : Value} {d : Option Addr} {Q : VK} (so : StOk K S.cells.length ρ S H) (g : Grow S.cells.length ρ ρ' ⟨S.cells, false⟩ S1 H H') (so' : StOk K S.cells.length ρ' S1 H') (x : ExcOk K TX ρ' H' c as cls d)
    (h : At K TX S.cells.length E (relE K) ρ S H (if PV.pures as && !S1.dirty then .exc c as ⟨S1.cells.take S.cells.length, S.dirty⟩ else .bad) Q) : E cls d H' := by
  split at h
  · rename_i hp
    have hp' := Bool.and_eq_true_iff.mp hp
    obtain ⟨g2, so2⟩ := trunc_ok so g so' (by simpa using hp'.2)
    refine h ρ H' cls d g2 so2 ?_
    obtain ⟨h0, h1, h2, h3⟩ := x
    exact ⟨h0, h1, h2, h3.imp id fun ⟨n, dd, fs, ws, e, z, l, r⟩ => ⟨n, dd, fs, ws, e, z, l, r.pure_any hp'.1⟩⟩
  · exact h.elim
theorem _root_.L2.FunD.lk {x qual : Str} {params : Arguments} {body : List Stmt} {scope : Scope} {dvs : List V} {kws : List (Str × V)} {f : Addr} {fd : FuncData} (F : FunD K x qual params body scope dvs kws f fd) : ∃ oc od osl, K.lookup f = some ⟨oc, od, .func fd, osl⟩ := by
  obtain ⟨oc, od, dV, kV, doc, pm, an, cdv, ct, osl, rfl, lk, _⟩ := F.ex
  exact ⟨oc, od, osl, lk⟩
theorem room65 {k : Nat} {A : Around} (r : Room k A) : A.units + 65 < cLine := by have := r.un; omega
/-- every def keeps its promise -/
theorem fn_all (hT : T.ok = true) (hD : (D.all fun t => t.look T) = true) (hn : T.fns = D.map fun t => some t.name) (hi0 : T.inits = []) (hm0 : T.meths = []) (sr : base.NoSeer) (tr : P.given.tree = none) (G : GlobOk T TX D K mg) : ∀ (d f : Nat) (t : DefT), D[f]? = some t →
    ∃ fa fdata, mg t.name = some (.ref fa) ∧ PySem.W.keepIn K (.ref fa) = true ∧ Binds K fdata t.ps [] ∧ (∀ (s : Shared) (us : List Value), us.length = t.ps.length → BindsTo s fdata ⟨us, []⟩ (t.ps.zip us)) ∧ FnOk P w K mg base (L2.CX P w) (40 + d) fa fdata t.ps (spF K TX D d f) ∧ ∃ oc od osl, K.lookup fa = some ⟨oc, od, .func fdata, osl⟩
  | 0, f, t, h => by
    obtain ⟨fa, fdata, h1, h2, h3, h4, F⟩ := G.fns f t h
    refine ⟨fa, fdata, h1, h2, h3, h4, ⟨fun vs H Q E q => ?_, fun A outer s H args us vs Q E hr e0 hb hv q => ?_⟩, F.lk⟩
    · obtain ⟨ρ, S, args, so, r, q⟩ := q
      unfold callN at q
      exact q.elim
    · obtain ⟨ρ, S, args, so, r, q⟩ := q
      unfold callN at q
      exact q.elim
  | d + 1, f, t, h => by
    have IH := fn_all hT hD hn hi0 hm0 sr tr G d
    obtain ⟨fa, fdata, h1, h2, h3, h4, F⟩ := G.fns f t h
    have lk := List.all_eq_true.mp hD t (List.mem_of_getElem? h)
    unfold DefT.look at lk
    simp only [Bool.and_eq_true] at lk
    obtain ⟨⟨⟨l1, l2⟩, l3⟩, l4⟩ := lk
    have l3 : t.ps.length = t.fd.np := of_decide_eq_true l3
    have l4 : t.N.length = t.fd.nn := of_decide_eq_true l4
    have SC := scopeB_ok l1
    have body : ∀ {args : List PV} {S : Sto}, callN (D.map (·.fd)) (d + 1) f args S = if args.length = t.fd.np then runF (callN (D.map (·.fd)) d) t.fd args S else .bad := fun {args S} => by
      rw [callN, List.getElem?_map, h]
      rfl
    refine ⟨fa, fdata, h1, h2, h3, h4, F.ok SC (fun vs H Q E q => ?_) (fun cdv A outer s H vs Q E hr q => ?_), F.lk⟩
    · obtain ⟨ρ, S, args, so, r, q⟩ := q
      rw [body] at q
      split at q
      · rename_i hl
        rw [l3, ← hl, r.length]
      · exact q.elim
    · let X : Cx := cxOf (L2.CX P w) P w K mg base t.N t.name (defScope t.st) fa cdv A outer s H E
      have cx : CtxS T TX (callN (D.map (·.fd)) d) X (fun cls dd _ H' => E cls dd H') t.N (defScope t.st) true none :=
        { scope := rfl, names := rfl, nd := SC.nd, takes := takes_of rfl rfl rfl rfl, calm := (fun _ => rfl), unit := room65 hr, free := G.free, glb := G.glb, wide := ⟨by have hr' : Room (40 + d) (A.deeper (envOfC t.name (defScope t.st) s.heap.objs.size fa cdv)) := hr; have q := hr'.dp; have e : recursionLimit = 1000 := rfl; rw [e] at q; show (A.deeper (envOfC t.name (defScope t.st) s.heap.objs.size fa cdv)).depth + 100 < 1000; omega, sr, tr, _, _, rfl, SC.gen, SC.co, rfl, rfl⟩, rcs := G.rcs, kit := G.kit, inits := (fun _ c f h => by rw [hi0] at h; cases h), meths := (fun _ c m f h => by rw [hm0] at h; cases h), xin := (fun _ c p e ne => by obtain ⟨fI, fd, x, q, ps, bd, sc, a1, a2, a3, a4, a5, a6, a7, a8, a9⟩ := G.xin c p e ne; exact ⟨fI, fd, 1, a1, a2, a3, a4, ini_ok (k := 0) a5 a6 a7 a1 a8 a9 ne, Room.mono (j := 2) (k := 40 + d) hr (by omega)⟩), num := G.num, exc := G.exc, exm := G.exm, attrs := G.attrs, held := (fun x hx => by cases hx), stk := rfl, frame := rfl,
          po := (fun _ => passes_of rfl), fn := (fun _ => rfl),
          fns := (fun _ g x hg => by
            rw [hn, List.getElem?_map] at hg
            cases e : D[g]? with
            | none => rw [e] at hg; cases hg
            | some u =>
              rw [e] at hg
              have hg : u.name = x := by simpa using hg
              subst hg
              obtain ⟨ga, gd, k1, k2, k3, _, k4, _⟩ := IH g u e
              exact ⟨ga, gd, u.ps, 40 + d, k1, k2, k3, k4, hr⟩) }
      obtain ⟨ρ, S, args, so, r, q⟩ := q
      rw [body] at q
      split at q
      · rename_i hl
        refine ⟨_, sSs (b := S.cells.length) hT t.fd.body G.suite cx l2, ρ, args.map some ++ List.replicate (t.N.length - t.fd.np) none, ⟨S.cells, false⟩, ⟨so.len, so.cell, so.inj, Nat.le_refl _⟩, start_env r hl, ?_⟩
        unfold runF at q
        rw [l4]
        cases e : xss (callN (D.map (·.fd)) d) S.cells.length t.fd.body (args.map some ++ List.replicate (t.fd.nn - t.fd.np) none) ⟨S.cells, false⟩ with
        | next σ1 S1 => rw [e] at q; exact fun ρ' H' τ g so' eo' => fin_ok so g so' .non q
        | ret v S1 => rw [e] at q; exact fun ρ' H' w g so' r' => fin_ok so g so' r' q
        | exc c as σ1 S1 => rw [e] at q; exact fun ρ' H' τ cls dd g so' eo' x => finX_ok so g so' x q
        | brk σ1 S1 => rw [e] at q; exact q.elim
        | cont σ1 S1 => rw [e] at q; exact q.elim
        | bad => rw [e] at q; exact q.elim
      · exact q.elim
end
end MP
end
section
set_option Elab.async false
set_option linter.all false
set_option maxRecDepth 100000
set_option maxHeartbeats 1000000
/-! MPSound18: the look at what the top leaves; the end of a law. -/
namespace MP
open PySem PySem.Spec PyProof.Rows L2 He
/-- a value that stays, as the top has it -/
def pvB (K : PySem.W.Frag) : Nat → PV → Value → Bool
  | 0, _, _ => false
  | n + 1, v, u => match v, u with
    | .non, .none => true
    | .bl a, .bool c => a == c
    | .int a, .int c _ => decide (a = c)
    | .str a, .str c _ => decide (a = c)
    | .tup xs, .ref p => match K.lookup p with
      | some ⟨.type c, _, .seq its _, _⟩ => decide (c = "tuple") && decide (its.size ≤ sizeLine) && decide (xs.length = its.toList.length) && (xs.zip its.toList).all fun q => pvB K n q.1 q.2
      | _ => false
    | _, _ => false
theorem pvB_ok [RT] {K : PySem.W.Frag} : ∀ {n : Nat} {v : PV} {u : Value}, pvB K n v u = true → ∃ w, RelV w u ∧ ∀ ρ H, RelP K ρ H v w
  | 0, _, _, h => by cases h
  | n + 1, v, u, h => by
    unfold pvB at h
    split at h
    · exact ⟨.non, rfl, fun _ _ => .non⟩
    · rename_i a c
      have e : a = c := eq_of_beq h
      subst e
      exact ⟨.bl a, rfl, fun _ _ => .bl a⟩
    · rename_i a c t
      have e : a = c := of_decide_eq_true h
      subst e
      exact ⟨.int a, ⟨t, rfl⟩, fun _ _ => .int a⟩
    · rename_i a c t
      have e : a = c := of_decide_eq_true h
      subst e
      exact ⟨.str a, ⟨t, rfl⟩, fun _ _ => .str a⟩
    · rename_i xs p
      split at h
      · rename_i c dd its m sl hk
        simp only [Bool.and_eq_true] at h
        obtain ⟨⟨⟨h1, h2⟩, h3⟩, h4⟩ := h
        have h1 : c = "tuple" := of_decide_eq_true h1
        subst h1
        have h3 : xs.length = its.toList.length := of_decide_eq_true h3
        have all : ∀ (ys : List PV) (us : List Value), ys.length = us.length → ((ys.zip us).all fun q => pvB K n q.1 q.2) = true → ∃ ws, Vals ws us ∧ ∀ ρ H, RelPs K ρ H ys ws := by
          intro ys
          induction ys with
          | nil =>
            intro us e _
            cases us with
            | nil => exact ⟨[], .nil, fun _ _ => .nil⟩
            | cons _ _ => cases e
          | cons y ys ih =>
            intro us e a
            cases us with
            | nil => cases e
            | cons u us =>
              rw [List.zip_cons_cons, List.all_cons, Bool.and_eq_true] at a
              obtain ⟨w, r1, r2⟩ := pvB_ok a.1
              obtain ⟨ws, s1, s2⟩ := ih us (by simpa using e) a.2
              exact ⟨w :: ws, .cons r1 s1, fun ρ H => .cons (r2 ρ H) (s2 ρ H)⟩
        obtain ⟨ws, s1, s2⟩ := all xs its.toList h3 h4
        exact ⟨.ref p, rfl, fun ρ H => .tup (.inr ⟨_, its, m, hk, rfl, rfl, of_decide_eq_true h2, s1⟩) (s2 ρ H)⟩
      · cases h
    · cases h
/-- the classes of records of a text -/
abbrev rtOf (T : Tab) (K : PySem.W.Frag) : RT := ⟨fun c => match T.rcs[c]? with
  | some p => ga K p.1
  | none => 0, fun c => match T.rcs[c]? with
  | some p => p.2
  | none => []⟩
def clAt (T : Tab) (K : PySem.W.Frag) (c : Nat) : Addr := match T.cls[c]? with
  | some p => ga K p.1
  | none => 0
def txOf (T : Tab) (K : PySem.W.Frag) : Exc := ⟨T.cls.length, clAt T K, fun c => match T.cls[c]? with
  | some p => p.2.1
  | none => []⟩
def oVal (a : Option (Option Value)) (b : Option (Option Value)) : Bool := decide (a = b)
def freeB (K : PySem.W.Frag) (x : Str) : Bool := if x = "gcd" then oVal (PySem.W.nsIn K mainGlobals x) (some (some (.builtin "math.gcd"))) else oVal (PySem.W.nsIn K mainGlobals x) (some none)
def glbB (K : PySem.W.Frag) (p : Str × PV) : Bool := match PySem.W.nsIn K mainGlobals p.1 with
  | some (some u) => pvB K 20 p.2 u
  | _ => false
/-- a class that isinstance may be asked of -/
def supB (K : PySem.W.Frag) (A : Addr) (z : Str) : Bool := match PySem.W.nsIn K mainGlobals z with
  | some (some (.ref a)) => decide (PySem.W.kitOne K (.ref A) (.ref a) = some true)
  | some none => match bootBuiltins z with
    | some (.type t) => !decide (z = "__name__") && decide (PySem.W.kitOne K (.ref A) (.type t) = some true)
    | _ => false
  | _ => false
/-- a class of exceptions with an own __init__, as the top has it -/
def oexB (K : PySem.W.Frag) (C : Addr) : Bool := (match K.lookup C with
  | some ⟨.type t, _, .cls cd, sl⟩ => decide (t = "type") && (match cd.mro, sl.toList with
    | .ref C' :: bm, [_, _, _, _, some (.builtin n), _] => decide (C' = C) && decide (n = "ValueError.__new__") && !cd.hasDel && cd.hasDict && PySem.HandSPX.refsVE bm
    | _, _ => false)
  | _ => false) && oVal (PySem.W.findIn K (.ref C) "__setattr__") (some (some (.builtin "object.__setattr__")))
theorem oexB_ok {K : PySem.W.Frag} {C : Addr} (h : oexB K C = true) (h1 : PySem.W.subIn K (.ref C) (.type "BaseException") = some true) (h2 : PySem.W.typeIn K (.ref C) = some (.type "type")) (h3 : PySem.W.keepIn K (.ref C) = true) : OexC K C := by
  unfold oexB at h
  rw [Bool.and_eq_true] at h
  refine ⟨?_, of_decide_eq_true h.2, h1, h2, h3⟩
  have h := h.1
  split at h
  · rename_i t dd cd sl ho
    rw [Bool.and_eq_true] at h
    obtain ⟨ht, h⟩ := h
    have ht := of_decide_eq_true ht
    subst ht
    split at h
    · rename_i C' bm k0 k1 k2 k3 n k5 hm hs
      simp only [Bool.and_eq_true, Bool.not_eq_true'] at h
      obtain ⟨⟨⟨⟨g1, g2⟩, g3⟩, g4⟩, g5⟩ := h
      have g1 := of_decide_eq_true g1
      have g2 := of_decide_eq_true g2
      subst g1 g2
      obtain ⟨nm, bs, mro, ns, qn, hd, sn, sub, ab, col, del⟩ := cd
      simp only at hm g3 g4
      subst hm g3 g4
      have e : sl = #[k0, k1, k2, k3, some (.builtin "ValueError.__new__"), k5] := by
        rw [← Array.toArray_toList (xs := sl), hs]
      subst e
      exact ⟨nm, qn, ns, bs, bm, sn, sub, ab, col, dd, k0, k1, k2, k3, k5, ho, g5⟩
    · cases h
  · cases h
def excB (K : PySem.W.Frag) (p : Str × List Str × List Str) : Bool :=
  let A := ga K p.1
  oVal (PySem.W.nsIn K mainGlobals p.1) (some (some (.ref A))) && PySem.W.keepIn K (.ref A) && decide (PySem.W.subIn K (.ref A) (.type "BaseException") = some true) && decide (PySem.W.typeIn K (.ref A) = some (.type "type")) &&
  (!p.2.1.isEmpty || PySem.W.excIn K A [.type "ValueError", .type "Exception", .type "BaseException", .type "object"] "ValueError.__new__") &&
  oVal (PySem.W.findIn K (.ref A) "__getattribute__") (some (some (.builtin "BaseException.__getattribute__"))) && oVal (PySem.W.findIn K (.ref A) "__getattr__") (some none) && PySem.W.hasDictIn K A && (p.2.1.all fun f => oVal (PySem.W.findIn K (.ref A) f) (some none)) &&
  oVal (PySem.W.findIn K (.ref A) "__class__") (some (some (.builtin "object.__class__"))) && oVal (PySem.W.specialIn K (.builtin "object.__class__") "__get__") (some (some (.builtin "getset_descriptor.__get__"))) && decide (PySem.W.takesIn K (.builtin "object.__class__") = some true) &&
  decide (PySem.W.mroIn K A (.type "object") = some true) && (p.2.2.all fun z => supB K A z) && (p.2.1.isEmpty || oexB K A && (match PySem.W.findIn K (.ref A) "__init__" with
    | some (some (.ref f)) => decide (PySem.W.typeIn K (.ref f) = some (.type "function"))
    | _ => false))
/-- a class of records -/
def rcB (K : PySem.W.Frag) (p : Str × List Str) : Bool :=
  let A := ga K p.1
  oVal (PySem.W.nsIn K mainGlobals p.1) (some (some (.ref A))) && decide p.2.Nodup && decide (p.2.length < 900) && PySem.W.plainGet K A Str.empty && PySem.W.hasDictIn K A && PySem.W.plainOver K A && oVal (PySem.W.findIn K (.ref A) "__setattr__") (some (some (.builtin "object.__setattr__"))) &&
  (p.2.all fun f => oVal (PySem.W.findIn K (.ref A) f) (some none)) && oVal (PySem.W.findIn K (.ref A) "__class__") (some (some (.builtin "object.__class__"))) && oVal (PySem.W.specialIn K (.builtin "object.__class__") "__get__") (some (some (.builtin "getset_descriptor.__get__"))) &&
  decide (PySem.W.takesIn K (.builtin "object.__class__") = some true) && decide (PySem.W.mroIn K A (.type "object") = some true)
def headB (T : Tab) (K : PySem.W.Frag) : Bool :=
  (T.rcs.all fun p => rcB K p) && ((List.range T.rcs.length).all fun c => (List.range T.rcs.length).all fun d => decide (PySem.W.kitOne K (.ref ((rtOf T K).rc d)) (.ref ((rtOf T K).rc c)) = some (decide (d = c)))) &&
  (T.bi.all fun x => freeB K x) && (T.glb.all fun p => glbB K p) && (T.cls.all fun p => excB K p) &&
  ((List.range T.cls.length).all fun c => (List.range T.cls.length).all fun d => decide (PySem.W.exmOne K (.ref (clAt T K d)) (.ref (clAt T K c)) = some (decide (d = c))))
/-- an own __init__ of an exception: its class, its row, its names -/
structure ExI where
  cls : Str
  st : Stmt
  fs : List Str
def ExI.look (e : ExI) : Bool := scopeB (("self" : Str) :: e.fs) (("self" : Str) :: e.fs) (defScope e.st) && initB e.fs (defBody e.st) && decide (e.fs.length ≤ 900)
def exD (e : ExI) : DefD := ⟨(e.cls, some "__init__"), "__init__", e.cls ++ Str.ofString ".__init__", defArgs e.st, defBody e.st, defScope e.st, [], []⟩
def defD (t : DefT) : DefD := ⟨(t.name, none), t.name, t.name, defArgs t.st, defBody t.st, defScope t.st, [], []⟩
def lookM (T : Tab) (D : List DefT) (XD : List ExI) (K : PySem.W.Frag) : Bool × List FnW :=
  (headB T K && (D.all fun t => oVal (PySem.W.nsIn K mainGlobals t.name) (some (some (.ref (ga K t.name)))) && (defD t).ok K) && XD.all fun e => (exD e).ok K, (D.map fun t => fnW K (t.name, none)) ++ XD.map fun e => fnW K (e.cls, some "__init__"))
def goodM (D : List DefT) (XD : List ExI) : Bool × List FnW := (true, (D.map fun t => (defD t).val) ++ XD.map fun e => (exD e).val)
def seenM (n : Nat) (T : Tab) (D : List DefT) (XD : List ExI) (g : Addr → Option Obj) : Bool × List FnW := lookM T D XD (frG g (asD g n))
def hookM (n : Nat) (T : Tab) (D : List DefT) (XD : List ExI) : PySem.W.Hook :=
  { α := Bool × List FnW, obs := (fun s => seenM n T D XD s.heap.get?), val := (fun _ => goodM D XD), says := (fun _ h => ∃ K : PySem.W.Frag, K.In h ∧ lookM T D XD K = goodM D XD),
    of := (fun _ _ e => ⟨_, frG_in, e⟩), keeps := (fun _ _ _ ⟨K, hK, e⟩ k => ⟨K, hK.keeps k, e⟩) }
theorem seenM_eq {n : Nat} {T : Tab} {D : List DefT} {XD : List ExI} {g : Addr → Option Obj} {s : Shared} (h : ∀ a, g a = s.heap.get? a) : seenM n T D XD g = (hookM n T D XD).obs s := by
  have e : g = s.heap.get? := funext h
  rw [e]
  rfl
/-- how each def's arguments are bound -/
def BdT (t : DefT) : Prop := ∀ (kV doc pm : Value) (an : Option Addr) (cdv ct : Value) (us : List Value), us.length = t.ps.length → bindArgs (PySem.W.fnOf t.name t.name (defArgs t.st) (defBody t.st) (defScope t.st) .none kV doc pm an cdv ct) ⟨us, []⟩ = pure (t.ps.zip us)
def BdX (t : ExI) : Prop := ∀ (kV doc pm : Value) (an : Option Addr) (cdv ct : Value) (us : List Value), us.length = (("self" : Str) :: t.fs).length → bindArgs (PySem.W.fnOf "__init__" (t.cls ++ Str.ofString ".__init__") (defArgs t.st) (defBody t.st) (defScope t.st) .none kV doc pm an cdv ct) ⟨us, []⟩ = pure ((("self" : Str) :: t.fs).zip us)
inductive AllX (F : ExI → Prop) : List ExI → Prop
  | nil : AllX F []
  | cons {t : ExI} {D : List ExI} : F t → AllX F D → AllX F (t :: D)
theorem AllX.get {F : ExI → Prop} : ∀ {D : List ExI}, AllX F D → ∀ {t : ExI}, t ∈ D → F t
  | _, .nil, _, e => by cases e
  | _, .cons h hs, _, e => by
    rcases List.mem_cons.mp e with rfl | e
    · exact h
    · exact hs.get e
/-- each class with an own __init__ is told of -/
def xinB (T : Tab) (XD : List ExI) : Bool := T.cls.all fun p => p.2.1.isEmpty || XD.any fun e => decide (e.cls = p.1) && decide (e.fs = p.2.1) && e.look
inductive AllT (F : DefT → Prop) : List DefT → Prop
  | nil : AllT F []
  | cons {t : DefT} {D : List DefT} : F t → AllT F D → AllT F (t :: D)
theorem AllT.get {F : DefT → Prop} : ∀ {D : List DefT}, AllT F D → ∀ {i : Nat} {t : DefT}, D[i]? = some t → F t
  | _, .nil, _, _, e => by simp at e
  | _, .cons h _, 0, _, e => by simp at e; subst e; exact h
  | _, .cons _ hs, i + 1, _, e => hs.get (by simpa using e)
theorem glob_ok {T : Tab} {D : List DefT} {XD : List ExI} {K : PySem.W.Frag} {mg : Str → Option Value} {h : Heap} (X : K.In h) (G : h.Ns mainGlobals mg) (hl : lookM T D XD K = goodM D XD) (hb : AllT BdT D) (hx : xinB T XD = true) (hbx : AllX BdX XD) : letI := rtOf T K; GlobOk T (txOf T K) D K mg := by
  letI := rtOf T K
  have h1 : (headB T K && (D.all fun t => oVal (PySem.W.nsIn K mainGlobals t.name) (some (some (.ref (ga K t.name)))) && (defD t).ok K) && XD.all fun e => (exD e).ok K) = true := congrArg Prod.fst hl
  have h2' : (D.map fun t => fnW K (t.name, none)) ++ (XD.map fun e => fnW K (e.cls, some "__init__")) = (D.map fun t => (defD t).val) ++ XD.map fun e => (exD e).val := congrArg Prod.snd hl
  obtain ⟨h2, h2x⟩ := List.append_inj h2' (by simp)
  rw [Bool.and_eq_true, Bool.and_eq_true] at h1
  obtain ⟨⟨hd, hf⟩, hxf⟩ := h1
  unfold headB at hd
  simp only [Bool.and_eq_true] at hd
  obtain ⟨⟨⟨⟨⟨r1, r2⟩, d1⟩, d2⟩, d3⟩, d4⟩ := hd
  have clA : ∀ {c : Nat} {p : Str × List Str × List Str}, T.cls[c]? = some p → clAt T K c = ga K p.1 := fun {c p} e => by unfold clAt; rw [e]
  have parts : ∀ {c : Nat} {p : Str × List Str × List Str}, T.cls[c]? = some p → excB K p = true := fun {c p} e => List.all_eq_true.mp d3 p (List.mem_of_getElem? e)
  refine ⟨fun x hx => ?_, fun p hp => ?_, fun c p e => ?_, fun c d hc hd => ?_, rfl, fun c p e => ?_, fun c d hc hd => ?_, fun c p e => ?_, fun c => ⟨fun p e => ?_⟩, fun c p e ne => ?_, fun f t e => ?_⟩
  · have z := List.all_eq_true.mp d1 x (by simpa using hx)
    unfold freeB at z
    by_cases hg : x = "gcd"
    · rw [if_pos hg] at z
      exact ⟨fun _ => PySem.W.mg_of X G (of_decide_eq_true z), fun n => absurd hg n⟩
    · rw [if_neg hg] at z
      exact ⟨fun e => absurd e hg, fun _ => PySem.W.mg_none_of X G (of_decide_eq_true z)⟩
  · have z := List.all_eq_true.mp d2 p hp
    unfold glbB at z
    split at z
    · rename_i u hu
      obtain ⟨w, r, q⟩ := pvB_ok z
      exact ⟨w, u, PySem.W.mg_of X G hu, r, q⟩
    · cases z
  · have z := List.all_eq_true.mp r1 p (List.mem_of_getElem? e)
    unfold rcB at z
    simp only [Bool.and_eq_true] at z
    obtain ⟨⟨⟨⟨⟨⟨⟨⟨⟨⟨⟨z1, z2⟩, z3⟩, z4⟩, z5⟩, z6⟩, z7⟩, z8⟩, z9⟩, z10⟩, z11⟩, z12⟩ := z
    have ec : RT.rc c = ga K p.1 := by
      show (match T.rcs[c]? with
        | some p => ga K p.1
        | none => 0) = _
      rw [e]
    have ef : RT.rf c = p.2 := by
      show (match T.rcs[c]? with
        | some p => p.2
        | none => []) = _
      rw [e]
    refine ⟨?_, ef, of_decide_eq_true z2, of_decide_eq_true z3, ?_, ?_, ?_, of_decide_eq_true z10, of_decide_eq_true z11, ?_⟩ <;> rw [ec]
    · exact PySem.W.mg_of X G (of_decide_eq_true z1)
    · exact ⟨z4, z5, z6, of_decide_eq_true z7⟩
    · exact fun f hf => of_decide_eq_true (p := PySem.W.findIn K (.ref (ga K p.1)) f = some none) (List.all_eq_true.mp z8 f hf)
    · exact of_decide_eq_true z9
    · exact of_decide_eq_true z12
  · exact of_decide_eq_true (List.all_eq_true.mp (List.all_eq_true.mp r2 c (List.mem_range.mpr hc)) d (List.mem_range.mpr hd))
  · have z := parts e
    unfold excB at z
    simp only [Bool.and_eq_true] at z
    obtain ⟨⟨⟨⟨⟨⟨⟨⟨⟨⟨⟨⟨⟨⟨z1, z2⟩, z3⟩, z4⟩, z5⟩, z6⟩, z7⟩, z8⟩, z9⟩, z10⟩, z11⟩, z12⟩, z13⟩, z14⟩, z15⟩ := z
    show ExcK K mg (clAt T K c) p.1 p.2.1
    rw [clA e]
    refine ⟨PySem.W.mg_of X G (of_decide_eq_true z1), z2, of_decide_eq_true z3, of_decide_eq_true z4, fun h0 => ?_⟩
    rw [h0] at z5
    simpa using z5
  · have z := List.all_eq_true.mp (List.all_eq_true.mp d4 c (List.mem_range.mpr hc)) d (List.mem_range.mpr hd)
    exact of_decide_eq_true z
  · show (match T.cls[c]? with
      | some p => p.2.1
      | none => []) = p.2.1
    rw [e]
  · have z := parts e
    unfold excB at z
    simp only [Bool.and_eq_true] at z
    obtain ⟨⟨⟨⟨⟨⟨⟨⟨⟨⟨⟨⟨⟨⟨z1, z2⟩, z3⟩, z4⟩, z5⟩, z6⟩, z7⟩, z8⟩, z9⟩, z10⟩, z11⟩, z12⟩, z13⟩, z14⟩, z15⟩ := z
    show (∀ f ∈ p.2.1, PySem.W.findIn K (.ref (clAt T K c)) "__getattribute__" = _ ∧ PySem.W.findIn K (.ref (clAt T K c)) "__getattr__" = _ ∧ PySem.W.subIn K (.ref (clAt T K c)) _ = _ ∧ PySem.W.hasDictIn K (clAt T K c) = _ ∧ PySem.W.findIn K (.ref (clAt T K c)) f = _) ∧
      (ExcC K (clAt T K c) ∧ ∀ z, p.2.2.contains z = true → ∃ (c' : V) (cv : Value), ((mg z = some cv) ∨ (mg z = none ∧ bootBuiltins z = some cv ∧ z ≠ "__name__")) ∧ RelV c' cv ∧ (∀ u, RelV c' u → u = cv) ∧ PySem.W.kitOne K (.ref (clAt T K c)) cv = some true)
    rw [clA e]
    refine ⟨fun f hf => ⟨of_decide_eq_true z6, of_decide_eq_true z7, of_decide_eq_true z3, z8, of_decide_eq_true (List.all_eq_true.mp z9 f hf)⟩, ⟨⟨of_decide_eq_true z6, of_decide_eq_true z7, of_decide_eq_true z3, z8, of_decide_eq_true z10, of_decide_eq_true z11, of_decide_eq_true z12, of_decide_eq_true z13⟩, fun z hz => ?_⟩⟩
    have y := List.all_eq_true.mp z14 z (by simpa using hz)
    unfold supB at y
    split at y
    · rename_i a ha
      exact ⟨.ref a, .ref a, .inl (PySem.W.mg_of X G ha), rfl, fun u r => r, of_decide_eq_true y⟩
    · rename_i ha
      split at y
      · rename_i t ht
        have y' := Bool.and_eq_true_iff.mp y
        exact ⟨.ty t, .type t, .inr ⟨PySem.W.mg_none_of X G ha, ht, by simpa using y'.1⟩, rfl, fun u r => r, of_decide_eq_true y'.2⟩
      · cases y
    · cases y
  · have z := parts e
    unfold excB at z
    simp only [Bool.and_eq_true] at z
    obtain ⟨⟨⟨⟨⟨⟨⟨⟨⟨⟨⟨⟨⟨⟨z1, z2⟩, z3⟩, z4⟩, z5⟩, z6⟩, z7⟩, z8⟩, z9⟩, z10⟩, z11⟩, z12⟩, z13⟩, z14⟩, z15⟩ := z
    have ne' : p.2.1.isEmpty = false := by
      cases q : p.2.1 with
      | nil => exact absurd q ne
      | cons _ _ => rfl
    rw [ne', Bool.false_or, Bool.and_eq_true] at z15
    have xe := List.all_eq_true.mp hx p (List.mem_of_getElem? e)
    rw [ne', Bool.false_or] at xe
    obtain ⟨xd, xm, xe⟩ := List.any_eq_true.mp xe
    simp only [Bool.and_eq_true] at xe
    obtain ⟨⟨x1, x2⟩, x3⟩ := xe
    have x1 : xd.cls = p.1 := of_decide_eq_true x1
    have x2 : xd.fs = p.2.1 := of_decide_eq_true x2
    unfold ExI.look at x3
    simp only [Bool.and_eq_true] at x3
    obtain ⟨⟨y1, y2⟩, y3⟩ := x3
    rw [show (txOf T K).at_ c = ga K p.1 from clA e]
    split at z15
    · rename_i fI hfi
      have ev : fnW K (xd.cls, some "__init__") = (exD xd).val := by
        obtain ⟨j, hj⟩ := List.mem_iff_getElem?.mp xm
        have e2 : (XD.map fun e => fnW K (e.cls, some "__init__"))[j]? = (XD.map fun e => (exD e).val)[j]? := by rw [h2x]
        rw [List.getElem?_map, List.getElem?_map, hj] at e2
        exact Option.some.inj e2
      obtain ⟨fd, F⟩ := DefD.funD (d := exD xd) ev (List.all_eq_true.mp hxf xd xm)
      have ad : fAd K (xd.cls, some "__init__") = fI := by
        show ma K (ga K xd.cls) "__init__" = fI
        unfold ma
        rw [x1, hfi]
      have F' : FunD K "__init__" (xd.cls ++ Str.ofString ".__init__") (defArgs xd.st) (defBody xd.st) (defScope xd.st) [] [] fI fd := by
        have G : FunD K "__init__" (xd.cls ++ Str.ofString ".__init__") (defArgs xd.st) (defBody xd.st) (defScope xd.st) [] [] (fAd K (xd.cls, some "__init__")) fd := F
        rw [ad] at G
        exact G
      have bx := hbx.get xm
      unfold BdX at bx
      rw [x2] at bx y1 y2 y3
      exact ⟨fI, fd, _, _, _, _, _, oexB_ok z15.1 (of_decide_eq_true z3) (of_decide_eq_true z4) z2, hfi, of_decide_eq_true z15.2, F'.bindsN bx, F', scopeB_ok y1, y2, fun f hf => of_decide_eq_true (List.all_eq_true.mp z9 f hf), of_decide_eq_true y3⟩
    · exact absurd z15.2 Bool.false_ne_true
  · have z := List.all_eq_true.mp hf t (List.mem_of_getElem? e)
    rw [Bool.and_eq_true] at z
    have ev : fnW K (t.name, none) = (defD t).val := by
      have e2 : (D.map fun t => fnW K (t.name, none))[f]? = (D.map fun t => (defD t).val)[f]? := by rw [h2]
      rw [List.getElem?_map, List.getElem?_map, e] at e2
      exact Option.some.inj e2
    obtain ⟨fd, F⟩ := DefD.funD (d := defD t) ev z.2
    have b := hb.get e
    have F' : FunD K t.name t.name (defArgs t.st) (defBody t.st) (defScope t.st) [] [] (ga K t.name) fd := F
    exact ⟨ga K t.name, fd, PySem.W.mg_of X G (of_decide_eq_true z.1), F.kp, F'.bindsN b, fun s us hl => F'.bindsA b s us hl, F'⟩
/-- the heap of what stands before a call: all but the script, if that is the run's own -/
def scriptH (K : PySem.W.Frag) (a : Addr) (o : Obj) (xs : List V) : Hp := fun b => if K.lookup a = none ∧ b = a then some (.frz o (.lst xs)) else none
theorem scriptH_of {K : PySem.W.Frag} {a b : Addr} {o : Obj} {xs : List V} {u : HO} (h : scriptH K a o xs b = some u) : b = a ∧ u = .frz o (.lst xs) ∧ K.lookup a = none := by
  unfold scriptH at h
  split at h
  · rename_i c
    exact ⟨c.2, (Option.some.inj h).symm, c.1⟩
  · cases h
/-- the law's def is called, its promise given where the settings are as they are at the start -/
theorem law_goes {P : Program} {w : World} {K : PySem.W.Frag} {mg mb : Str → Option Value} {k : Nat} {fa a : Addr} {fd : FuncData} {x : Str} {sp : Sp} {s1 : Shared} {vs : List Value} {ns : List Int}
    (KX : K.In s1.heap) (gn : s1.heap.Ns mainGlobals mg) (bn : s1.heap.Ns builtinsNs mb) (bb : ∀ x : Str, x ≠ "__name__" → mb x = bootBuiltins x) (lim : s1.heap.NoLimit) (seer : s1.heap.NoSeer) (gen : s1.gens = #[])
    (ha : s1.heap.get? a = some { cls := .type "list", data := .seq vs.toArray }) (hi : IntsAre vs ns) (hl : ns.length ≤ sizeLine) (room : Room k callerA)
    (F : ∀ base : Heap, base.NoSeer → FnOk P w K mg base (L2.CX P w) k fa fd [x] sp) (bd : ∀ (s : Shared) (u : Value), BindsTo s fd ⟨[u], []⟩ [(x, u)])
    (go : ∀ H : Hp, RoL K H a (ns.map V.int) → sp [.ref a] H (fun v _ => v = .bl true) fun _ _ _ => False) :
    codeAny (model P w) callerA (.call (.ref fa) ⟨[.ref a], []⟩) (fun r s' => r = .ok (.ret (.bool true)) ∧ OldK s1.heap s'.heap ∧ s'.os = s1.os ∧ AllBare s'.gens) s1 := by
  have iv := vals_ints hi
  have lv := hi.length
  let ob : Obj := { cls := .type "list", data := .seq vs.toArray }
  let H : Hp := scriptH K a ob (ns.map V.int)
  -- what the run can see from the start
  have keepsD : ∀ {b : Addr} {o : Obj}, s1.heap.get? b = some o → (∀ q n, o.data = .seq q n → o.cls ≠ .type "list") → (hidT s1.heap H).get? b = some o := fun {b o} e nd => hidT_get e (by
    cases q : H b with
    | none => rfl
    | some u =>
      obtain ⟨rfl, _, _⟩ := scriptH_of q
      rw [ha] at e
      cases e
      exact absurd rfl (nd _ _ rfl))
  have nsD : ∀ {b : Addr} {m : Str → Option Value}, s1.heap.Ns b m → (hidT s1.heap H).Ns b m := fun {b m} h => by
    obtain ⟨o, es, ep, e, d, r⟩ := h
    exact ⟨o, es, ep, keepsD e (fun q n z => by rw [d] at z; cases z), d, r⟩
  have seerD : (hidT s1.heap H).NoSeer := by
    obtain ⟨mc, c1, c2⟩ := seer.statics
    obtain ⟨mm, m1, m2⟩ := seer.mods
    obtain ⟨mi, i1, i2⟩ := seer.imp
    obtain ⟨mn, bm, om, n1, n2, n3, n4, n5⟩ := seer.main
    exact ⟨⟨mc, nsD c1, c2⟩, ⟨mm, nsD m1, m2⟩, ⟨mi, nsD i1, i2⟩, mn, bm, om, nsD n1, n2, keepsD n3 (fun _ _ _ z => by rw [n4] at z; injection z with z; exact absurd z (by decide)), n4, n5⟩
  have inD : K.In (hidT s1.heap H) := fun b o e => hidT_get (KX b o e) (by
    cases q : H b with
    | none => rfl
    | some u =>
      obtain ⟨rfl, _, z⟩ := scriptH_of q
      rw [z] at e; cases e)
  obtain ⟨mc, l1, l2⟩ := lim
  have hok : HOk P w H s1.heap := fun b u q => by
    obtain ⟨rfl, rfl, _⟩ := scriptH_of q
    exact ⟨ha, by rw [List.length_map]; exact hl, vs, _, iv, ha⟩
  have ro : RoL K H a (ns.map V.int) := by
    cases hk : K.lookup a with
    | none => exact .inl ⟨ob, if_pos ⟨hk, rfl⟩⟩
    | some o =>
      have e := KX a o hk
      rw [ha] at e
      cases e
      exact .inr ⟨_, vs.toArray, _, hk, rfl, rfl, rfl, by rw [List.size_toArray, lv]; exact hl, by simpa using iv⟩
  have e0 : Env0 P w K mg (hidT s1.heap H) callerA [] s1 H :=
    { frames := rfl, mod := ⟨inD, nsD gn, ⟨mb, nsD bn, bb⟩, mc, nsD l1, l2⟩, bs := fun b o e => of_hidT e, bsz := Nat.le_of_eq (hidT_size _ _), funs := trivial, frf := (fun b hb => by cases hb), hok := hok, bare := .of_eq gen }
  refine codeAny_mono ((F _ seerD).run callerA [] s1 H ⟨[.ref a], []⟩ [.ref a] [.ref a] _ _ room e0 (bd s1 (.ref a)) (.cons rfl .nil) (go H ro)) fun r s' h => ?_
  match r, h with
  | .error e, h =>
    obtain ⟨_, _, _, _, _, _, _, _, _, _, _, _, z⟩ := h
    exact z.elim
  | .ok (.ret u), h =>
    obtain ⟨v, H', os, bare, un, hok', r', rfl⟩ := h
    obtain rfl : u = Value.bool true := r'
    refine ⟨rfl, OldK.of_keep fun b o e => ?_, os, bare⟩
    cases q : H b with
    | none => exact un.keep b o e q (fun z => by cases z) (by simp)
    | some y =>
      obtain ⟨rfl, rfl, _⟩ := scriptH_of q
      have t := un.frzs b _ _ q
      have z1 := (hok b _ q).1
      have z2 := (hok' b _ t).1
      rw [e] at z1
      cases z1
      exact z2
  | .ok .next, h => exact h.elim
  | .ok .brk, h => exact h.elim
  | .ok .cont, h => exact h.elim
/-- the end of a law: MP's run of it gives True -/
theorem law_walk {l : PySem.W.OpenLaw} {q : Program} {loose : List Str} {XP : (Str → Option Value) → Heap → Prop} {d : DefRec} {T : Tab} {D : List DefT} {XD : List ExI} {n li dd : Nat} {tl : DefT} (hmost : l.most = some 63) (hdf : d.params.defaults = []) (hr : Room (40 + dd) callerA) (hT : T.ok = true) (hD : (D.all fun t => t.look T) = true)
    (hn : T.fns = D.map fun t => some t.name) (hi0 : T.inits = []) (hm0 : T.meths = []) (himp : PyProof.Rows.importsNone q = true) (htree : l.prog.given.tree = none)
    (hb : AllT BdT D) (hxb : xinB T XD = true) (hbx : AllX BdX XD) (hli : D[li]? = some tl) (hps : tl.ps = [("script" : Str)]) (hname : d.name = tl.name) (main : ∀ ns : List Int, ns.length ≤ 63 → ∃ S', callN (D.map (·.fd)) dd li [.lst (ns.map .int)] ⟨[], false⟩ = .ok (.bl true) S') :
    PySem.W.WalkO q loose XP (hookM n T D XD).says l.row.toRowW d [] (fun f vs => PySem.call f vs) := by
  refine Att.attach_call hmost hdf fun w s₀ s₁ mg mb fa o pm cd doc a vs ns G Y ho hd hcd hmg hobj hints hlen hg => ?_
  obtain ⟨K, KX, hl⟩ := Y
  letI := rtOf T K
  have GO : GlobOk T (txOf T K) D K mg := glob_ok KX G.T.g hl hb hxb hbx
  have GO2 : ∃ fdata, (∀ (s : Shared) (us : List Value), us.length = tl.ps.length → BindsTo s fdata ⟨us, []⟩ (tl.ps.zip us)) ∧ ∀ base : Heap, base.NoSeer → FnOk l.prog w K mg base (L2.CX l.prog w) (40 + dd) fa fdata tl.ps (spF K (txOf T K) D dd li) := by
    obtain ⟨fa1, fd1, a1, _, _, a4, F1⟩ := GO.fns li tl hli
    obtain ⟨_, _, _, lk1⟩ := F1.lk
    refine ⟨fd1, a4, fun base sr => ?_⟩
    obtain ⟨fa2, fd2, b1, _, _, _, F2, _, _, _, lk2⟩ := fn_all (P := l.prog) (w := w) (base := base) hT hD hn hi0 hm0 sr htree GO dd li tl hli
    rw [hname] at hmg
    cases hmg.symm.trans a1
    cases hmg.symm.trans b1
    rw [lk1] at lk2
    cases lk2
    exact F2
  obtain ⟨fdata, hbd, hF⟩ := GO2
  refine law_goes (k := 40 + dd) (fd := fdata) (x := "script") (sp := spF K (txOf T K) D dd li) KX G.T.g G.T.b G.T.builtins G.T.nolimit (G.T.seer himp) hg hobj hints (Nat.le_trans hlen (by decide)) hr (fun base sr => ?_) (fun s u => ?_) fun H ro => ?_
  · rw [← hps]
    exact hF base sr
  · have z := hbd s [u] (by rw [hps]; rfl)
    rw [hps] at z
    exact z
  · obtain ⟨S', hS'⟩ := main ns hlen
    have isI : ∀ ms : List Int, RelPs K [] H (ms.map PV.int) (ms.map V.int) := fun ms => by
      induction ms with
      | nil => exact .nil
      | cons m ms ih => exact .cons (.int m) ih
    refine ⟨[], ⟨[], false⟩, [.lst (ns.map .int)], ⟨rfl, (fun k c b q e => by cases q), (fun j k b c e e1 e2 q1 q2 n1 n2 => by cases q1), Nat.le_refl _⟩, .cons (.lst ro (isI ns)) .nil, ?_⟩
    rw [hS']
    intro ρ' H' v g so r
    exact r.of_bl
end MP
end
section
set_option Elab.async false
set_option linter.all false
set_option maxRecDepth 100000
/-! MPTool: how MP's runs are computed; sizes of numbers; lowest terms. -/
namespace MP
theorem callN_of {F : List FDef} {d i : Nat} {fd : FDef} {args : List PV} {S : Sto} (h : F[i]? = some fd) (hl : args.length = fd.np) : callN F (d + 1) i args S = runF (callN F d) fd args S := by
  rw [callN, h]
  exact if_pos hl
theorem fin_pure {S : Sto} {v : PV} {cs : List Cell} (h : v.pure = true) : fin S v ⟨cs, false⟩ = .ok v ⟨cs.take S.cells.length, S.dirty⟩ := by
  unfold fin
  rw [h]
  rfl
theorem fin_same {S : Sto} {v : PV} (h : v.pure = true) : fin S v ⟨S.cells, false⟩ = .ok v S := by
  rw [fin_pure h, List.take_length]
theorem fin_ref {S : Sto} {k : Nat} {cs : List Cell} : fin S (.ref k) ⟨cs, false⟩ = .ok (.ref k) ⟨cs, S.dirty⟩ := by
  unfold fin
  show R.ok _ (⟨cs, S.dirty || false⟩ : Sto) = _
  rw [Bool.or_false]
section
variable {α β : Type} {C : Nat → List PV → Sto → R PV} {b : Nat}
theorem bd_ok {a : α} {S : Sto} {f : α → Sto → R β} : (R.ok a S).bd f = f a S := by simp only [R.bd]
theorem bd_exc {c : Nat} {as : List PV} {S : Sto} {f : α → Sto → R β} : (R.exc c as S).bd f = .exc c as S := by simp only [R.bd]
theorem st_ok {a : α} {S : Sto} {σ : Env} {f : α → Sto → RS} : (R.ok a S).st σ f = f a S := by simp only [R.st]
theorem st_exc {c : Nat} {as : List PV} {S : Sto} {σ : Env} {f : α → Sto → RS} : (R.exc c as S).st σ f = .exc c as σ S := by simp only [R.st]
theorem xss_cons {s : St} {ss : Ss} {σ : Env} {S : Sto} : xss C b (.cons s ss) σ S = (xst C b s σ S).seq (xss C b ss) := by
  rw [xss]
  unfold RS.seq
  cases xst C b s σ S <;> rfl
theorem xss_nil {σ : Env} {S : Sto} : xss C b .nil σ S = .next σ S := by rw [xss]
theorem seq_next {σ : Env} {S : Sto} {f : Env → Sto → RS} : (RS.next σ S).seq f = f σ S := by simp only [RS.seq]
theorem seq_ret {v : PV} {S : Sto} {f : Env → Sto → RS} : (RS.ret v S).seq f = .ret v S := by simp only [RS.seq]
theorem seq_brk {σ : Env} {S : Sto} {f : Env → Sto → RS} : (RS.brk σ S).seq f = .brk σ S := by simp only [RS.seq]
theorem seq_cont {σ : Env} {S : Sto} {f : Env → Sto → RS} : (RS.cont σ S).seq f = .cont σ S := by simp only [RS.seq]
theorem seq_exc {c : Nat} {as : List PV} {σ : Env} {S : Sto} {f : Env → Sto → RS} : (RS.exc c as σ S).seq f = .exc c as σ S := by simp only [RS.seq]
theorem eqV_int {S : Sto} {i j : Int} : eqV S (.int i) (.int j) = some (decide (i = j)) := by
  unfold eqV
  simp only [toDS, PV.toD]
  have z : ∀ i : Int, shaped (.int i) = true := fun _ => rfl
  rw [z, z]
  show some ((PySem.PyData.int i).eqv (.int j)) = _
  congr 1
theorem eqV_pr {S : Sto} {i j k l : Int} : eqV S (.tup [.int i, .int j]) (.tup [.int k, .int l]) = some (decide (i = k) && decide (j = l)) := by
  unfold eqV
  simp only [toDS, PV.toD, PV.toDs, Option.map]
  have z : ∀ i j : Int, shaped (.tuple [.int i, .int j]) = true := fun _ _ => rfl
  rw [z, z]
  show some ((PySem.PyData.tuple [.int i, .int j]).eqv (.tuple [.int k, .int l])) = _
  congr 1
  rw [PySem.PyData.eqv, PySem.PyData.eqvAll, PySem.PyData.eqvAll, PySem.PyData.eqvAll]
  simp [PySem.PyData.eqv]
  rfl
/-- a for that never stops early keeps what each turn keeps -/
theorem for_inv {g : Sto → Bool} {bind : PV → Env → Option Env} {body : Env → Sto → RS} {P : Nat → Env → Sto → Prop} (hg : ∀ i σ S, P i σ S → g S = true) : ∀ (xs : List PV) (i : Nat) (σ : Env) (S : Sto), P i σ S →
    (∀ j x σ S, xs[j]? = some x → P (i + j) σ S → ∃ σ1 σ2 S2, bind x σ = some σ1 ∧ body σ1 S = .next σ2 S2 ∧ P (i + j + 1) σ2 S2) → ∃ σ' S', forLoop g bind body xs σ S = .next σ' S' ∧ P (i + xs.length) σ' S'
  | [], i, σ, S, h, _ => ⟨σ, S, by unfold forLoop; rw [if_pos (hg _ _ _ h)], h⟩
  | x :: xs, i, σ, S, h, st => by
    obtain ⟨σ1, σ2, S2, e1, e2, h2⟩ := st 0 x σ S rfl h
    obtain ⟨σ', S', e3, h3⟩ := for_inv hg xs (i + 1) σ2 S2 h2 fun j y σ S hj hP => by
      have e : i + 1 + j = i + (j + 1) := by omega
      rw [e] at hP ⊢
      exact st (j + 1) y σ S hj hP
    refine ⟨σ', S', ?_, ?_⟩
    · unfold forLoop
      rw [if_pos (hg _ _ _ h), e1]
      show (match body σ1 S with
        | .next σ2 S2 => forLoop g bind body xs σ2 S2
        | .cont σ2 S2 => forLoop g bind body xs σ2 S2
        | .brk σ2 S2 => .next σ2 S2
        | r => r) = _
      rw [e2]
      exact e3
    · have e : i + (x :: xs).length = i + 1 + xs.length := by rw [List.length_cons]; omega
      rw [e]
      exact h3
theorem evi_rng1 {e : E} {σ : Env} {S S1 : Sto} {n : Int} (h : ev C b e σ S = .ok (.int n) S1) (hs : small n = true) : evi C b (.rng1 e) σ S = .ok (rngL 0 n.toNat, []) S1 := by
  rw [evi, h]
  show (if small n = true then R.ok (rngL 0 n.toNat, []) S1 else .bad) = _
  rw [if_pos hs]
theorem xst_for {t : Tg} {it : It} {p : Ss} {σ : Env} {S S1 : Sto} {w : Walk} (h : evi C b it σ S = .ok w S1) : xst C b (.fors t it p) σ S = forLoop (fun S => stands S w.2) (bindT t) (xss C b p) w.1 σ S1 := by
  rw [xst, h]
  rfl
theorem xss_step {s : St} {ss : Ss} {σ σ' : Env} {S S' : Sto} (h : xst C b s σ S = .next σ' S') : xss C b (.cons s ss) σ S = xss C b ss σ' S' := by
  rw [xss_cons, h]
  rfl
theorem xss_ret {s : St} {ss : Ss} {σ σ' : Env} {S S' : Sto} {v : PV} (h : xst C b s σ S = .next σ' S') (g : ∃ S2, xss C b ss σ' S' = .ret v S2) : ∃ S2, xss C b (.cons s ss) σ S = .ret v S2 := by
  rw [xss_step h]
  exact g
theorem xss_same {s : St} {ss : Ss} {σ : Env} {S : Sto} {v : PV} (h : xst C b s σ S = .next σ S) (g : ∃ S2, xss C b ss σ S = .ret v S2) : ∃ S2, xss C b (.cons s ss) σ S = .ret v S2 := xss_ret h g
/-- a for over a range that keeps what each turn keeps -/
theorem for_rng {t : Tg} {e : E} {p : Ss} {σ : Env} {S : Sto} {n : Nat} {P : Nat → Env → Sto → Prop} (h : ev C b e σ S = .ok (.int n) S) (hn : n < 1000000) (h0 : P 0 σ S)
    (st : ∀ j σ S, j < n → P j σ S → ∃ σ1 σ2 S2, bindT t (.int j) σ = some σ1 ∧ xss C b p σ1 S = .next σ2 S2 ∧ P (j + 1) σ2 S2) : ∃ σ' S', xst C b (.fors t (.rng1 e) p) σ S = .next σ' S' ∧ P n σ' S' := by
  have sm : small (n : Int) = true := by
    unfold small
    have h1 : -(2 ^ 62 : Int) ≤ n := by omega
    have h2 : (n : Int) < 2 ^ 62 := by omega
    simp only [h1, h2, decide_true, Bool.and_self]
  obtain ⟨σ', S', e1, h1⟩ := for_inv (g := fun S => stands S []) (bind := bindT t) (body := xss C b p) (fun _ _ _ _ => rfl) (rngL 0 n) 0 σ S h0 fun j x σ S hj hP => by
    have z : x = .int (0 + (j : Int)) ∧ j < n := by
      unfold rngL at hj
      rw [List.getElem?_map] at hj
      by_cases q : j < n
      · rw [List.getElem?_range q] at hj
        exact ⟨(Option.some.inj hj).symm, q⟩
      · rw [List.getElem?_eq_none (by simpa using q)] at hj
        cases hj
    rw [Int.zero_add] at z
    obtain ⟨rfl, hj2⟩ := z
    rw [Nat.zero_add] at hP ⊢
    exact st j σ S hj2 hP
  refine ⟨σ', S', ?_, ?_⟩
  · rw [xst_for (evi_rng1 h sm)]
    exact e1
  · have z : 0 + (rngL 0 n).length = n := by simp [rngL]
    rw [z] at h1
    exact h1
theorem rngL_len {a : Int} {n : Nat} : (rngL a n).length = n := by simp [rngL]
theorem rngL_get {a : Int} {n j : Nat} {x : PV} (h : (rngL a n)[j]? = some x) : x = .int (a + j) ∧ j < n := by
  unfold rngL at h
  rw [List.getElem?_map] at h
  by_cases hj : j < n
  · rw [List.getElem?_range hj] at h
    exact ⟨(Option.some.inj h).symm, hj⟩
  · rw [List.getElem?_eq_none (by simpa using hj)] at h
    cases h
/-- a def that leaves the store alone -/
theorem run_ret {fd : FDef} {args : List PV} {S : Sto} {v : PV} (h : xss C S.cells.length fd.body (args.map some ++ List.replicate (fd.nn - fd.np) none) ⟨S.cells, false⟩ = .ret v ⟨S.cells, false⟩) (p : v.pure = true) : runF C fd args S = .ok v S := by
  unfold runF
  rw [h]
  exact fin_same p
theorem run_retT {fd : FDef} {args : List PV} {S : Sto} {v : PV} {cs : List Cell} (h : xss C S.cells.length fd.body (args.map some ++ List.replicate (fd.nn - fd.np) none) ⟨S.cells, false⟩ = .ret v ⟨cs, false⟩) (p : v.pure = true) : runF C fd args S = .ok v ⟨cs.take S.cells.length, S.dirty⟩ := by
  unfold runF
  rw [h]
  exact fin_pure p
theorem run_main {fd : FDef} {args : List PV} {S S' : Sto} {v : PV} (h : xss C S.cells.length fd.body (args.map some ++ List.replicate (fd.nn - fd.np) none) ⟨S.cells, false⟩ = .ret v S') : ∃ S', runF C fd args S = .ok v S' := by
  unfold runF
  rw [h]
  show ∃ S'', fin S v S' = _
  unfold fin
  split
  · exact ⟨_, rfl⟩
  · exact ⟨_, rfl⟩
theorem run_exc {fd : FDef} {args : List PV} {S : Sto} {c : Nat} {as : List PV} {σ : Env} (h : xss C S.cells.length fd.body (args.map some ++ List.replicate (fd.nn - fd.np) none) ⟨S.cells, false⟩ = .exc c as σ ⟨S.cells, false⟩) (p : PV.pures as = true) : runF C fd args S = .exc c as S := by
  unfold runF
  rw [h]
  show (if (PV.pures as && !false) = true then R.exc c as ⟨S.cells.take S.cells.length, S.dirty⟩ else .bad) = _
  rw [p, List.take_length]
  rfl
end
/-! ### sizes -/
def sz (k : Nat) (a : Int) : Prop := a.natAbs < 2 ^ k
theorem sz.mono {j k : Nat} {a : Int} (h : sz j a) (l : j ≤ k) : sz k a := Nat.lt_of_lt_of_le h (Nat.pow_le_pow_right (by decide) l)
theorem sz.neg {k : Nat} {a : Int} (h : sz k a) : sz k (-a) := by unfold sz; rw [Int.natAbs_neg]; exact h
theorem sz.mul {j k : Nat} {a b : Int} (h : sz j a) (h' : sz k b) : sz (j + k) (a * b) := by
  unfold sz at *
  rw [Int.natAbs_mul, Nat.pow_add]
  exact Nat.mul_lt_mul'' h h'
theorem sz.add {k : Nat} {a b : Int} (h : sz k a) (h' : sz k b) : sz (k + 1) (a + b) := by
  unfold sz at *
  have z := Int.natAbs_add_le a b
  rw [Nat.pow_succ]
  omega
theorem sz.sub {k : Nat} {a b : Int} (h : sz k a) (h' : sz k b) : sz (k + 1) (a - b) := by
  rw [Int.sub_eq_add_neg]
  exact h.add h'.neg
theorem sz.fdiv {k : Nat} {a b : Int} (h : sz k a) : sz k (a.fdiv b) ∨ b = 0 := by
  by_cases hb : b = 0
  · exact .inr hb
  left
  unfold sz at *
  rcases Int.lt_or_gt_of_ne hb with hb | hb
  · have : (a.fdiv b).natAbs ≤ a.natAbs := by
      rw [← Int.neg_fdiv_neg, Int.fdiv_eq_ediv_of_nonneg _ (by omega)]
      have z := Int.natAbs_ediv_le_natAbs (-a) (-b)
      rw [Int.natAbs_neg] at z
      exact z
    omega
  · have : (a.fdiv b).natAbs ≤ a.natAbs := by
      rw [Int.fdiv_eq_ediv_of_nonneg _ (by omega)]
      exact Int.natAbs_ediv_le_natAbs a b
    omega
theorem sz.log {k : Nat} {a : Int} (h : sz k a) : a.natAbs.log2 ≤ k := by
  by_cases h0 : a.natAbs = 0
  · rw [h0]; exact Nat.zero_le k
  · exact Nat.le_of_lt ((Nat.log2_lt h0).mpr h)
theorem mulOk_of {j k : Nat} {a b : Int} (h : sz j a) (h' : sz k b) (l : j + k + 2 ≤ 134217728) : mulOk a b = true := by
  have h1 := h.log
  have h2 := h'.log
  have : a.natAbs.log2 + b.natAbs.log2 + 2 ≤ 134217728 := by omega
  simp [mulOk, this]
theorem mulOk_l {a b : Int} (h : sz 64 a) : mulOk a b = true := by
  have h : a.natAbs < 2 ^ 64 := h
  unfold mulOk
  rw [decide_eq_true h]
  rfl
theorem mulOk_r {a b : Int} (h : sz 64 b) : mulOk a b = true := by
  have h : b.natAbs < 2 ^ 64 := h
  unfold mulOk
  rw [decide_eq_true h, Bool.or_true]
  rfl
theorem divOk_of {b : Int} (h0 : b ≠ 0) : divOk b = true := by simp [divOk, h0]
/-- some size -/
theorem sz_any (a : Int) : sz a.natAbs a := Nat.lt_two_pow_self
/-! ### lowest terms -/
def mkG (t b : Int) : Int := ((Nat.gcd t.natAbs b.natAbs : Nat) : Int)
def mkT (t b : Int) : Int := (if b < 0 then -t else t).fdiv (mkG t b)
def mkB (t b : Int) : Int := (if b < 0 then -b else b).fdiv (mkG t b)
theorem mkG_pos {t b : Int} (h : b ≠ 0) : 0 < mkG t b := by
  unfold mkG
  have : 0 < Nat.gcd t.natAbs b.natAbs := Nat.gcd_pos_of_pos_right _ (by omega)
  omega
theorem mkG_dl (t b : Int) : mkG t b ∣ t := by
  unfold mkG
  exact Int.ofNat_dvd_left.mpr (Nat.gcd_dvd_left _ _)
theorem mkG_dr (t b : Int) : mkG t b ∣ b := by
  unfold mkG
  exact Int.ofNat_dvd_left.mpr (Nat.gcd_dvd_right _ _)
/-- what make promises -/
theorem mk_ok {t b : Int} (h : b ≠ 0) : ∃ s : Int, s ≠ 0 ∧ t = mkT t b * s ∧ b = mkB t b * s ∧ 0 < mkB t b ∧ Nat.gcd (mkT t b).natAbs (mkB t b).natAbs = 1 ∧ s.natAbs = Nat.gcd t.natAbs b.natAbs := by
  have gp := mkG_pos (t := t) h
  obtain ⟨x, hx⟩ := mkG_dl t b
  obtain ⟨y, hy⟩ := mkG_dr t b
  have gn : mkG t b ≠ 0 := by omega
  have co : Nat.gcd x.natAbs y.natAbs = 1 := by
    have e : Nat.gcd t.natAbs b.natAbs = (mkG t b).natAbs * Nat.gcd x.natAbs y.natAbs := by
      rw [← Nat.gcd_mul_left, ← Int.natAbs_mul, ← Int.natAbs_mul, ← hx, ← hy]
    have e2 : (mkG t b).natAbs = Nat.gcd t.natAbs b.natAbs := by unfold mkG; rfl
    rw [e2] at e
    have p : 0 < Nat.gcd t.natAbs b.natAbs := Nat.gcd_pos_of_pos_right _ (by omega)
    exact Nat.eq_of_mul_eq_mul_left p (by omega)
  have sg : (mkG t b).natAbs = Nat.gcd t.natAbs b.natAbs := by unfold mkG; rfl
  by_cases hb : b < 0
  · have et : mkT t b = -x := by
      unfold mkT
      rw [if_pos hb]
      refine Int.fdiv_eq_of_eq_mul_left gn ?_
      rw [Int.neg_mul, Int.mul_comm x, ← hx]
    have eb : mkB t b = -y := by
      unfold mkB
      rw [if_pos hb]
      refine Int.fdiv_eq_of_eq_mul_left gn ?_
      rw [Int.neg_mul, Int.mul_comm y, ← hy]
    refine ⟨-mkG t b, by omega, ?_, ?_, ?_, ?_, ?_⟩
    · rw [et, Int.neg_mul_neg, Int.mul_comm x]; exact hx
    · rw [eb, Int.neg_mul_neg, Int.mul_comm y]; exact hy
    · rw [eb]
      have : y < 0 := by
        rcases Int.lt_or_le y 0 with q | q
        · exact q
        · have : 0 ≤ mkG t b * y := Int.mul_nonneg (by omega) q
          omega
      omega
    · rw [et, eb, Int.natAbs_neg, Int.natAbs_neg]; exact co
    · rw [Int.natAbs_neg]; exact sg
  · have et : mkT t b = x := by
      unfold mkT
      rw [if_neg hb]
      refine Int.fdiv_eq_of_eq_mul_left gn ?_
      rw [Int.mul_comm x, ← hx]
    have eb : mkB t b = y := by
      unfold mkB
      rw [if_neg hb]
      refine Int.fdiv_eq_of_eq_mul_left gn ?_
      rw [Int.mul_comm y, ← hy]
    refine ⟨mkG t b, by omega, ?_, ?_, ?_, ?_, ?_⟩
    · rw [et, Int.mul_comm x]; exact hx
    · rw [eb, Int.mul_comm y]; exact hy
    · rw [eb]
      have : 0 < y := by
        rcases Int.lt_or_le 0 y with q | q
        · exact q
        · have : mkG t b * y ≤ 0 := Int.mul_nonpos_of_nonneg_of_nonpos (by omega) q
          omega
      exact this
    · rw [et, eb]; exact co
    · exact sg
theorem mkT_sz {k : Nat} {t b : Int} (h : sz k t) (hb : b ≠ 0) : sz k (mkT t b) := by
  have gp := mkG_pos (t := t) hb
  unfold mkT
  split
  · exact h.neg.fdiv.resolve_right (by omega)
  · exact h.fdiv.resolve_right (by omega)
theorem mkB_sz {k : Nat} {t b : Int} (h : sz k b) (hb : b ≠ 0) : sz k (mkB t b) := by
  have gp := mkG_pos (t := t) hb
  unfold mkB
  split
  · exact h.neg.fdiv.resolve_right (by omega)
  · exact h.fdiv.resolve_right (by omega)
theorem mkB_pos {t b : Int} (hb : b ≠ 0) : 0 < mkB t b := (mk_ok hb).choose_spec.2.2.2.1
theorem mk_cross {t b : Int} (hb : b ≠ 0) : mkT t b * b = t * mkB t b := by
  obtain ⟨s, _, e1, e2, _⟩ := mk_ok (t := t) hb
  have z : mkT t b * (mkB t b * s) = (mkT t b * s) * mkB t b := by
    rw [← Int.mul_assoc, Int.mul_assoc, Int.mul_comm (mkB t b) s, ← Int.mul_assoc]
  rw [← e1, ← e2] at z
  exact z
theorem mk_gcd {t b : Int} (hb : b ≠ 0) : Nat.gcd (mkT t b).natAbs (mkB t b).natAbs = 1 := (mk_ok hb).choose_spec.2.2.2.2.1
/-- what is in lowest terms is told by its ratio -/
theorem mk_cross2 {t b T B : Int} (hb : b ≠ 0) (h : t * B = T * b) : mkT t b * B = T * mkB t b := by
  have c := mk_cross (t := t) hb
  have e : b * (mkT t b * B) = b * (T * mkB t b) := by
    calc b * (mkT t b * B) = (mkT t b * b) * B := by rw [← Int.mul_assoc, Int.mul_comm b]
      _ = t * mkB t b * B := by rw [c]
      _ = (t * B) * mkB t b := by rw [Int.mul_assoc, Int.mul_comm (mkB t b), ← Int.mul_assoc]
      _ = T * b * mkB t b := by rw [h]
      _ = b * (T * mkB t b) := by rw [Int.mul_comm T, Int.mul_assoc]
  exact Int.eq_of_mul_eq_mul_left hb e
/-- v is the ratio T to B in lowest terms -/
abbrev pr (t b : Int) : PV := .tup [.int t, .int b]
def Q (v : PV) (T B : Int) (k : Nat) : Prop := ∃ t b, v = pr t b ∧ 0 < b ∧ Nat.gcd t.natAbs b.natAbs = 1 ∧ t * B = T * b ∧ sz k t ∧ sz k b
theorem Q.mk {t b T B : Int} {k : Nat} (hb : b ≠ 0) (h : t * B = T * b) (ht : sz k t) (hz : sz k b) : Q (pr (mkT t b) (mkB t b)) T B k :=
  ⟨_, _, rfl, mkB_pos hb, mk_gcd hb, mk_cross2 hb h, mkT_sz ht hb, mkB_sz hz hb⟩
theorem sz.pow {k : Nat} {t : Int} (h : sz k t) : ∀ n : Nat, sz (1 + k * n) (t ^ n)
  | 0 => by rw [Nat.mul_zero, Int.pow_zero]; unfold sz; decide
  | n + 1 => by
    have z := (sz.pow h n).mul h
    rw [Int.pow_succ, Nat.mul_succ, ← Nat.add_assoc]
    exact z
theorem same_terms {a b c d : Int} (hb : 0 < b) (hd : 0 < d) (g1 : Nat.gcd a.natAbs b.natAbs = 1) (g2 : Nat.gcd c.natAbs d.natAbs = 1) (h : a * d = c * b) : a = c ∧ b = d := by
  have hn : a.natAbs * d.natAbs = c.natAbs * b.natAbs := by rw [← Int.natAbs_mul, ← Int.natAbs_mul, h]
  have d1 : b.natAbs ∣ d.natAbs := by
    have z : b.natAbs ∣ a.natAbs * d.natAbs := hn ▸ Nat.dvd_mul_left _ _
    exact (Nat.Coprime.symm g1).dvd_of_dvd_mul_left z
  have d2 : d.natAbs ∣ b.natAbs := by
    have z : d.natAbs ∣ c.natAbs * b.natAbs := hn ▸ Nat.dvd_mul_left _ _
    exact (Nat.Coprime.symm g2).dvd_of_dvd_mul_left z
  have e : b.natAbs = d.natAbs := Nat.dvd_antisymm d1 d2
  have e2 : b = d := by omega
  subst e2
  exact ⟨Int.eq_of_mul_eq_mul_right (by omega) h, rfl⟩
/-! ### Euclid's steps -/
def fibP : Nat → Nat × Nat
  | 0 => (0, 1)
  | n + 1 => ((fibP n).2, (fibP n).1 + (fibP n).2)
/-- one turn: over at 0 -/
def euc : Nat → Nat → Nat → Option (Nat × Nat)
  | 0, a, b => if b = 0 then some (a, b) else none
  | n + 1, a, b => if b = 0 then some (a, b) else euc n b (a % b)
theorem euc_fib : ∀ (n a b : Nat), b < a → euc n a b = none → (fibP (n + 1)).1 ≤ b ∧ (fibP (n + 2)).1 ≤ a
  | 0, a, b, h, e => by
    unfold euc at e
    split at e
    · cases e
    · rename_i hb
      refine ⟨?_, ?_⟩ <;> simp [fibP] <;> omega
  | n + 1, a, b, h, e => by
    unfold euc at e
    split at e
    · cases e
    · rename_i hb
      obtain ⟨h1, h2⟩ := euc_fib n b (a % b) (Nat.mod_lt _ (by omega)) e
      refine ⟨h2, ?_⟩
      have q : b + a % b ≤ a := by
        have z := Nat.div_add_mod a b
        have w : 1 ≤ a / b := (Nat.one_le_div_iff (by omega)).mpr (by omega)
        have w2 : b * 1 ≤ b * (a / b) := Nat.mul_le_mul_left b w
        omega
      have f : (fibP (n + 3)).1 = (fibP (n + 1)).1 + (fibP (n + 2)).1 := rfl
      show (fibP (n + 3)).1 ≤ a
      omega
theorem euc_gcd : ∀ (n a b : Nat) (r : Nat × Nat), euc n a b = some r → r = (Nat.gcd a b, 0)
  | 0, a, b, r, e => by
    unfold euc at e
    split at e
    · rename_i h; subst h; cases e; simp
    · cases e
  | n + 1, a, b, r, e => by
    unfold euc at e
    split at e
    · rename_i h; subst h; cases e; simp
    · rename_i h
      rw [euc_gcd n b (a % b) r e, Nat.gcd_comm b (a % b), ← Nat.gcd_rec, Nat.gcd_comm]
theorem euc_of {n a b : Nat} (h : b < (fibP (n + 2)).1) : euc (n + 1) a b = some (Nat.gcd a b, 0) := by
  cases e : euc (n + 1) a b with
  | some r => rw [euc_gcd _ _ _ _ e]
  | none =>
    unfold euc at e
    split at e
    · cases e
    · rename_i hb
      obtain ⟨_, h2⟩ := euc_fib n b (a % b) (Nat.mod_lt _ (by omega)) e
      omega
/-- the law's own Euclid: slots 3 and 4 -/
theorem euc_loop {bind : PV → Env → Option Env} {body : Env → Sto → RS} {g : Sto → Bool} {S : Sto} {mk : Nat → Nat → Option PV → Env} (hg : g S = true) (hb : ∀ x a b k, ∃ k', bind x (mk a b k) = some (mk a b k')) (h0 : ∀ a k, body (mk a 0 k) S = .brk (mk a 0 k) S) (h1 : ∀ a b k, b ≠ 0 → body (mk a b k) S = .next (mk b (a % b) k) S) :
    ∀ (xs : List PV) (a b : Nat) (k : Option PV) (r : Nat × Nat), euc xs.length a b = some r → ∃ k', forLoop g bind body xs (mk a b k) S = .next (mk r.1 r.2 k') S
  | [], a, b, k, r, e => by
    unfold forLoop
    rw [if_pos hg]
    change euc 0 a b = some r at e
    unfold euc at e
    split at e
    · cases e; exact ⟨k, rfl⟩
    · cases e
  | x :: xs, a, b, k, r, e => by
    unfold forLoop
    rw [if_pos hg]
    obtain ⟨k', e1⟩ := hb x a b k
    rw [e1]
    change euc (xs.length + 1) a b = some r at e
    unfold euc at e
    split at e
    · rename_i hb0
      subst hb0
      cases e
      refine ⟨k', ?_⟩
      show (match body (mk a 0 k') S with
        | .next σ2 S2 => forLoop g bind body xs σ2 S2
        | .cont σ2 S2 => forLoop g bind body xs σ2 S2
        | .brk σ2 S2 => .next σ2 S2
        | r => r) = _
      rw [h0]
    · rename_i hb0
      obtain ⟨k2, e2⟩ := euc_loop hg hb h0 h1 xs b (a % b) k' r e
      refine ⟨k2, ?_⟩
      show (match body (mk a b k') S with
        | .next σ2 S2 => forLoop g bind body xs σ2 S2
        | .cont σ2 S2 => forLoop g bind body xs σ2 S2
        | .brk σ2 S2 => .next σ2 S2
        | r => r) = _
      rw [h1 _ _ _ hb0]
      exact e2
theorem fib701 : 2 ^ 480 ≤ (fibP 701).1 := by decide +kernel
/-! ### the law's draws -/
/-- the store with the draws' state -/
def G (ns : List Int) (a i c : Int) (tl : List Cell) : Sto := ⟨.lst [.int a, .lst (ns.map .int), .int i, .int c] :: tl, false⟩
/-! ### comprehensions -/
section
variable {C : Nat → List PV → Sto → R PV} {b : Nat}
theorem evc_none {σ : Env} {S : Sto} : evc C b .none σ S = .ok true S := by rw [evc]
theorem evc_some {e : E} {σ : Env} {S : Sto} : evc C b (.some e) σ S = evT C b e σ S := by rw [evc]
/-- a comprehension whose parts leave the store alone -/
theorem lcLoop_map {g : Sto → Bool} {bind : PV → Option Env} {test : Env → Sto → R Bool} {elt : Env → Sto → R PV} {S : Sto} (hg : g S = true) {α : Type} (f : α → PV) (h : α → PV) : ∀ (xs : List α) (acc : List PV), acc.length + xs.length ≤ lenMax → (∀ x ∈ xs, ∃ σ, bind (f x) = some σ ∧ test σ S = .ok true S ∧ elt σ S = .ok (h x) S) →
    lcLoop g bind test elt (xs.map f) acc S = .ok (acc ++ xs.map h) S
  | [], acc, _, _ => by simp only [List.map_nil]; unfold lcLoop; rw [if_pos hg, List.append_nil]
  | x :: xs, acc, hl, hx => by
    obtain ⟨σ, h1, h2, h3⟩ := hx x List.mem_cons_self
    have l1 : acc.length < lenMax := by simp only [List.length_cons] at hl; omega
    rw [List.map_cons]
    unfold lcLoop
    rw [if_pos hg]
    simp only [h1, h2, bd_ok, h3, if_pos l1]
    rw [lcLoop_map hg f h xs (acc ++ [h x]) (by rw [List.length_append]; simp only [List.length_cons, List.length_nil] at hl ⊢; omega) fun y hy => hx y (List.mem_cons_of_mem _ hy)]
    rw [List.append_assoc]
    rfl
theorem noExc_ok {α : Type} {a : α} {S : Sto} : noExc (.ok a S) = .ok a S := rfl
theorem ev_lc {t : Tg} {own : List Nat} {it : It} {c : Eo} {e : E} {σ : Env} {S S1 S2 : Sto} {w : Walk} {ys : List PV} (h : evi C b it σ S = .ok w S1) (h2 : lcLoop (fun S => stands S w.2) (fun x => bindT t x (wipe σ own)) (evc C b c) (ev C b e) w.1 [] S1 = .ok ys S2) :
    ev C b (.lc t own it c e) σ S = .ok (.lst ys) S2 := by
  rw [ev, h]
  simp only [bd_ok, h2, noExc_ok]
end
end MP
end
section
set_option Elab.async false
set_option linter.all false
set_option maxRecDepth 100000
/-! MPRat: pairs in lowest terms are Lean's rational numbers. -/
namespace MP
/-- the value of a number in lowest terms -/
def fr (q : Rat) : PV := pr q.num q.den
theorem fr_zero : PV.tup [.int 0, .int 1] = fr 0 := rfl
theorem fr_one : PV.tup [.int 1, .int 1] = fr 1 := rfl
theorem fr_pure (q : Rat) : (fr q).pure = true := rfl
def szq (k : Nat) (q : Rat) : Prop := sz k q.num ∧ sz k q.den
theorem szq.mono {j k : Nat} {a : Rat} (h : szq j a) (l : j ≤ k) : szq k a := ⟨h.1.mono l, h.2.mono l⟩
theorem den_ne (q : Rat) : (q.den : Int) ≠ 0 := by have := q.den_pos; omega
theorem den_gt (q : Rat) : (0 : Int) < q.den := by have := q.den_pos; omega
theorem fr_of {t b : Int} (hb : 0 < b) (g : Nat.gcd t.natAbs b.natAbs = 1) {T B : Int} (hB : B ≠ 0) (h : t * B = T * b) : pr t b = fr (Rat.divInt T B) := by
  have e : (Rat.divInt T B).num * B = T * (Rat.divInt T B).den := by
    have z := Rat.num_divInt_den (Rat.divInt T B)
    exact (Rat.divInt_eq_divInt_iff (den_ne _) hB).mp z
  have x : t * ((Rat.divInt T B).den : Int) = (Rat.divInt T B).num * b := by
    have hbB : B ≠ 0 := hB
    refine Int.eq_of_mul_eq_mul_right hbB ?_
    calc t * ((Rat.divInt T B).den : Int) * B = (t * B) * ((Rat.divInt T B).den : Int) := by ac_rfl
      _ = (T * b) * ((Rat.divInt T B).den : Int) := by rw [h]
      _ = (T * ((Rat.divInt T B).den : Int)) * b := by ac_rfl
      _ = ((Rat.divInt T B).num * B) * b := by rw [e]
      _ = (Rat.divInt T B).num * b * B := by ac_rfl
  obtain ⟨e1, e2⟩ := same_terms hb (den_gt _) g (by have z := (Rat.divInt T B).reduced; exact z) x
  rw [e1, e2]
  rfl
theorem Q.fr {v : PV} {T B : Int} {k : Nat} (q : Q v T B k) (hB : B ≠ 0) : v = MP.fr (Rat.divInt T B) ∧ szq k (Rat.divInt T B) := by
  obtain ⟨t, b, rfl, p, g, e, z1, z2⟩ := q
  have h := fr_of p g hB e
  refine ⟨h, ?_⟩
  have h' : pr t b = MP.fr (Rat.divInt T B) := h
  unfold pr MP.fr pr at h'
  injection h' with h1
  injection h1 with h2 h3
  injection h2 with h2
  injection h3 with h3
  injection h3 with h3
  exact ⟨h2 ▸ z1, h3 ▸ z2⟩
theorem rat_add (a b : Rat) : Rat.divInt (a.num * b.den + b.num * a.den) (a.den * b.den) = a + b := by
  rw [← Rat.divInt_add_divInt _ _ (den_ne a) (den_ne b), Rat.num_divInt_den, Rat.num_divInt_den]
theorem rat_mul (a b : Rat) : Rat.divInt (a.num * b.num) (a.den * b.den) = a * b := by
  rw [← Rat.divInt_mul_divInt, Rat.num_divInt_den, Rat.num_divInt_den]
theorem rat_div (a b : Rat) : Rat.divInt (a.num * b.den) (a.den * b.num) = a / b := by
  rw [← Rat.divInt_mul_divInt, Rat.num_divInt_den, Rat.div_def]
  congr 1
  rw [Rat.divInt_eq_div]
  have z := Rat.num_divInt_den b
  rw [Rat.divInt_eq_div] at z
  have w : b⁻¹ = ((b.num : Rat) / (b.den : Rat))⁻¹ := by
    have z' : (b.num : Rat) / ((b.den : Int) : Rat) = b := z
    rw [Rat.intCast_natCast] at z'
    rw [z']
  rw [w, Rat.intCast_natCast]
  grind
theorem fr_neg (a : Rat) : pr (-a.num) a.den = fr (-a) := by
  unfold fr
  rw [Rat.neg_num, Rat.neg_den]
theorem fr_inj {a b : Rat} : (decide (a.num = b.num) && decide ((a.den : Int) = b.den)) = decide (a = b) := by
  by_cases h : a = b
  · subst h; simp
  · have : ¬ (a.num = b.num ∧ (a.den : Int) = b.den) := fun ⟨h1, h2⟩ => h (Rat.ext h1 (by omega))
    simp only [h, decide_false]
    by_cases h1 : a.num = b.num
    · have h2 : ¬ (a.den : Int) = b.den := fun h2 => this ⟨h1, h2⟩
      simp only [h2, decide_false, Bool.and_false]
    · simp only [h1, decide_false, Bool.false_and]
/-- the order as compare tells it -/
def cq (a b : Rat) : Int := if a < b then -1 else if b < a then 1 else 0
theorem cq_lt {a b : Rat} : cq a b < 0 ↔ a < b := by
  unfold cq
  split
  · simp [*]
  · split <;> simp_all
theorem cq_gt {a b : Rat} : 0 < cq a b ↔ b < a := by
  unfold cq
  split
  · rename_i h
    have : ¬ b < a := by grind
    simp [this]
  · split <;> simp_all
theorem cq_le {a b : Rat} : cq a b ≤ 0 ↔ a ≤ b := by
  have z := cq_gt (a := a) (b := b)
  have y : a ≤ b ↔ ¬ b < a := by grind
  rw [y, ← z]
  omega
/-- least, greatest -/
def mn (a b : Rat) : Rat := if b < a then b else a
def mx (a b : Rat) : Rat := if a < b then b else a
instance : Std.Commutative mn := ⟨fun a b => by unfold mn; grind⟩
instance : Std.Associative mn := ⟨fun a b c => by unfold mn; grind⟩
instance : Std.Commutative mx := ⟨fun a b => by unfold mx; grind⟩
instance : Std.Associative mx := ⟨fun a b c => by unfold mx; grind⟩
theorem mn_self (a : Rat) : mn a a = a := by unfold mn; grind
theorem mx_self (a : Rat) : mx a a = a := by unfold mx; grind
theorem mn_le {a b : Rat} (h : a ≤ b) : mn a b = a := by unfold mn; grind
theorem mx_le {a b : Rat} (h : a ≤ b) : mx a b = b := by unfold mx; grind
theorem mn_ge {a b : Rat} (h : b ≤ a) : mn a b = b := by unfold mn; grind
theorem mx_ge {a b : Rat} (h : b ≤ a) : mx a b = a := by unfold mx; grind
theorem szq.mn {k : Nat} {a b : Rat} (h : szq k a) (h' : szq k b) : szq k (mn a b) := by unfold MP.mn; split <;> assumption
theorem szq.mx {k : Nat} {a b : Rat} (h : szq k a) (h' : szq k b) : szq k (mx a b) := by unfold MP.mx; split <;> assumption
theorem szq.neg {k : Nat} {a : Rat} (h : szq k a) : szq k (-a) := ⟨by rw [Rat.neg_num]; exact h.1.neg, by rw [Rat.neg_den]; exact h.2⟩
/-- an interval's value -/
abbrev iv (l h : Rat) : PV := .tup [fr l, fr h]
theorem eqV_fr {S : Sto} {a b : Rat} : eqV S (fr a) (fr b) = some (decide (a = b)) := by
  unfold fr
  rw [eqV_pr, fr_inj]
theorem eqV_iv {S : Sto} {a b c d : Rat} : eqV S (iv a b) (iv c d) = some (decide (a = c) && decide (b = d)) := by
  rw [← fr_inj, ← fr_inj]
  unfold iv fr eqV
  simp only [toDS, PV.toD, PV.toDs, Option.map]
  have z : ∀ i j k l : Int, shaped (.tuple [.tuple [.int i, .int j], .tuple [.int k, .int l]]) = true := fun _ _ _ _ => rfl
  rw [z, z]
  simp only [Bool.and_self, if_true]
  congr 1
  simp only [PySem.PyData.eqv, PySem.PyData.eqvAll, Bool.and_true]
  rfl
theorem szq.pow {k : Nat} {t : Rat} (h : szq k t) (n : Nat) : szq (1 + k * n) (t ^ n) := by
  rw [Rat.pow_def]
  refine ⟨h.1.pow n, ?_⟩
  show sz _ ((t.den ^ n : Nat) : Int)
  rw [Int.natCast_pow]
  exact h.2.pow n
theorem szq_divInt {k : Nat} {t b : Int} (hb : b ≠ 0) (ht : sz k t) (hz : sz k b) : szq k (Rat.divInt t b) := ((Q.mk (T := t) (B := b) hb rfl ht hz).fr hb).2
theorem szq.add {k : Nat} {a b : Rat} (h : szq k a) (h' : szq k b) : szq (k + k + 1) (a + b) := by
  rw [← rat_add]
  exact szq_divInt (Int.mul_ne_zero (den_ne _) (den_ne _)) ((h.1.mul h'.2).add (h'.1.mul h.2)) ((h.2.mul h'.2).mono (by omega))
theorem szq.sub {k : Nat} {a b : Rat} (h : szq k a) (h' : szq k b) : szq (k + k + 1) (a - b) := by
  rw [Rat.sub_eq_add_neg]
  exact h.add h'.neg
theorem szq.mul {j k : Nat} {a b : Rat} (h : szq j a) (h' : szq k b) : szq (j + k) (a * b) := by
  rw [← rat_mul]
  exact szq_divInt (Int.mul_ne_zero (den_ne _) (den_ne _)) (h.1.mul h'.1) (h.2.mul h'.2)
theorem num_ne {b : Rat} (h : b ≠ 0) : b.num ≠ 0 := fun e => h (Rat.num_eq_zero.mp e)
theorem szq.div {j k : Nat} {a b : Rat} (h : szq j a) (h' : szq k b) (hb : b ≠ 0) : szq (j + k) (a / b) := by
  rw [← rat_div]
  exact szq_divInt (Int.mul_ne_zero (den_ne _) (num_ne hb)) (h.1.mul h'.2) (h.2.mul h'.1)
section
variable {C : Nat → List PV → Sto → R PV}
theorem push_at {S : Sto} {c : Cell} : (S.push c).cells[S.len]? = some c := by unfold Sto.push Sto.len; simp
theorem push_lst {S : Sto} {xs : List PV} : (S.push (.lst xs)).lst? S.len = some xs := by unfold Sto.lst?; rw [push_at]
theorem push_old {S : Sto} {c : Cell} {k : Nat} (h : k < S.len) : (S.push c).cells[k]? = S.cells[k]? := by
  unfold Sto.push
  exact List.getElem?_append_left h
theorem push_len {S : Sto} {c : Cell} : (S.push c).len = S.len + 1 := by unfold Sto.push Sto.len; simp
theorem push_set {S : Sto} {c d : Cell} : (⟨(S.push c).cells.set S.len d, (S.push c).dirty⟩ : Sto) = S.push d := by unfold Sto.push Sto.len; simp
end
theorem fr_mk {t b : Int} (hb : b ≠ 0) : pr (mkT t b) (mkB t b) = fr (Rat.divInt t b) :=
  ((Q.mk (k := max t.natAbs b.natAbs) hb (T := t) (B := b) rfl ((sz_any t).mono (Nat.le_max_left _ _)) ((sz_any b).mono (Nat.le_max_right _ _))).fr hb).1
theorem szq.addA {j k : Nat} {a b : Rat} (h : szq j a) (h' : szq k b) : szq (j + k + 1) (a + b) := by
  rw [← rat_add]
  exact szq_divInt (Int.mul_ne_zero (den_ne _) (den_ne _)) ((h.1.mul h'.2).add ((h'.1.mul h.2).mono (by omega))) ((h.2.mul h'.2).mono (by omega))
theorem szq.subA {j k : Nat} {a b : Rat} (h : szq j a) (h' : szq k b) : szq (j + k + 1) (a - b) := by
  rw [Rat.sub_eq_add_neg]
  exact h.addA h'.neg
theorem rat_same {t s b : Int} (hb : b ≠ 0) : Rat.divInt (t + s) b = Rat.divInt (t * b + s * b) (b * b) := by
  refine (Rat.divInt_eq_divInt_iff hb (Int.mul_ne_zero hb hb)).mpr ?_
  rw [← Int.add_mul, Int.mul_assoc]
theorem rmul_pow (a b : Rat) : ∀ n : Nat, (a * b) ^ n = a ^ n * b ^ n
  | 0 => by rw [Rat.pow_zero, Rat.pow_zero, Rat.pow_zero, Rat.mul_one]
  | n + 1 => by
    rw [Rat.pow_succ, Rat.pow_succ, Rat.pow_succ, rmul_pow a b n]
    grind
end MP
end
section
set_option Elab.async false
set_option linter.all false
set_option maxRecDepth 100000
/-! MPIv: ranges of rational numbers: what the operations on intervals hold. -/
namespace MP
theorem sq_nn (x : Rat) : 0 ≤ x * x := by
  by_cases h : 0 ≤ x
  · exact Rat.mul_nonneg h h
  · have z := Rat.mul_nonneg (show 0 ≤ -x by grind) (show 0 ≤ -x by grind)
    grind
theorem pow_nn {x : Rat} (h : 0 ≤ x) : ∀ n : Nat, 0 ≤ x ^ n
  | 0 => by rw [Rat.pow_zero]; decide
  | n + 1 => by rw [Rat.pow_succ]; exact Rat.mul_nonneg (pow_nn h n) h
theorem even_nn (x : Rat) : ∀ m : Nat, 0 ≤ x ^ (2 * m)
  | 0 => by rw [Nat.mul_zero, Rat.pow_zero]; decide
  | m + 1 => by
    have e : x ^ (2 * (m + 1)) = x ^ (2 * m) * (x * x) := by
      rw [Nat.mul_succ, Rat.pow_succ, Rat.pow_succ]
      grind
    rw [e]
    exact Rat.mul_nonneg (even_nn x m) (sq_nn x)
theorem odd_neg (x : Rat) : ∀ m : Nat, (-x) ^ (2 * m + 1) = -(x ^ (2 * m + 1))
  | 0 => by rw [Nat.mul_zero, Rat.pow_succ, Rat.pow_succ, Rat.pow_zero, Rat.pow_zero]; grind
  | m + 1 => by
    have e : ∀ y : Rat, y ^ (2 * (m + 1) + 1) = y ^ (2 * m + 1) * (y * y) := fun y => by
      rw [Nat.mul_succ, Rat.pow_succ, Rat.pow_succ, Rat.pow_succ]
      grind
    rw [e, e, odd_neg x m]
    grind
theorem pow_mono {a b : Rat} (h : 0 ≤ a) (o : a ≤ b) : ∀ n : Nat, a ^ n ≤ b ^ n
  | 0 => by rw [Rat.pow_zero, Rat.pow_zero]; decide
  | n + 1 => by
    rw [Rat.pow_succ, Rat.pow_succ]
    have z1 := Rat.mul_le_mul_of_nonneg_right (pow_mono h o n) h
    have z2 := Rat.mul_le_mul_of_nonneg_left o (pow_nn (show 0 ≤ b by grind) n)
    grind
theorem odd_mono {a b : Rat} (o : a ≤ b) (m : Nat) : a ^ (2 * m + 1) ≤ b ^ (2 * m + 1) := by
  by_cases h : 0 ≤ a
  · exact pow_mono h o _
  · have na : 0 ≤ (-a) ^ (2 * m + 1) := pow_nn (by grind) _
    rw [odd_neg] at na
    by_cases hb : 0 ≤ b
    · have nb : 0 ≤ b ^ (2 * m + 1) := pow_nn hb _
      grind
    · have z := pow_mono (a := -b) (b := -a) (by grind) (by grind) (2 * m + 1)
      rw [odd_neg, odd_neg] at z
      grind
/-- whether 0 is told of too -/
def zc (a b : Rat) (n : Nat) : Prop := 0 < n ∧ n % 2 = 0 ∧ a ≤ 0 ∧ 0 ≤ b
instance (a b : Rat) (n : Nat) : Decidable (zc a b n) := by unfold zc; exact inferInstance
def rlo (a b : Rat) (n : Nat) : Rat := if zc a b n then mn (mn (a ^ n) (b ^ n)) 0 else mn (a ^ n) (b ^ n)
def rhi (a b : Rat) (n : Nat) : Rat := if zc a b n then mx (mx (a ^ n) (b ^ n)) 0 else mx (a ^ n) (b ^ n)
theorem mul_mono {a b c : Rat} (h : a ≤ b) (hc : 0 ≤ c) : a * c ≤ b * c := Rat.mul_le_mul_of_nonneg_right h hc
theorem mul_anti {a b c : Rat} (h : a ≤ b) (hc : c ≤ 0) : b * c ≤ a * c := by
  have z := Rat.mul_le_mul_of_nonneg_right h (show 0 ≤ -c by grind)
  grind
theorem mn_l (a b : Rat) : mn a b ≤ a := by unfold mn; grind
theorem mn_r (a b : Rat) : mn a b ≤ b := by unfold mn; grind
theorem mx_l (a b : Rat) : a ≤ mx a b := by unfold mx; grind
theorem mx_r (a b : Rat) : b ≤ mx a b := by unfold mx; grind
theorem le_mn {a b c : Rat} (h : c ≤ a) (h' : c ≤ b) : c ≤ mn a b := by unfold mn; grind
theorem mx_le' {a b c : Rat} (h : a ≤ c) (h' : b ≤ c) : mx a b ≤ c := by unfold mx; grind
/-- the product's ends -/
def tlo (a b c e : Rat) : Rat := mn (mn (a * c) (b * c)) (mn (a * e) (b * e))
def thi (a b c e : Rat) : Rat := mx (mx (a * c) (b * c)) (mx (a * e) (b * e))
theorem mul_in1 {a b x y : Rat} (h1 : a ≤ x) (h2 : x ≤ b) : mn (a * y) (b * y) ≤ x * y ∧ x * y ≤ mx (a * y) (b * y) := by
  by_cases h : 0 ≤ y
  · have z1 := mul_mono h1 h
    have z2 := mul_mono h2 h
    have m1 := mn_l (a * y) (b * y)
    have m2 := mx_r (a * y) (b * y)
    constructor <;> grind
  · have h' : y ≤ 0 := by grind
    have z1 := mul_anti h1 h'
    have z2 := mul_anti h2 h'
    have m1 := mn_r (a * y) (b * y)
    have m2 := mx_l (a * y) (b * y)
    constructor <;> grind
theorem mul_in {a b c e x y : Rat} (h1 : a ≤ x) (h2 : x ≤ b) (h3 : c ≤ y) (h4 : y ≤ e) : tlo a b c e ≤ x * y ∧ x * y ≤ thi a b c e := by
  obtain ⟨p1, p2⟩ := mul_in1 (y := y) h1 h2
  obtain ⟨q1, q2⟩ := mul_in1 (y := a) h3 h4
  obtain ⟨r1, r2⟩ := mul_in1 (y := b) h3 h4
  rw [Rat.mul_comm c a, Rat.mul_comm e a, Rat.mul_comm y a] at q1 q2
  rw [Rat.mul_comm c b, Rat.mul_comm e b, Rat.mul_comm y b] at r1 r2
  have e1 : tlo a b c e = mn (mn (a * c) (a * e)) (mn (b * c) (b * e)) := by unfold tlo; ac_rfl
  have e2 : thi a b c e = mx (mx (a * c) (a * e)) (mx (b * c) (b * e)) := by unfold thi; ac_rfl
  rw [e1, e2]
  constructor
  · have l1 := mn_l (mn (a * c) (a * e)) (mn (b * c) (b * e))
    have l2 := mn_r (mn (a * c) (a * e)) (mn (b * c) (b * e))
    have : mn (mn (a * c) (a * e)) (mn (b * c) (b * e)) ≤ mn (a * y) (b * y) := le_mn (by grind) (by grind)
    grind
  · have l1 := mx_l (mx (a * c) (a * e)) (mx (b * c) (b * e))
    have l2 := mx_r (mx (a * c) (a * e)) (mx (b * c) (b * e))
    have : mx (a * y) (b * y) ≤ mx (mx (a * c) (a * e)) (mx (b * c) (b * e)) := mx_le' (by grind) (by grind)
    grind
/-- what holds at the corners holds of the ends -/
theorem tlo_ge {a b c e l : Rat} (h1 : l ≤ a * c) (h2 : l ≤ b * c) (h3 : l ≤ a * e) (h4 : l ≤ b * e) : l ≤ tlo a b c e := le_mn (le_mn h1 h2) (le_mn h3 h4)
theorem thi_le {a b c e l : Rat} (h1 : a * c ≤ l) (h2 : b * c ≤ l) (h3 : a * e ≤ l) (h4 : b * e ≤ l) : thi a b c e ≤ l := mx_le' (mx_le' h1 h2) (mx_le' h3 h4)
theorem tlo_thi (a b c e : Rat) : tlo a b c e ≤ thi a b c e := by
  have h1 : tlo a b c e ≤ a * c := by unfold tlo; have := mn_l (mn (a * c) (b * c)) (mn (a * e) (b * e)); have := mn_l (a * c) (b * c); grind
  have h2 : a * c ≤ thi a b c e := by unfold thi; have := mx_l (mx (a * c) (b * c)) (mx (a * e) (b * e)); have := mx_l (a * c) (b * c); grind
  grind
theorem mul_sub {a b c e a' b' c' e' : Rat} (h1 : a ≤ a') (o : a' ≤ b') (h2 : b' ≤ b) (h3 : c ≤ c') (o' : c' ≤ e') (h4 : e' ≤ e) : tlo a b c e ≤ tlo a' b' c' e' ∧ thi a' b' c' e' ≤ thi a b c e := by
  have p1 := mul_in (a := a) (b := b) (c := c) (e := e) (x := a') (y := c') h1 (by grind) h3 (by grind)
  have p2 := mul_in (a := a) (b := b) (c := c) (e := e) (x := b') (y := c') (by grind) h2 h3 (by grind)
  have p3 := mul_in (a := a) (b := b) (c := c) (e := e) (x := a') (y := e') h1 (by grind) (by grind) h4
  have p4 := mul_in (a := a) (b := b) (c := c) (e := e) (x := b') (y := e') (by grind) h2 (by grind) h4
  exact ⟨tlo_ge p1.1 p2.1 p3.1 p4.1, thi_le p1.2 p2.2 p3.2 p4.2⟩
/-- inverses -/
theorem inv_anti {a b : Rat} (h : 0 < a) (o : a ≤ b) : b⁻¹ ≤ a⁻¹ := by
  have hb : 0 < b := by grind
  have ia : 0 < a⁻¹ := Rat.inv_pos.mpr h
  have ib : 0 < b⁻¹ := Rat.inv_pos.mpr hb
  have z := Rat.mul_le_mul_of_nonneg_right o (show 0 ≤ a⁻¹ * b⁻¹ from Rat.mul_nonneg (by grind) (by grind))
  have e1 : a * (a⁻¹ * b⁻¹) = b⁻¹ := by
    rw [← Rat.mul_assoc, Rat.mul_inv_cancel a (by grind), Rat.one_mul]
  have e2 : b * (a⁻¹ * b⁻¹) = a⁻¹ := by
    rw [Rat.mul_comm a⁻¹, ← Rat.mul_assoc, Rat.mul_inv_cancel b (by grind), Rat.one_mul]
  rw [e1, e2] at z
  exact z
theorem inv_neg' (a : Rat) : (-a)⁻¹ = -(a⁻¹) := by
  by_cases h : a = 0
  · subst h; decide +kernel
  · have z := Rat.mul_inv_cancel a h
    have z2 := Rat.mul_inv_cancel (-a) (by grind)
    have e : a * (-(-a)⁻¹) = 1 := by grind
    have e2 : a⁻¹ * (a * (-(-a)⁻¹)) = a⁻¹ := by rw [e, Rat.mul_one]
    rw [← Rat.mul_assoc, Rat.mul_comm a⁻¹, z, Rat.one_mul] at e2
    grind
/-- 1/y between 1/e and 1/c -/
theorem inv_in {c e y : Rat} (h1 : c ≤ y) (h2 : y ≤ e) (h : ¬ (c ≤ 0 ∧ 0 ≤ e)) : 1 / e ≤ 1 / y ∧ 1 / y ≤ 1 / c := by
  simp only [Rat.div_def, Rat.one_mul]
  by_cases hc : 0 < c
  · exact ⟨inv_anti (by grind) h2, inv_anti hc h1⟩
  · have he : e < 0 := by grind
    have z1 := inv_anti (a := -e) (b := -y) (by grind) (by grind)
    have z2 := inv_anti (a := -y) (b := -c) (by grind) (by grind)
    simp only [inv_neg'] at z1 z2
    constructor <;> grind
theorem div_one (x y : Rat) : x * (1 / y) = x / y := by rw [Rat.div_def, Rat.div_def, Rat.one_mul]
/-- the quotient's ends -/
def dlo (a b c e : Rat) : Rat := tlo a b (1 / e) (1 / c)
def dhi (a b c e : Rat) : Rat := thi a b (1 / e) (1 / c)
theorem div_in {a b c e x y : Rat} (h1 : a ≤ x) (h2 : x ≤ b) (h3 : c ≤ y) (h4 : y ≤ e) (h : ¬ (c ≤ 0 ∧ 0 ≤ e)) : dlo a b c e ≤ x / y ∧ x / y ≤ dhi a b c e := by
  obtain ⟨p, q⟩ := inv_in h3 h4 h
  rw [← div_one]
  exact mul_in h1 h2 p q
theorem div_sub {a b c e a' b' c' e' : Rat} (h1 : a ≤ a') (o : a' ≤ b') (h2 : b' ≤ b) (h3 : c ≤ c') (o' : c' ≤ e') (h4 : e' ≤ e) (h : ¬ (c ≤ 0 ∧ 0 ≤ e)) : dlo a b c e ≤ dlo a' b' c' e' ∧ dhi a' b' c' e' ≤ dhi a b c e := by
  have p1 := inv_in (c := c) (e := e) (y := c') h3 (by grind) h
  have p2 := inv_in (c := c) (e := e) (y := e') (by grind) h4 h
  have p3 := inv_in (y := c') (c := c') (e := e') (by grind) o' (by grind)
  exact mul_sub h1 o h2 p2.1 p3.1 p1.2
/-- the power's ends -/
theorem pow_in {a b x : Rat} (n : Nat) (h1 : a ≤ x) (h2 : x ≤ b) : rlo a b n ≤ x ^ n ∧ x ^ n ≤ rhi a b n := by
  have base : mn (a ^ n) (b ^ n) ≤ x ^ n ∧ x ^ n ≤ mx (a ^ n) (b ^ n) ∨ (0 < n ∧ n % 2 = 0 ∧ a ≤ 0 ∧ 0 ≤ b) ∧ 0 ≤ x ^ n ∧ x ^ n ≤ mx (a ^ n) (b ^ n) := by
    have l1 := mn_l (a ^ n) (b ^ n)
    have l2 := mn_r (a ^ n) (b ^ n)
    have l3 := mx_l (a ^ n) (b ^ n)
    have l4 := mx_r (a ^ n) (b ^ n)
    by_cases h0 : n = 0
    · subst h0
      simp only [Rat.pow_zero] at *
      left
      constructor <;> grind
    by_cases hm : n % 2 = 1
    · have e : n = 2 * (n / 2) + 1 := by omega
      have z1 := odd_mono h1 (n / 2)
      have z2 := odd_mono h2 (n / 2)
      rw [← e] at z1 z2
      left
      constructor <;> grind
    · have e : n = 2 * (n / 2) := by omega
      have evn : ∀ y : Rat, 0 ≤ y ^ n := fun y => by rw [e]; exact even_nn _ _
      have sgn : ∀ y : Rat, (-y) ^ n = y ^ n := fun y => by
        have z : ∀ m : Nat, (-y) ^ (2 * m) = y ^ (2 * m) := fun m => by
          induction m with
          | zero => rw [Nat.mul_zero, Rat.pow_zero, Rat.pow_zero]
          | succ m ih =>
            have q : ∀ w : Rat, w ^ (2 * (m + 1)) = w ^ (2 * m) * (w * w) := fun w => by
              rw [Nat.mul_succ, Rat.pow_succ, Rat.pow_succ]
              grind
            rw [q, q, ih]
            grind
        rw [e]
        exact z _
      have up : x ^ n ≤ mx (a ^ n) (b ^ n) := by
        by_cases hx : 0 ≤ x
        · have z := pow_mono hx h2 n
          grind
        · have z := pow_mono (a := -x) (b := -a) (by grind) (by grind) n
          rw [sgn, sgn] at z
          grind
      by_cases hz : a ≤ 0 ∧ 0 ≤ b
      · exact .inr ⟨⟨by omega, by omega, hz.1, hz.2⟩, evn x, up⟩
      · left
        refine ⟨?_, up⟩
        by_cases ha : 0 ≤ a
        · have z := pow_mono ha h1 n
          grind
        · have z := pow_mono (a := -b) (b := -x) (by grind) (by grind) n
          rw [sgn, sgn] at z
          grind
  unfold rlo rhi
  by_cases z : zc a b n
  · rw [if_pos z, if_pos z]
    have l1 := mn_l (mn (a ^ n) (b ^ n)) 0
    have l2 := mn_r (mn (a ^ n) (b ^ n)) 0
    have l3 := mx_l (mx (a ^ n) (b ^ n)) 0
    rcases base with h | h
    · constructor <;> grind
    · constructor <;> grind
  · rw [if_neg z, if_neg z]
    rcases base with h | h
    · exact h
    · exact absurd h.1 z
theorem zero_pow {n : Nat} (h : 0 < n) : (0 : Rat) ^ n = 0 := by
  cases n with
  | zero => omega
  | succ n => rw [Rat.pow_succ, Rat.mul_zero]
theorem pow_sub {a b a' b' : Rat} (n : Nat) (h1 : a ≤ a') (o : a' ≤ b') (h2 : b' ≤ b) : rlo a b n ≤ rlo a' b' n ∧ rhi a' b' n ≤ rhi a b n := by
  have p1 := pow_in (a := a) (b := b) (x := a') n h1 (by grind)
  have p2 := pow_in (a := a) (b := b) (x := b') n (by grind) h2
  have l := le_mn p1.1 p2.1
  have u := mx_le' p1.2 p2.2
  by_cases z : zc a' b' n
  · have p3 := pow_in (a := a) (b := b) (x := 0) n (by have := z.2.2.1; grind) (by have := z.2.2.2; grind)
    rw [zero_pow z.1] at p3
    have e1 : rlo a' b' n = mn (mn (a' ^ n) (b' ^ n)) 0 := by unfold rlo; rw [if_pos z]
    have e2 : rhi a' b' n = mx (mx (a' ^ n) (b' ^ n)) 0 := by unfold rhi; rw [if_pos z]
    rw [e1, e2]
    exact ⟨le_mn l p3.1, mx_le' u p3.2⟩
  · have e1 : rlo a' b' n = mn (a' ^ n) (b' ^ n) := by unfold rlo; rw [if_neg z]
    have e2 : rhi a' b' n = mx (a' ^ n) (b' ^ n) := by unfold rhi; rw [if_neg z]
    rw [e1, e2]
    exact ⟨l, u⟩
theorem rlo_rhi {a b : Rat} (n : Nat) (o : a ≤ b) : rlo a b n ≤ rhi a b n := by
  have p := pow_in (a := a) (b := b) (x := a) n (by grind) o
  grind
/-! ### the grid -/
def flo (a : Rat) (n : Nat) : Rat := Rat.divInt ((a.num * 2 ^ n).fdiv a.den) (2 ^ n)
def cei (a : Rat) (n : Nat) : Rat := Rat.divInt (-((-a.num * 2 ^ n).fdiv a.den)) (2 ^ n)
theorem cei_flo (a : Rat) (n : Nat) : cei a n = -flo (-a) n := by
  unfold cei flo
  rw [Rat.neg_divInt, Rat.neg_num, Rat.neg_den]
theorem two_pos (n : Nat) : (0 : Rat) < ((2 ^ n : Int) : Rat) := Rat.intCast_pos.mpr (Int.pow_pos (by decide))
theorem num_den (a : Rat) : a * ((a.den : Int) : Rat) = (a.num : Rat) := by
  have z := Rat.num_divInt_den a
  rw [Rat.divInt_eq_div] at z
  have d : ((a.den : Int) : Rat) ≠ 0 := by
    have : (0 : Rat) < ((a.den : Int) : Rat) := Rat.intCast_pos.mpr (den_gt a)
    grind
  have y := Rat.div_mul_cancel (a := (a.num : Rat)) (b := ((a.den : Int) : Rat)) d
  rw [z] at y
  exact y
/-- the floor's number -/
def flm (a : Rat) (n : Nat) : Int := (a.num * 2 ^ n).fdiv a.den
theorem flo_mul (a : Rat) (n : Nat) : flo a n * ((2 ^ n : Int) : Rat) = (flm a n : Rat) := by
  unfold flo
  rw [Rat.divInt_eq_div]
  exact Rat.div_mul_cancel (by have := two_pos n; grind)
theorem flm_le (a : Rat) (n : Nat) : (flm a n : Rat) ≤ a * ((2 ^ n : Int) : Rat) := by
  have dp : (0 : Rat) < ((a.den : Int) : Rat) := Rat.intCast_pos.mpr (den_gt a)
  refine Rat.le_of_mul_le_mul_right (c := ((a.den : Int) : Rat)) ?_ dp
  have e : a * ((2 ^ n : Int) : Rat) * ((a.den : Int) : Rat) = ((a.num * 2 ^ n : Int) : Rat) := by
    rw [Rat.intCast_mul, ← num_den a]
    grind
  rw [e, ← Rat.intCast_mul]
  refine Rat.intCast_le_intCast.mpr ?_
  unfold flm
  rw [Int.fdiv_eq_ediv_of_nonneg _ (by omega)]
  exact Int.ediv_mul_le _ (den_ne a)
theorem lt_flm (a : Rat) (n : Nat) : a * ((2 ^ n : Int) : Rat) < ((flm a n + 1 : Int) : Rat) := by
  have dp : (0 : Rat) < ((a.den : Int) : Rat) := Rat.intCast_pos.mpr (den_gt a)
  refine Rat.lt_of_mul_lt_mul_right (c := ((a.den : Int) : Rat)) ?_ (by grind)
  have e : a * ((2 ^ n : Int) : Rat) * ((a.den : Int) : Rat) = ((a.num * 2 ^ n : Int) : Rat) := by
    rw [Rat.intCast_mul, ← num_den a]
    grind
  rw [e, ← Rat.intCast_mul]
  refine Rat.intCast_lt_intCast.mpr ?_
  exact Int.lt_fdiv_add_one_mul_self _ (den_gt a)
theorem flo_le (a : Rat) (n : Nat) : flo a n ≤ a := by
  refine Rat.le_of_mul_le_mul_right (c := ((2 ^ n : Int) : Rat)) ?_ (two_pos n)
  rw [flo_mul]
  exact flm_le a n
theorem flo_mono {a b : Rat} (h : a ≤ b) (n : Nat) : flo a n ≤ flo b n := by
  refine Rat.le_of_mul_le_mul_right (c := ((2 ^ n : Int) : Rat)) ?_ (two_pos n)
  rw [flo_mul, flo_mul]
  refine Rat.intCast_le_intCast.mpr ?_
  have z1 := flm_le a n
  have z2 := lt_flm b n
  have z3 := Rat.mul_le_mul_of_nonneg_right h (show (0 : Rat) ≤ ((2 ^ n : Int) : Rat) by have := two_pos n; grind)
  have z4 : (flm a n : Rat) < ((flm b n + 1 : Int) : Rat) := by grind
  have := Rat.intCast_lt_intCast.mp z4
  omega
theorem le_cei (a : Rat) (n : Nat) : a ≤ cei a n := by
  have := flo_le (-a) n
  rw [cei_flo]
  grind
theorem cei_mono {a b : Rat} (h : a ≤ b) (n : Nat) : cei a n ≤ cei b n := by
  have := flo_mono (a := -b) (b := -a) (by grind) n
  rw [cei_flo, cei_flo]
  grind
theorem flo_den (a : Rat) (n : Nat) : ((flo a n).den : Int) ∣ 2 ^ n := by
  unfold flo
  rw [Rat.den_divInt, if_neg (by have : (0 : Int) < 2 ^ n := Int.pow_pos (by decide); omega)]
  have z : (2 ^ n : Int).natAbs / (2 ^ n : Int).gcd ((a.num * 2 ^ n).fdiv a.den) ∣ (2 ^ n : Int).natAbs := Nat.div_dvd_of_dvd (Nat.gcd_dvd_left _ _)
  exact Int.ofNat_dvd_left.mpr z
theorem cei_den (a : Rat) (n : Nat) : ((cei a n).den : Int) ∣ 2 ^ n := by
  rw [cei_flo, Rat.neg_den]
  exact flo_den _ _
theorem sz_two {n : Nat} (h : n < 50) : sz 51 ((2 : Int) ^ n) := by
  unfold sz
  rw [Int.natAbs_pow]
  exact Nat.pow_lt_pow_right (by decide) (by omega)
theorem szq.flo {k n : Nat} {a : Rat} (h : szq k a) (hn : n < 50) : szq (k + 51) (flo a n) := by
  refine szq_divInt (by have : (0 : Int) < 2 ^ n := Int.pow_pos (by decide); omega) ((h.1.mul (sz_two hn)).fdiv.resolve_right (den_ne a)) ((sz_two hn).mono (by omega))
theorem szq.cei {k n : Nat} {a : Rat} (h : szq k a) (hn : n < 50) : szq (k + 51) (cei a n) := by
  rw [cei_flo]
  exact (h.neg.flo hn).neg
theorem sz_one : szq 1 (1 : Rat) := ⟨by unfold sz; decide, by unfold sz; decide⟩
theorem sz_zero : szq 1 (0 : Rat) := ⟨by unfold sz; decide, by unfold sz; decide⟩
end MP
end
section
set_option Elab.async false
set_option linter.all false
set_option maxRecDepth 100000
/-! MPEq: == and in over data of any depth. -/
namespace MP
open PySem
mutual
/-- data without truth values, instances, numbers of the store -/
def PV.std : PV → Bool
  | .non => true
  | .int _ => true
  | .str x => PyData.strOk x
  | .tup xs => PV.stds xs
  | .lst xs => PV.stds xs
  | _ => false
def PV.stds : List PV → Bool
  | [] => true
  | x :: xs => x.std && PV.stds xs
end
mutual
def PV.dp : PV → Nat
  | .tup xs => PV.dps xs + 1
  | .lst xs => PV.dps xs + 1
  | _ => 0
def PV.dps : List PV → Nat
  | [] => 0
  | x :: xs => max x.dp (PV.dps xs)
end
mutual
theorem std_toD : ∀ {x : PV}, x.std = true → ∃ d, x.toD = some d ∧ d.canLay0 = true ∧ d.depth = x.dp
  | .non, _ => ⟨_, rfl, rfl, rfl⟩
  | .int _, _ => ⟨_, rfl, rfl, rfl⟩
  | .str x, h => ⟨_, rfl, h, rfl⟩
  | .tup xs, h => by
    obtain ⟨ds, e, c, p⟩ := stds_toD (xs := xs) h
    exact ⟨.tuple ds, by simp [PV.toD, e], by simpa [PyData.canLay0] using c, by simp [PyData.depth, PV.dp, p]⟩
  | .lst xs, h => by
    obtain ⟨ds, e, c, p⟩ := stds_toD (xs := xs) h
    exact ⟨.list ds, by simp [PV.toD, e], by simpa [PyData.canLay0] using c, by simp [PyData.depth, PV.dp, p]⟩
  | .bl _, h => by cases h
  | .obj _ _, h => by cases h
  | .ref _, h => by cases h
theorem stds_toD : ∀ {xs : List PV}, PV.stds xs = true → ∃ ds, PV.toDs xs = some ds ∧ PyData.canLayAll0 ds = true ∧ PyData.depthAll ds = PV.dps xs
  | [], _ => ⟨[], rfl, rfl, rfl⟩
  | x :: xs, h => by
    have h' := Bool.and_eq_true_iff.mp (show (x.std && PV.stds xs) = true from h)
    obtain ⟨d, e1, c1, p1⟩ := std_toD h'.1
    obtain ⟨ds, e2, c2, p2⟩ := stds_toD h'.2
    exact ⟨d :: ds, by simp [PV.toDs, e1, e2], by simp [PyData.canLayAll0, c1, c2], by simp [PyData.depthAll, PV.dps, p1, p2]⟩
end
theorem str_beq (x y : Str) : (x == y) = decide (x = y) := by
  by_cases h : x = y
  · subst h; simp
  · rw [decide_eq_false h]
    simpa using h
mutual
theorem std_eqv : ∀ {x y : PV} {d e : PyData}, x.std = true → y.std = true → x.toD = some d → y.toD = some e → d.eqv e = decide (x = y)
  | .non, y, d, e, _, hy, h1, h2 => by
    cases h1
    cases y <;> first | (cases h2; simp [PyData.eqv]; done) | (simp [PV.std] at hy; done) | skip
    all_goals
      rename_i xs
      cases q : PV.toDs xs with
      | none => simp [PV.toD, q] at h2
      | some ds =>
        simp [PV.toD, q] at h2
        subst h2
        simp [PyData.eqv]
  | .int i, y, d, e, _, hy, h1, h2 => by
    cases h1
    cases y <;> first | (cases h2; simp [PyData.eqv, BEq.beq]; done) | (cases h2; simp [PyData.eqv]; done) | (simp [PV.std] at hy; done) | skip
    all_goals
      rename_i xs
      cases q : PV.toDs xs with
      | none => simp [PV.toD, q] at h2
      | some ds =>
        simp [PV.toD, q] at h2
        subst h2
        simp [PyData.eqv]
  | .str z, y, d, e, _, hy, h1, h2 => by
    cases h1
    cases y <;> first | (cases h2; simp [PyData.eqv]; done) | (cases h2; simp only [PyData.eqv, PV.str.injEq]; exact str_beq _ _) | (simp [PV.std] at hy; done) | skip
    all_goals
      rename_i xs
      cases q : PV.toDs xs with
      | none => simp [PV.toD, q] at h2
      | some ds =>
        simp [PV.toD, q] at h2
        subst h2
        simp [PyData.eqv]
  | .tup xs, y, d, e, hx, hy, h1, h2 => by
    cases q1 : PV.toDs xs with
    | none => simp [PV.toD, q1] at h1
    | some ds =>
      simp [PV.toD, q1] at h1
      subst h1
      cases y with
      | tup ys =>
        cases q2 : PV.toDs ys with
        | none => simp [PV.toD, q2] at h2
        | some es =>
          simp [PV.toD, q2] at h2
          subst h2
          have ih := stds_eqv (xs := xs) (ys := ys) hx hy q1 q2
          simp [PyData.eqv, ih]
      | lst ys =>
        cases q2 : PV.toDs ys with
        | none => simp [PV.toD, q2] at h2
        | some es =>
          simp [PV.toD, q2] at h2
          subst h2
          simp [PyData.eqv]
      | bl _ => simp [PV.std] at hy
      | obj _ _ => simp [PV.std] at hy
      | ref _ => simp [PV.std] at hy
      | _ => cases h2; simp [PyData.eqv]
  | .lst xs, y, d, e, hx, hy, h1, h2 => by
    cases q1 : PV.toDs xs with
    | none => simp [PV.toD, q1] at h1
    | some ds =>
      simp [PV.toD, q1] at h1
      subst h1
      cases y with
      | lst ys =>
        cases q2 : PV.toDs ys with
        | none => simp [PV.toD, q2] at h2
        | some es =>
          simp [PV.toD, q2] at h2
          subst h2
          have ih := stds_eqv (xs := xs) (ys := ys) hx hy q1 q2
          simp [PyData.eqv, ih]
      | tup ys =>
        cases q2 : PV.toDs ys with
        | none => simp [PV.toD, q2] at h2
        | some es =>
          simp [PV.toD, q2] at h2
          subst h2
          simp [PyData.eqv]
      | bl _ => simp [PV.std] at hy
      | obj _ _ => simp [PV.std] at hy
      | ref _ => simp [PV.std] at hy
      | _ => cases h2; simp [PyData.eqv]
  | .bl _, _, _, _, hx, _, _, _ => by cases hx
  | .obj _ _, _, _, _, hx, _, _, _ => by cases hx
  | .ref _, _, _, _, hx, _, _, _ => by cases hx
theorem stds_eqv : ∀ {xs ys : List PV} {ds es : List PyData}, PV.stds xs = true → PV.stds ys = true → PV.toDs xs = some ds → PV.toDs ys = some es → PyData.eqvAll ds es = decide (xs = ys)
  | [], [], ds, es, _, _, h1, h2 => by cases h1; cases h2; simp [PyData.eqvAll]
  | [], y :: ys, ds, es, _, hy, h1, h2 => by
    obtain ⟨fs, e, _⟩ := stds_toD hy
    cases h1
    rw [e] at h2
    cases h2
    cases es with
    | nil =>
      exfalso
      cases q : y.toD with
      | none => simp [PV.toDs, q] at e
      | some d => cases q2 : PV.toDs ys with
        | none => simp [PV.toDs, q, q2] at e
        | some r => simp [PV.toDs, q, q2] at e
    | cons _ _ => simp [PyData.eqvAll]
  | x :: xs, [], ds, es, hx, _, h1, h2 => by
    obtain ⟨fs, e, _⟩ := stds_toD hx
    cases h2
    rw [e] at h1
    cases h1
    cases ds with
    | nil =>
      exfalso
      cases q : x.toD with
      | none => simp [PV.toDs, q] at e
      | some d => cases q2 : PV.toDs xs with
        | none => simp [PV.toDs, q, q2] at e
        | some r => simp [PV.toDs, q, q2] at e
    | cons _ _ => simp [PyData.eqvAll]
  | x :: xs, y :: ys, ds, es, hx, hy, h1, h2 => by
    have hx' := Bool.and_eq_true_iff.mp (show (x.std && PV.stds xs) = true from hx)
    have hy' := Bool.and_eq_true_iff.mp (show (y.std && PV.stds ys) = true from hy)
    obtain ⟨d, a1, _⟩ := std_toD hx'.1
    obtain ⟨ds', a2, _⟩ := stds_toD hx'.2
    obtain ⟨e, b1, _⟩ := std_toD hy'.1
    obtain ⟨es', b2, _⟩ := stds_toD hy'.2
    have c1 := std_eqv hx'.1 hy'.1 a1 b1
    have c2 := stds_eqv hx'.2 hy'.2 a2 b2
    simp [PV.toDs, a1, a2] at h1
    simp [PV.toDs, b1, b2] at h2
    subst h1
    subst h2
    by_cases p : x = y
    · by_cases q : xs = ys
      · simp [PyData.eqvAll, c1, c2, p, q]
      · simp [PyData.eqvAll, c1, c2, p, q]
    · simp [PyData.eqvAll, c1, c2, p]
end
theorem toDS_std {S : Sto} {x : PV} (h : x.std = true) : toDS S x = x.toD := by
  cases x <;> first | rfl | cases h
theorem eqV_std {S : Sto} {x y : PV} (hx : x.std = true) (hy : y.std = true) (dx : x.dp ≤ 64) (dy : y.dp ≤ 64) : eqV S x y = some (decide (x = y)) := by
  obtain ⟨d, a1, a2, a3⟩ := std_toD hx
  obtain ⟨e, b1, b2, b3⟩ := std_toD hy
  unfold eqV
  rw [toDS_std hx, toDS_std hy, a1, b1]
  have s1 : shaped d = true := by unfold shaped; rw [a2, a3, decide_eq_true dx]; rfl
  have s2 : shaped e = true := by unfold shaped; rw [b2, b3, decide_eq_true dy]; rfl
  simp only [s1, s2, Bool.and_self, if_true]
  rw [std_eqv hx hy a1 b1]
theorem flat_eq {x y : PV} (hx : x.std = true) (hy : y.std = true) (fx : x.flat = true) (fy : y.flat = true) : x.eqF y = decide (x = y) := by
  cases x <;> cases y <;> first | (cases fx; done) | (cases fy; done) | (cases hx; done) | (cases hy; done) | (simp [PV.eqF]; done) | (simp [PV.eqF, BEq.beq]; done)
theorem stds_mem : ∀ {xs : List PV} {x : PV}, PV.stds xs = true → x ∈ xs → x.std = true
  | y :: ys, x, h, m => by
    have h' := Bool.and_eq_true_iff.mp (show (y.std && PV.stds ys) = true from h)
    rcases List.mem_cons.mp m with rfl | m
    · exact h'.1
    · exact stds_mem h'.2 m
theorem any_eqv {x : PV} {d : PyData} (hx : x.std = true) (a1 : x.toD = some d) : ∀ {xs : List PV} {ds : List PyData}, PV.stds xs = true → PV.toDs xs = some ds → (ds.any fun z => z.eqv d) = xs.any fun z => decide (z = x)
  | [], ds, _, e => by cases e; rfl
  | y :: ys, ds, h, e => by
    have h' := Bool.and_eq_true_iff.mp (show (y.std && PV.stds ys) = true from h)
    obtain ⟨e1, b1, _⟩ := std_toD h'.1
    obtain ⟨es, b2, _⟩ := stds_toD h'.2
    simp [PV.toDs, b1, b2] at e
    subst e
    rw [List.any_cons, List.any_cons, std_eqv h'.1 hx b1 a1, any_eqv hx a1 h'.2 b2]
/-- in, over a written or locked list -/
theorem inSeq_std {S : Sto} {x : PV} {xs : List PV} (hx : x.std = true) (h : PV.stds xs = true) (dx : x.dp ≤ 64) (dy : PV.dps xs ≤ 63) : inSeq S x (.lst xs) = some (xs.any fun z => decide (z = x)) := by
  unfold inSeq
  show (if (x.flat && xs.all PV.flat) = true then some (xs.any fun z => z.eqF x) else inDeep S x (.lst xs)) = _
  split
  · rename_i hf
    have hf := Bool.and_eq_true_iff.mp hf
    congr 1
    have z : ∀ y ∈ xs, y.eqF x = decide (y = x) := fun y m => flat_eq (stds_mem h m) hx (List.all_eq_true.mp hf.2 y m) hf.1
    rename_i hh
    clear h dy hf hh
    induction xs with
    | nil => rfl
    | cons y ys ih => rw [List.any_cons, List.any_cons, z y List.mem_cons_self, ih fun w m => z w (List.mem_cons_of_mem _ m)]
  · obtain ⟨d, a1, a2, a3⟩ := std_toD hx
    obtain ⟨ds, b1, b2, b3⟩ := stds_toD h
    unfold inDeep
    rw [toDS_std hx, a1, show toDS S (.lst xs) = some (.list ds) by simp [toDS, PV.toD, b1]]
    have s1 : shaped d = true := by unfold shaped; rw [a2, a3, decide_eq_true dx]; rfl
    have s2 : shaped (.list ds) = true := by
      unfold shaped
      have : PyData.depth (.list ds) = PV.dps xs + 1 := by simp [PyData.depth, b3]
      rw [this, show PyData.canLay0 (.list ds) = true by simpa [PyData.canLay0] using b2, decide_eq_true (by omega)]
      rfl
    simp only [s1, s2, Bool.and_self, if_true]
    rw [any_eqv hx a1 h b1]
end MP
end
section
set_option Elab.async false
set_option linter.all false
set_option maxRecDepth 100000
/-! MPSimp: each operator where its operands are known. -/
namespace MP
open PySem
section
variable {S : Sto} {i j : Int} {x y : PV} {xs ys : List PV}
theorem ix_tup : ixV S (.tup xs) (.int i) = itemAt xs i := by simp only [ixV]
theorem ix_lst : ixV S (.lst xs) (.int i) = itemAt xs i := by simp only [ixV]
theorem ix_r {k : Nat} : ixV S (.ref k) (.int i) = match S.lst? k with
    | some xs => itemAt xs i
    | none => (dAsk S k (.int i)).bind id := by
  cases h : S.lst? k <;> simp only [ixV, h]
theorem cm_eq : cmV S .eq x y = eqV S x y := by simp only [cmV]
theorem cm_ne : cmV S .ne x y = (eqV S x y).map (!·) := by simp only [cmV]
theorem cm_lt : cmV S .lt (.int i) (.int j) = some (decide (i < j)) := by simp only [cmV, cmL]
theorem cm_le : cmV S .le (.int i) (.int j) = some (decide (i ≤ j)) := by simp only [cmV, cmI]
theorem cm_gt : cmV S .gt (.int i) (.int j) = some (decide (j < i)) := by simp only [cmV, cmI]
theorem cm_ge : cmV S .ge (.int i) (.int j) = some (decide (j ≤ i)) := by simp only [cmV, cmI]
theorem cm_isn : cmV S .isn x .non = some (decide (x = .non)) := by simp only [cmV, isV]
theorem cm_nisn : cmV S .nisn x .non = some (!decide (x = .non)) := by simp only [cmV, isV, Option.map]
theorem cm_isb {b c : Bool} : cmV S .isn (.bl b) (.bl c) = some (decide (b = c)) := by simp only [cmV, isV]
theorem cm_inn : cmV S .inn x y = inSeq S x y := by simp only [cmV]
theorem cm_nin : cmV S .nin x y = (inSeq S x y).map (!·) := by simp only [cmV]
theorem op_ad : opV S .add (.int i) (.int j) = some (.int (i + j)) := by simp only [opV]
theorem op_sb : opV S .sub (.int i) (.int j) = some (.int (i - j)) := by simp only [opV]
theorem op_ml : opV S .mul (.int i) (.int j) = if mulOk i j then some (.int (i * j)) else none := by simp only [opV]
theorem op_dv : opV S .fdiv (.int i) (.int j) = if divOk j then some (.int (i.fdiv j)) else none := by simp only [opV]
theorem op_md : opV S .mod (.int i) (.int j) = if j = 0 then none else some (.int (i.fmod j)) := by simp only [opV]
theorem op_pw : opV S .pow (.int i) (.int j) = if powOk i j then some (.int (i ^ j.toNat)) else none := by simp only [opV]
theorem op_sl : opV S .shl (.int i) (.int j) = if shlOk i j then some (.int (i * 2 ^ j.toNat)) else none := by simp only [opV]
theorem op_as {a b : Str} : opV S .add (.str a) (.str b) = if a.length + b.length ≤ lenMax then some (.str (a ++ b)) else none := by simp only [opV]
theorem op_at : opV S .add (.tup xs) (.tup ys) = if xs.length + ys.length ≤ lenMax then some (.tup (xs ++ ys)) else none := by simp only [opV]
theorem op_mt : opV S .mul (.tup xs) (.int j) = if !xs.isEmpty && decide (2 ≤ j) && decide (j ≤ 1000) && decide (xs.length ≤ 1000) then some (.tup (List.replicate j.toNat xs).flatten) else none := by simp only [opV]
theorem op_al : opV S .add (.lst xs) (.lst ys) = if xs.length + ys.length ≤ lenMax then some (.lst (xs ++ ys)) else none := by simp only [opV, lstOf]
theorem bi_abs : biV S .abs [.int i] = some (.int (if i < 0 then -i else i)) := by simp only [biV]
theorem bi_int : biV S .int [.int i] = some (.int i) := by simp only [biV]
theorem bi_intb {b : Bool} : biV S .int [.bl b] = some (.int (if b then 1 else 0)) := by simp only [biV]
theorem bi_ints {z : Str} : biV S .int [.str z] = if z.length ≤ 640 then (intText? z).map .int else none := by simp only [biV]
theorem bi_lent : biV S .len [.tup xs] = some (.int xs.length) := by simp only [biV]
theorem bi_lenl : biV S .len [.lst xs] = some (.int xs.length) := by simp only [biV, lstOf, Option.map]
theorem bi_lenr {k : Nat} : biV S .len [.ref k] = (S.lst? k).map fun ys => .int ys.length := by simp only [biV, lstOf]
theorem bi_lens {z : Str} : biV S .len [.str z] = if z.length ≤ lenMax then some (.int z.length) else none := by simp only [biV]
theorem bi_listt : biV S .list [.tup xs] = some (.lst xs) := by simp only [biV, seqOf, Option.map]
theorem bi_listl : biV S .list [.lst xs] = some (.lst xs) := by simp only [biV, seqOf, Option.map]
theorem bi_tupt : biV S .tuple [.tup xs] = some (.tup xs) := by simp only [biV, seqOf, Option.map]
theorem bi_tupl : biV S .tuple [.lst xs] = some (.tup xs) := by simp only [biV, seqOf, Option.map]
theorem bi_tupr {k : Nat} : biV S .tuple [.ref k] = (S.lst? k).map .tup := by simp only [biV, seqOf]
theorem bi_gcd : biV S .gcd [.int i, .int j] = some (.int ((Nat.gcd i.natAbs j.natAbs : Nat) : Int)) := by simp only [biV]
theorem bi_max : biV S .max2 [.int i, .int j] = some (.int (if j > i then j else i)) := by simp only [biV]
theorem bi_min : biV S .min2 [.int i, .int j] = some (.int (if j < i then j else i)) := by simp only [biV]
theorem bi_str : biV S .str [.int i] = if i.natAbs.log2 < 1920 then some (.str (toString i)) else none := by simp only [biV]
theorem bi_sum : biV S .sum [x] = ((seqOf S x).bind intsOf).map fun ns => .int ns.sum := by simp only [biV]
theorem bi_all : biV S .all [x] = ((lstOf S x).bind blsOf).map fun ns => .bl (ns.all id) := by simp only [biV]
theorem bi_any : biV S .any [x] = ((lstOf S x).bind blsOf).map fun ns => .bl (ns.any id) := by simp only [biV]
theorem tr_non : truV S .non = some false := by simp only [truV]
theorem tr_bl {b : Bool} : truV S (.bl b) = some b := by simp only [truV]
theorem tr_int : truV S (.int i) = some (i != 0) := by simp only [truV]
theorem tr_tup : truV S (.tup xs) = some (!xs.isEmpty) := by simp only [truV]
theorem tr_lst : truV S (.lst xs) = some (!xs.isEmpty) := by simp only [truV]
theorem ty_nt {b : Ty} : isTy .non b = some false := by simp only [isTy]
theorem ty_tt : isTy (.tup xs) .tup = some true := by simp only [isTy]
theorem ty_ti : isTy (.tup xs) .int = some false := by simp only [isTy]
theorem ty_ii : isTy (.int i) .int = some true := by simp only [isTy]
theorem ty_it : isTy (.int i) .tup = some false := by simp only [isTy]
theorem ty_is : isTy (.int i) .str = some false := by simp only [isTy]
theorem sl_tup {lo hi : Option Int} : slV S (.tup xs) lo hi = some (.tup (cut xs lo hi)) := by simp only [slV]
theorem sl_lst {lo hi : Option Int} : slV S (.lst xs) lo hi = some (.lst (cut xs lo hi)) := by simp only [slV]
theorem sq_tup : seqOf S (.tup xs) = some xs := by simp only [seqOf]
theorem sq_lst : seqOf S (.lst xs) = some xs := by simp only [seqOf]
theorem ls_lst : lstOf S (.lst xs) = some xs := by simp only [lstOf]
theorem th_lst : thaw (.lst xs) S = .ok (.ref S.len) (S.push (.lst xs)) := by simp only [thaw]
theorem wk_tup : walkV S (.tup xs) = some (xs, []) := by simp only [walkV]
theorem wk_lst : walkV S (.lst xs) = some (xs, []) := by simp only [walkV]
theorem opt_some {α : Type} {a : α} : opt (some a) S = .ok a S := by simp only [opt]
theorem eqV_non : eqV S .non .non = some true := by rw [eqV_std rfl rfl (by decide) (by decide)]; rfl
end
end MP
end
section
set_option Elab.async false
set_option linter.all false
set_option maxRecDepth 100000
/-! MPStr: short texts that are met (printed by a program) -/
namespace MP
open PySem
theorem eqV_str {S : Sto} {x y : Str} {c : Bool} (hx : shaped (.str x) = true) (hy : shaped (.str y) = true) (h : (PyData.str x).eqv (.str y) = c) : eqV S (.str x) (.str y) = some c := by
  unfold eqV
  simp only [toDS, PV.toD]
  rw [hx, hy, h]
  rfl
theorem es_num_num {S : Sto} : eqV S (.str "num") (.str "num") = some true := eqV_str (by decide +kernel) (by decide +kernel) (by decide +kernel)
theorem es_num_state {S : Sto} : eqV S (.str "num") (.str "state") = some false := eqV_str (by decide +kernel) (by decide +kernel) (by decide +kernel)
theorem es_num_const {S : Sto} : eqV S (.str "num") (.str "const") = some false := eqV_str (by decide +kernel) (by decide +kernel) (by decide +kernel)
theorem es_num_pow {S : Sto} : eqV S (.str "num") (.str "pow") = some false := eqV_str (by decide +kernel) (by decide +kernel) (by decide +kernel)
theorem es_num_add {S : Sto} : eqV S (.str "num") (.str "add") = some false := eqV_str (by decide +kernel) (by decide +kernel) (by decide +kernel)
theorem es_num_sub {S : Sto} : eqV S (.str "num") (.str "sub") = some false := eqV_str (by decide +kernel) (by decide +kernel) (by decide +kernel)
theorem es_num_mul {S : Sto} : eqV S (.str "num") (.str "mul") = some false := eqV_str (by decide +kernel) (by decide +kernel) (by decide +kernel)
theorem es_num_div {S : Sto} : eqV S (.str "num") (.str "div") = some false := eqV_str (by decide +kernel) (by decide +kernel) (by decide +kernel)
theorem es_state_num {S : Sto} : eqV S (.str "state") (.str "num") = some false := eqV_str (by decide +kernel) (by decide +kernel) (by decide +kernel)
theorem es_state_state {S : Sto} : eqV S (.str "state") (.str "state") = some true := eqV_str (by decide +kernel) (by decide +kernel) (by decide +kernel)
theorem es_state_const {S : Sto} : eqV S (.str "state") (.str "const") = some false := eqV_str (by decide +kernel) (by decide +kernel) (by decide +kernel)
theorem es_state_pow {S : Sto} : eqV S (.str "state") (.str "pow") = some false := eqV_str (by decide +kernel) (by decide +kernel) (by decide +kernel)
theorem es_state_add {S : Sto} : eqV S (.str "state") (.str "add") = some false := eqV_str (by decide +kernel) (by decide +kernel) (by decide +kernel)
theorem es_state_sub {S : Sto} : eqV S (.str "state") (.str "sub") = some false := eqV_str (by decide +kernel) (by decide +kernel) (by decide +kernel)
theorem es_state_mul {S : Sto} : eqV S (.str "state") (.str "mul") = some false := eqV_str (by decide +kernel) (by decide +kernel) (by decide +kernel)
theorem es_state_div {S : Sto} : eqV S (.str "state") (.str "div") = some false := eqV_str (by decide +kernel) (by decide +kernel) (by decide +kernel)
theorem es_const_num {S : Sto} : eqV S (.str "const") (.str "num") = some false := eqV_str (by decide +kernel) (by decide +kernel) (by decide +kernel)
theorem es_const_state {S : Sto} : eqV S (.str "const") (.str "state") = some false := eqV_str (by decide +kernel) (by decide +kernel) (by decide +kernel)
theorem es_const_const {S : Sto} : eqV S (.str "const") (.str "const") = some true := eqV_str (by decide +kernel) (by decide +kernel) (by decide +kernel)
theorem es_const_pow {S : Sto} : eqV S (.str "const") (.str "pow") = some false := eqV_str (by decide +kernel) (by decide +kernel) (by decide +kernel)
theorem es_const_add {S : Sto} : eqV S (.str "const") (.str "add") = some false := eqV_str (by decide +kernel) (by decide +kernel) (by decide +kernel)
theorem es_const_sub {S : Sto} : eqV S (.str "const") (.str "sub") = some false := eqV_str (by decide +kernel) (by decide +kernel) (by decide +kernel)
theorem es_const_mul {S : Sto} : eqV S (.str "const") (.str "mul") = some false := eqV_str (by decide +kernel) (by decide +kernel) (by decide +kernel)
theorem es_const_div {S : Sto} : eqV S (.str "const") (.str "div") = some false := eqV_str (by decide +kernel) (by decide +kernel) (by decide +kernel)
theorem es_pow_num {S : Sto} : eqV S (.str "pow") (.str "num") = some false := eqV_str (by decide +kernel) (by decide +kernel) (by decide +kernel)
theorem es_pow_state {S : Sto} : eqV S (.str "pow") (.str "state") = some false := eqV_str (by decide +kernel) (by decide +kernel) (by decide +kernel)
theorem es_pow_const {S : Sto} : eqV S (.str "pow") (.str "const") = some false := eqV_str (by decide +kernel) (by decide +kernel) (by decide +kernel)
theorem es_pow_pow {S : Sto} : eqV S (.str "pow") (.str "pow") = some true := eqV_str (by decide +kernel) (by decide +kernel) (by decide +kernel)
theorem es_pow_add {S : Sto} : eqV S (.str "pow") (.str "add") = some false := eqV_str (by decide +kernel) (by decide +kernel) (by decide +kernel)
theorem es_pow_sub {S : Sto} : eqV S (.str "pow") (.str "sub") = some false := eqV_str (by decide +kernel) (by decide +kernel) (by decide +kernel)
theorem es_pow_mul {S : Sto} : eqV S (.str "pow") (.str "mul") = some false := eqV_str (by decide +kernel) (by decide +kernel) (by decide +kernel)
theorem es_pow_div {S : Sto} : eqV S (.str "pow") (.str "div") = some false := eqV_str (by decide +kernel) (by decide +kernel) (by decide +kernel)
theorem es_add_num {S : Sto} : eqV S (.str "add") (.str "num") = some false := eqV_str (by decide +kernel) (by decide +kernel) (by decide +kernel)
theorem es_add_state {S : Sto} : eqV S (.str "add") (.str "state") = some false := eqV_str (by decide +kernel) (by decide +kernel) (by decide +kernel)
theorem es_add_const {S : Sto} : eqV S (.str "add") (.str "const") = some false := eqV_str (by decide +kernel) (by decide +kernel) (by decide +kernel)
theorem es_add_pow {S : Sto} : eqV S (.str "add") (.str "pow") = some false := eqV_str (by decide +kernel) (by decide +kernel) (by decide +kernel)
theorem es_add_add {S : Sto} : eqV S (.str "add") (.str "add") = some true := eqV_str (by decide +kernel) (by decide +kernel) (by decide +kernel)
theorem es_add_sub {S : Sto} : eqV S (.str "add") (.str "sub") = some false := eqV_str (by decide +kernel) (by decide +kernel) (by decide +kernel)
theorem es_add_mul {S : Sto} : eqV S (.str "add") (.str "mul") = some false := eqV_str (by decide +kernel) (by decide +kernel) (by decide +kernel)
theorem es_add_div {S : Sto} : eqV S (.str "add") (.str "div") = some false := eqV_str (by decide +kernel) (by decide +kernel) (by decide +kernel)
theorem es_sub_num {S : Sto} : eqV S (.str "sub") (.str "num") = some false := eqV_str (by decide +kernel) (by decide +kernel) (by decide +kernel)
theorem es_sub_state {S : Sto} : eqV S (.str "sub") (.str "state") = some false := eqV_str (by decide +kernel) (by decide +kernel) (by decide +kernel)
theorem es_sub_const {S : Sto} : eqV S (.str "sub") (.str "const") = some false := eqV_str (by decide +kernel) (by decide +kernel) (by decide +kernel)
theorem es_sub_pow {S : Sto} : eqV S (.str "sub") (.str "pow") = some false := eqV_str (by decide +kernel) (by decide +kernel) (by decide +kernel)
theorem es_sub_add {S : Sto} : eqV S (.str "sub") (.str "add") = some false := eqV_str (by decide +kernel) (by decide +kernel) (by decide +kernel)
theorem es_sub_sub {S : Sto} : eqV S (.str "sub") (.str "sub") = some true := eqV_str (by decide +kernel) (by decide +kernel) (by decide +kernel)
theorem es_sub_mul {S : Sto} : eqV S (.str "sub") (.str "mul") = some false := eqV_str (by decide +kernel) (by decide +kernel) (by decide +kernel)
theorem es_sub_div {S : Sto} : eqV S (.str "sub") (.str "div") = some false := eqV_str (by decide +kernel) (by decide +kernel) (by decide +kernel)
theorem es_mul_num {S : Sto} : eqV S (.str "mul") (.str "num") = some false := eqV_str (by decide +kernel) (by decide +kernel) (by decide +kernel)
theorem es_mul_state {S : Sto} : eqV S (.str "mul") (.str "state") = some false := eqV_str (by decide +kernel) (by decide +kernel) (by decide +kernel)
theorem es_mul_const {S : Sto} : eqV S (.str "mul") (.str "const") = some false := eqV_str (by decide +kernel) (by decide +kernel) (by decide +kernel)
theorem es_mul_pow {S : Sto} : eqV S (.str "mul") (.str "pow") = some false := eqV_str (by decide +kernel) (by decide +kernel) (by decide +kernel)
theorem es_mul_add {S : Sto} : eqV S (.str "mul") (.str "add") = some false := eqV_str (by decide +kernel) (by decide +kernel) (by decide +kernel)
theorem es_mul_sub {S : Sto} : eqV S (.str "mul") (.str "sub") = some false := eqV_str (by decide +kernel) (by decide +kernel) (by decide +kernel)
theorem es_mul_mul {S : Sto} : eqV S (.str "mul") (.str "mul") = some true := eqV_str (by decide +kernel) (by decide +kernel) (by decide +kernel)
theorem es_mul_div {S : Sto} : eqV S (.str "mul") (.str "div") = some false := eqV_str (by decide +kernel) (by decide +kernel) (by decide +kernel)
theorem es_div_num {S : Sto} : eqV S (.str "div") (.str "num") = some false := eqV_str (by decide +kernel) (by decide +kernel) (by decide +kernel)
theorem es_div_state {S : Sto} : eqV S (.str "div") (.str "state") = some false := eqV_str (by decide +kernel) (by decide +kernel) (by decide +kernel)
theorem es_div_const {S : Sto} : eqV S (.str "div") (.str "const") = some false := eqV_str (by decide +kernel) (by decide +kernel) (by decide +kernel)
theorem es_div_pow {S : Sto} : eqV S (.str "div") (.str "pow") = some false := eqV_str (by decide +kernel) (by decide +kernel) (by decide +kernel)
theorem es_div_add {S : Sto} : eqV S (.str "div") (.str "add") = some false := eqV_str (by decide +kernel) (by decide +kernel) (by decide +kernel)
theorem es_div_sub {S : Sto} : eqV S (.str "div") (.str "sub") = some false := eqV_str (by decide +kernel) (by decide +kernel) (by decide +kernel)
theorem es_div_mul {S : Sto} : eqV S (.str "div") (.str "mul") = some false := eqV_str (by decide +kernel) (by decide +kernel) (by decide +kernel)
theorem es_div_div {S : Sto} : eqV S (.str "div") (.str "div") = some true := eqV_str (by decide +kernel) (by decide +kernel) (by decide +kernel)
theorem in_tS {S : Sto} {x : Str} {ys : List PV} {c : Bool} (h : ((PV.str x).flat && ys.all PV.flat) = true) (e : (ys.any fun z => z.eqF (.str x)) = c) : inSeq S (.str x) (.tup ys) = some c := by
  unfold inSeq
  show (if ((PV.str x).flat && ys.all PV.flat) = true then some (ys.any fun z => z.eqF (.str x)) else inDeep S (.str x) (.tup ys)) = _
  rw [if_pos h, e]
theorem in_lS {S : Sto} {x : Str} {ys : List PV} {c : Bool} (h : ((PV.str x).flat && ys.all PV.flat) = true) (e : (ys.any fun z => z.eqF (.str x)) = c) : inSeq S (.str x) (.lst ys) = some c := by
  unfold inSeq
  show (if ((PV.str x).flat && ys.all PV.flat) = true then some (ys.any fun z => z.eqF (.str x)) else inDeep S (.str x) (.lst ys)) = _
  rw [if_pos h, e]
theorem ip_num {S : Sto} : inSeq S (.str "num") (.tup [.str "add", .str "sub", .str "mul", .str "div"]) = some false := in_tS rfl (by decide +kernel)
theorem il_num {S : Sto} : inSeq S (.str "num") (.lst [.str "num", .str "state", .str "const"]) = some true := in_lS rfl (by decide +kernel)
theorem it_num {S : Sto} : inSeq S (.str "num") (.tup [.str "num", .str "state", .str "const"]) = some true := in_tS rfl (by decide +kernel)
theorem ip_state {S : Sto} : inSeq S (.str "state") (.tup [.str "add", .str "sub", .str "mul", .str "div"]) = some false := in_tS rfl (by decide +kernel)
theorem il_state {S : Sto} : inSeq S (.str "state") (.lst [.str "num", .str "state", .str "const"]) = some true := in_lS rfl (by decide +kernel)
theorem it_state {S : Sto} : inSeq S (.str "state") (.tup [.str "num", .str "state", .str "const"]) = some true := in_tS rfl (by decide +kernel)
theorem ip_const {S : Sto} : inSeq S (.str "const") (.tup [.str "add", .str "sub", .str "mul", .str "div"]) = some false := in_tS rfl (by decide +kernel)
theorem il_const {S : Sto} : inSeq S (.str "const") (.lst [.str "num", .str "state", .str "const"]) = some true := in_lS rfl (by decide +kernel)
theorem it_const {S : Sto} : inSeq S (.str "const") (.tup [.str "num", .str "state", .str "const"]) = some true := in_tS rfl (by decide +kernel)
theorem ip_pow {S : Sto} : inSeq S (.str "pow") (.tup [.str "add", .str "sub", .str "mul", .str "div"]) = some false := in_tS rfl (by decide +kernel)
theorem il_pow {S : Sto} : inSeq S (.str "pow") (.lst [.str "num", .str "state", .str "const"]) = some false := in_lS rfl (by decide +kernel)
theorem it_pow {S : Sto} : inSeq S (.str "pow") (.tup [.str "num", .str "state", .str "const"]) = some false := in_tS rfl (by decide +kernel)
theorem ip_add {S : Sto} : inSeq S (.str "add") (.tup [.str "add", .str "sub", .str "mul", .str "div"]) = some true := in_tS rfl (by decide +kernel)
theorem il_add {S : Sto} : inSeq S (.str "add") (.lst [.str "num", .str "state", .str "const"]) = some false := in_lS rfl (by decide +kernel)
theorem it_add {S : Sto} : inSeq S (.str "add") (.tup [.str "num", .str "state", .str "const"]) = some false := in_tS rfl (by decide +kernel)
theorem ip_sub {S : Sto} : inSeq S (.str "sub") (.tup [.str "add", .str "sub", .str "mul", .str "div"]) = some true := in_tS rfl (by decide +kernel)
theorem il_sub {S : Sto} : inSeq S (.str "sub") (.lst [.str "num", .str "state", .str "const"]) = some false := in_lS rfl (by decide +kernel)
theorem it_sub {S : Sto} : inSeq S (.str "sub") (.tup [.str "num", .str "state", .str "const"]) = some false := in_tS rfl (by decide +kernel)
theorem ip_mul {S : Sto} : inSeq S (.str "mul") (.tup [.str "add", .str "sub", .str "mul", .str "div"]) = some true := in_tS rfl (by decide +kernel)
theorem il_mul {S : Sto} : inSeq S (.str "mul") (.lst [.str "num", .str "state", .str "const"]) = some false := in_lS rfl (by decide +kernel)
theorem it_mul {S : Sto} : inSeq S (.str "mul") (.tup [.str "num", .str "state", .str "const"]) = some false := in_tS rfl (by decide +kernel)
theorem ip_div {S : Sto} : inSeq S (.str "div") (.tup [.str "add", .str "sub", .str "mul", .str "div"]) = some true := in_tS rfl (by decide +kernel)
theorem il_div {S : Sto} : inSeq S (.str "div") (.lst [.str "num", .str "state", .str "const"]) = some false := in_lS rfl (by decide +kernel)
theorem it_div {S : Sto} : inSeq S (.str "div") (.tup [.str "num", .str "state", .str "const"]) = some false := in_tS rfl (by decide +kernel)
end MP
end
section
set_option Elab.async false
set_option linter.all false
set_option maxRecDepth 100000
/-! MPText: texts as lists of code points. -/
namespace MP
open PySem
def Tx (l : List Nat) : Str := ⟨l.toArray⟩
theorem Tx_len {l : List Nat} : (Tx l).length = l.length := by simp [Tx, Str.length]
theorem Tx_tl {l : List Nat} : (Tx l).cps.toList = l := rfl
theorem Tx_app {a b : List Nat} : Tx a ++ Tx b = Tx (a ++ b) := Str.ext' (Array.toList_inj.mp (by rw [show (Tx a ++ Tx b).cps = (Tx a).cps ++ (Tx b).cps from rfl, Array.toList_append] <;> rfl))
theorem Tx_inj {a b : List Nat} (h : Tx a = Tx b) : a = b := congrArg (fun x : Str => x.cps.toList) h
def okL (l : List Nat) : Prop := ∀ c ∈ l, c < 1114112
theorem okL.app {a b : List Nat} (h : okL a) (h' : okL b) : okL (a ++ b) := fun c m => (List.mem_append.mp m).elim (h c) (h' c)
theorem Tx_std {l : List Nat} (h : okL l) : (PV.str (Tx l)).std = true := by
  show PyData.strOk (Tx l) = true
  unfold PyData.strOk
  rw [← Array.all_toList, List.all_eq_true]
  exact fun c m => decide_eq_true (h c m)
section
variable {S : Sto} {l m : List Nat} {i : Int}
theorem eq_tx (hl : okL l) (hm : okL m) : eqV S (.str (Tx l)) (.str (Tx m)) = some (decide (l = m)) := by
  rw [eqV_std (Tx_std hl) (Tx_std hm) (Nat.zero_le _) (Nat.zero_le _)]
  congr 1
  by_cases h : l = m
  · subst h; simp
  · rw [decide_eq_false h, decide_eq_false]
    intro e
    exact h (Tx_inj (PV.str.inj e))
theorem ix_tx (h : l.length ≤ lenMax) : ixV S (.str (Tx l)) (.int i) = (itemAt l i).map fun c => .str (Tx [c]) := by
  simp only [ixV]
  rw [Tx_len, if_pos h, Tx_tl]
  rfl
theorem sl_tx {lo hi : Option Int} (h : l.length ≤ lenMax) : slV S (.str (Tx l)) lo hi = some (.str (Tx (cut l lo hi))) := by
  simp only [slV]
  rw [Tx_len, if_pos h, Tx_tl]
  rfl
theorem ad_tx (h : l.length + m.length ≤ lenMax) : opV S .add (.str (Tx l)) (.str (Tx m)) = some (.str (Tx (l ++ m))) := by
  rw [op_as, Tx_len, Tx_len, if_pos h, Tx_app]
theorem len_tx (h : l.length ≤ lenMax) : biV S .len [.str (Tx l)] = some (.int l.length) := by
  rw [bi_lens, Tx_len, if_pos h]
theorem int_tx (h : NumText.AllDigits l) (h1 : l ≠ []) (h2 : l.length ≤ 640) : biV S .int [.str (Tx l)] = some (.int ((NumText.digitsVal l : Nat) : Int)) := by
  rw [bi_ints, Tx_len, if_pos h2, intText_digits (x := Tx l) h h1 (by rw [Tx_len]; omega)]
  rfl
/-- the text of a whole number -/
def intL (a : Int) : List Nat := if a < 0 then 45 :: TL.numL a.natAbs else TL.numL a.natAbs
theorem Tx_int (a : Int) : Str.ofString (toString a) = Tx (intL a) := by
  refine TL.ext_tl ?_
  show TL.tl _ = intL a
  unfold intL
  match a with
  | .ofNat n =>
    rw [if_neg (by show ¬ (n : Int) < 0; omega)]
    exact TL.tl_num n
  | .negSucc n =>
    rw [if_pos (by omega)]
    show TL.tl (Str.ofString ("-" ++ Nat.repr (n + 1))) = _
    rw [TL.tl_ofString, String.toList_append, List.map_append]
    show 45 :: ((Nat.repr (n + 1)).toList.map Char.toNat) = 45 :: TL.numL (n + 1)
    rw [Nat.toList_repr]
    rfl
theorem str_tx {a : Int} (h : a.natAbs.log2 < 1920) : biV S .str [.int a] = some (.str (Tx (intL a))) := by
  rw [bi_str, if_pos h, Tx_int]
theorem dig_in {c : Nat} : inSeq S (.str (Tx [c])) (.str (Tx l)) = some (decide (c ∈ l)) := by
  unfold inSeq
  simp only [Tx_tl]
  congr
end
/-- a digit -/
def dg (c : Nat) : Bool := decide (48 ≤ c) && decide (c ≤ 57)
def digL : List Nat := [48, 49, 50, 51, 52, 53, 54, 55, 56, 57]
theorem dig_mem {c : Nat} : decide (c ∈ digL) = dg c := by
  unfold dg digL
  by_cases h : c ∈ [48, 49, 50, 51, 52, 53, 54, 55, 56, 57]
  · rw [decide_eq_true h]
    simp only [List.mem_cons, List.not_mem_nil, or_false] at h
    rw [decide_eq_true (by omega), decide_eq_true (by omega)]
    rfl
  · rw [decide_eq_false h]
    simp only [List.mem_cons, List.not_mem_nil, or_false] at h
    by_cases h1 : 48 ≤ c
    · rw [decide_eq_true h1, decide_eq_false (by omega)]
      rfl
    · rw [decide_eq_false h1]
      rfl
theorem lit_digits : ("0123456789" : Str) = Tx digL := by decide +kernel
theorem lit_minus : ("-" : Str) = Tx [45] := by decide +kernel
theorem lit_slash : ("/" : Str) = Tx [47] := by decide +kernel
theorem lit_zero : ("0" : Str) = Tx [48] := by decide +kernel
theorem lit_empty : ("" : Str) = Tx [] := by decide +kernel
/-- where the digits from k on end -/
def dRun (l : List Nat) (k : Nat) : Nat := k + ((l.drop k).takeWhile dg).length
theorem dRun_go {l : List Nat} {k c : Nat} (h : l[k]? = some c) (hd : dg c = true) : dRun l k = dRun l (k + 1) := by
  obtain ⟨hk, e⟩ := List.getElem?_eq_some_iff.mp h
  unfold dRun
  rw [List.drop_eq_getElem_cons hk, e, List.takeWhile_cons, if_pos hd, List.length_cons]
  omega
theorem dRun_end {l : List Nat} {k : Nat} (h : ∀ c, l[k]? = some c → dg c = false) : dRun l k = k := by
  unfold dRun
  by_cases hk : k < l.length
  · rw [List.drop_eq_getElem_cons hk, List.takeWhile_cons, if_neg (by rw [h _ (List.getElem?_eq_getElem hk)]; exact Bool.false_ne_true)]
    rfl
  · rw [List.drop_eq_nil_of_le (by omega)]
    rfl
theorem dRun_ge {l : List Nat} {k : Nat} : k ≤ dRun l k := Nat.le_add_right _ _
theorem dRun_le {l : List Nat} {k : Nat} (h : k ≤ l.length) : dRun l k ≤ l.length := by
  unfold dRun
  have z := NumText.len_takeWhile dg (l.drop k)
  rw [List.length_drop] at z
  omega
theorem edge_nat {n d k : Nat} (h : k ≤ n) : edge n d (some (k : Int)) = k := by
  show (if (k : Int) < 0 then ((k : Int) + (n : Int)).toNat else min (k : Int).toNat n) = k
  rw [if_neg (by omega)]
  omega
theorem cut_nat {α : Type} {l : List α} {i j : Nat} (hi : i ≤ l.length) (hj : j ≤ l.length) : cut l (some (i : Int)) (some (j : Int)) = (l.drop i).take (j - i) := by
  unfold cut
  rw [edge_nat hi, edge_nat hj]
theorem takeWhile_take {p : Nat → Bool} : ∀ l : List Nat, l.take (l.takeWhile p).length = l.takeWhile p
  | [] => rfl
  | c :: l => by
    rw [List.takeWhile_cons]
    split
    · rw [List.length_cons, List.take_succ_cons, takeWhile_take l]
    · rfl
/-- the digits from k on -/
theorem dRun_cut {l : List Nat} {k : Nat} (h : k ≤ l.length) : cut l (some (k : Int)) (some (dRun l k : Int)) = (l.drop k).takeWhile dg := by
  rw [cut_nat h (dRun_le h)]
  unfold dRun
  rw [Nat.add_sub_cancel_left, takeWhile_take]
theorem takeWhile_all {p : Nat → Bool} : ∀ (l : List Nat) (c : Nat), c ∈ l.takeWhile p → p c = true
  | [], c, h => by simp at h
  | x :: l, c, h => by
    rw [List.takeWhile_cons] at h
    split at h
    · rename_i hx
      rcases List.mem_cons.mp h with rfl | h
      · exact hx
      · exact takeWhile_all l c h
    · simp at h
theorem dRun_digits (l : List Nat) (k : Nat) : NumText.AllDigits ((l.drop k).takeWhile dg) := fun c h => by
  have z := takeWhile_all _ c h
  unfold dg at z
  rw [Bool.and_eq_true, decide_eq_true_eq, decide_eq_true_eq] at z
  exact z
/-- where a number of the grammar ends -/
def dEnd (l : List Nat) (k : Nat) : Option Nat := if dRun l k = k ∨ (l[k]? = some 48 ∧ k + 1 < dRun l k) then none else some (dRun l k)
theorem dRun_mid {l : List Nat} {k : Nat} : ∀ i, k + i ≤ dRun l k → dRun l (k + i) = dRun l k
  | 0, _ => rfl
  | i + 1, h => by
    have ih := dRun_mid (l := l) (k := k) i (by omega)
    rw [← ih] at h ⊢
    by_cases z : ∀ c, l[k + i]? = some c → dg c = false
    · have e := dRun_end z
      omega
    · have z2 : ∃ c, l[k + i]? = some c ∧ dg c = true := by
        apply Classical.byContradiction
        intro n
        exact z fun c hc => by
          cases hd : dg c with
          | false => rfl
          | true => exact absurd ⟨c, hc, hd⟩ n
      obtain ⟨c, hc, hd⟩ := z2
      exact (dRun_go hc hd).symm
theorem dRun_in {l : List Nat} {k j : Nat} (h : k ≤ j) (h' : j < dRun l k) : ∃ c, l[j]? = some c ∧ dg c = true := by
  obtain ⟨i, rfl⟩ := Nat.le.dest h
  have e := dRun_mid (l := l) (k := k) i (by omega)
  apply Classical.byContradiction
  intro n
  have z := dRun_end (l := l) (k := k + i) fun c hc => by
    cases hd : dg c with
    | false => rfl
    | true => exact absurd ⟨c, hc, hd⟩ n
  omega
theorem dRun_out {l : List Nat} {k c : Nat} (h : l[dRun l k]? = some c) : dg c = false := by
  cases hd : dg c with
  | false => rfl
  | true =>
    have e := dRun_mid (l := l) (k := k) ((l.drop k).takeWhile dg).length (by unfold dRun; omega)
    have g := dRun_go h hd
    have z := dRun_ge (l := l) (k := dRun l k + 1)
    have e : dRun l (dRun l k) = dRun l k := e
    omega
theorem while_go {test : Env → Sto → R Bool} {body : Env → Sto → RS} {S : Sto} {mk : Nat → Env} {k e : Nat} (step : ∀ j, k ≤ j → j < e → test (mk j) S = .ok true S ∧ body (mk j) S = .next (mk (j + 1)) S) (stop : test (mk e) S = .ok false S) : ∀ (n j : Nat), k ≤ j → j ≤ e → e - j < n → whileLoop test body n (mk j) S = .next (mk e) S
  | 0, _, _, _, h => absurd h (by omega)
  | n + 1, j, hk, hj, hn => by
    by_cases h : j = e
    · subst h
      rw [whileLoop, stop]
      simp only [R.st]
    · obtain ⟨h1, h2⟩ := step j hk (by omega)
      rw [whileLoop, h1]
      simp only [R.st, h2]
      exact while_go step stop n (j + 1) (by omega) (by omega) (by omega)
theorem fuel_big {n : Nat} (h : n ≤ 1000000) : n < fuel := Nat.lt_of_le_of_lt h (by decide)
theorem item_nat {α : Type} {l : List α} {k : Nat} : itemAt l (k : Int) = l[k]? := by
  unfold itemAt placeOf
  by_cases h : k < l.length
  · simp [h]
  · simp [h]
end MP
end
section
set_option Elab.async false
set_option linter.all false
set_option maxRecDepth 100000
set_option maxHeartbeats 4000000
/-! the defs of the text as MP has them (printed by wip/gen.py) -/
namespace K02
open PySem PySem.Spec PyProof.Rows L2 MP
def top (i : Nat) : Stmt := PySem.Challenge.pw_motionsheld_k02_fraction_texts.main.body.getD i (.Pass ⟨0, 0, 0, 0⟩)
def st_make_0 : MP.St := .ifs (.cmp .eq (.var 1) (.cst (.int 0))) (.cons (.raise 0 .nil) .nil) .nil
def st_make_1 : MP.St := .ifs (.cmp .lt (.var 1) (.cst (.int 0))) (.cons (.asg (.of (.name 0)) (.neg (.var 0)))
  (.cons (.asg (.of (.name 1)) (.neg (.var 1))) .nil)) .nil
def st_make_2 : MP.St := .asg (.of (.name 2)) (.bi .gcd (.cons (.var 0) (.cons (.var 1) .nil)))
def st_make_3 : MP.St := .ret (.tup (.cons (.bin .fdiv (.var 0) (.var 2)) (.cons (.bin .fdiv (.var 1) (.var 2)) .nil)))
def b_make : Ss := .cons st_make_0 (.cons st_make_1 (.cons st_make_2 (.cons st_make_3 .nil)))
def st_write_fraction_0 : MP.St := .ifs (.cmp .eq (.ix (.var 0) (.cst (.int 1))) (.cst (.int 1))) (.cons (.ret (.bi .str (.cons (.ix (.var 0) (.cst (.int 0))) .nil))) .nil) .nil
def st_write_fraction_1 : MP.St := .ret (.fstr (.cons (.ix (.var 0) (.cst (.int 0))) (.cons (.cst (.str "/")) (.cons (.ix (.var 0) (.cst (.int 1))) .nil))))
def b_write_fraction : Ss := .cons st_write_fraction_0 (.cons st_write_fraction_1 .nil)
def st__digits_end_0 : MP.St := .asg (.of (.name 2)) (.var 1)
def bk__digits_end_0 : MP.Ss := .cons (.aug 2 .add (.cst (.int 1))) .nil
def st__digits_end_1 : MP.St := .whiles (.and (.cmp .lt (.var 2) (.bi .len (.cons (.var 0) .nil))) (.cmp .inn (.ix (.var 0) (.var 2)) (.cst (.str "0123456789")))) bk__digits_end_0
def st__digits_end_2 : MP.St := .ifs (.cmp .eq (.var 2) (.var 1)) (.cons (.raise 1 (.cons (.var 1) .nil)) .nil) .nil
def st__digits_end_3 : MP.St := .ifs (.and (.cmp .eq (.ix (.var 0) (.var 1)) (.cst (.str "0"))) (.cmp .gt (.var 2) (.bin .add (.var 1) (.cst (.int 1))))) (.cons (.raise 1 (.cons (.var 1) .nil)) .nil) .nil
def st__digits_end_4 : MP.St := .ret (.var 2)
def b__digits_end : Ss := .cons st__digits_end_0 (.cons st__digits_end_1 (.cons st__digits_end_2 (.cons st__digits_end_3 (.cons st__digits_end_4 .nil))))
def st_read_fraction_0 : MP.St := .asg (.of (.name 1)) (.ife (.cmp .eq (.slc (.var 0) .none (.some (.cst (.int 1)))) (.cst (.str "-"))) (.cst (.int 1)) (.cst (.int 0)))
def st_read_fraction_1 : MP.St := .asg (.of (.name 2)) (.call 2 (.cons (.var 0) (.cons (.var 1) .nil)))
def st_read_fraction_2 : MP.St := .asg (.of (.name 3)) (.bi .int (.cons (.slc (.var 0) (.some (.var 1)) (.some (.var 2))) .nil))
def st_read_fraction_3 : MP.St := .asg (.of (.name 4)) (.cst (.int 1))
def st_read_fraction_4 : MP.St := .ifs (.and (.cmp .lt (.var 2) (.bi .len (.cons (.var 0) .nil))) (.cmp .eq (.ix (.var 0) (.var 2)) (.cst (.str "/")))) (.cons (.asg (.of (.name 5)) (.call 2 (.cons (.var 0) (.cons (.bin .add (.var 2) (.cst (.int 1))) .nil))))
  (.cons (.asg (.of (.name 4)) (.bi .int (.cons (.slc (.var 0) (.some (.bin .add (.var 2) (.cst (.int 1)))) (.some (.var 5))) .nil)))
  (.cons (.ifs (.cmp .eq (.var 4) (.cst (.int 0))) (.cons (.raise 1 (.cons (.bin .add (.var 2) (.cst (.int 1))) .nil)) .nil) .nil)
  (.cons (.asg (.of (.name 2)) (.var 5)) .nil)))) .nil
def st_read_fraction_5 : MP.St := .ifs (.cmp .lt (.var 2) (.bi .len (.cons (.var 0) .nil))) (.cons (.raise 1 (.cons (.var 2) .nil)) .nil) .nil
def st_read_fraction_6 : MP.St := .ret (.call 0 (.cons (.ife (.var 1) (.neg (.var 3)) (.var 3)) (.cons (.var 4) .nil)))
def b_read_fraction : Ss := .cons st_read_fraction_0 (.cons st_read_fraction_1 (.cons st_read_fraction_2 (.cons st_read_fraction_3 (.cons st_read_fraction_4 (.cons st_read_fraction_5 (.cons st_read_fraction_6 .nil))))))
def st__law_mix_0 : MP.St := .asg (.of (.name 1)) (.bin .mod (.bi .int (.cons (.var 0) .nil)) (.cst (.int 2147483647)))
def st__law_mix_1 : MP.St := .asg (.of (.name 1)) (.bin .mod (.bi .int (.cons (.bin .add (.bin .mul (.var 1) (.cst (.int 48271))) (.cst (.int 11))) .nil)) (.cst (.int 2147483647)))
def st__law_mix_2 : MP.St := .ret (.bin .mod (.bi .int (.cons (.bin .add (.bin .mul (.var 1) (.cst (.int 69621))) (.cst (.int 5))) .nil)) (.cst (.int 2147483629)))
def b__law_mix : Ss := .cons st__law_mix_0 (.cons st__law_mix_1 (.cons st__law_mix_2 .nil))
def st__law_number_0 : MP.St := .ifs (.cmp .ge (.var 0) (.bin .pow (.cst (.int 10)) (.cst (.int 18)))) (.cons (.ret (.var 0)) .nil) .nil
def st__law_number_1 : MP.St := .asg (.of (.name 1)) (.call 4 (.cons (.var 0) .nil))
def st__law_number_2 : MP.St := .ret (.bin .add (.bin .mul (.var 1) (.cst (.int 2147483629))) (.call 4 (.cons (.bin .add (.var 1) (.var 0)) .nil)))
def b__law_number : Ss := .cons st__law_number_0 (.cons st__law_number_1 (.cons st__law_number_2 .nil))
def st__law_state_0 : MP.St := .ret (.new (.lst (.cons (.cst (.int 0)) (.cons (.bi .list (.cons (.var 0) .nil)) (.cons (.cst (.int 0)) (.cons (.bin .add (.cst (.int 1)) (.bi .len (.cons (.var 0) .nil))) .nil))))))
def b__law_state : Ss := .cons st__law_state_0 .nil
def st__law_draw_0 : MP.St := .ifs (.and (.cmp .lt (.ix (.var 0) (.cst (.int 0))) (.var 1)) (.cmp .lt (.ix (.var 0) (.cst (.int 2))) (.bi .len (.cons (.ix (.var 0) (.cst (.int 1))) .nil)))) (.cons (.asg (.sub (.var 0) (.cst (.int 0))) (.call 5 (.cons (.ix (.ix (.var 0) (.cst (.int 1))) (.ix (.var 0) (.cst (.int 2)))) .nil)))
  (.cons (.asg (.sub (.var 0) (.cst (.int 2))) (.bin .add (.ix (.var 0) (.cst (.int 2))) (.cst (.int 1)))) .nil)) .nil
def st__law_draw_1 : MP.St := .ifs (.cmp .eq (.ix (.var 0) (.cst (.int 0))) (.cst (.int 0))) (.cons (.asg (.sub (.var 0) (.cst (.int 3))) (.bin .mod (.bi .int (.cons (.bin .add (.bin .mul (.ix (.var 0) (.cst (.int 3))) (.cst (.int 48271))) (.cst (.int 7))) .nil)) (.cst (.int 2147483647))))
  (.cons (.ret (.bin .mod (.bi .int (.cons (.bin .fdiv (.ix (.var 0) (.cst (.int 3))) (.cst (.int 11))) .nil)) (.var 1))) .nil)) .nil
def st__law_draw_2 : MP.St := .asg (.of (.name 2)) (.bin .mod (.bi .int (.cons (.ix (.var 0) (.cst (.int 0))) .nil)) (.var 1))
def st__law_draw_3 : MP.St := .asg (.sub (.var 0) (.cst (.int 0))) (.bin .fdiv (.ix (.var 0) (.cst (.int 0))) (.var 1))
def st__law_draw_4 : MP.St := .ret (.var 2)
def b__law_draw : Ss := .cons st__law_draw_0 (.cons st__law_draw_1 (.cons st__law_draw_2 (.cons st__law_draw_3 (.cons st__law_draw_4 .nil))))
def st__law_digits_0 : MP.St := .asg (.of (.name 2)) (.var 1)
def bk__law_digits_0 : MP.Ss := .cons (.ifs (.and (.cmp .lt (.var 2) (.bi .len (.cons (.var 0) .nil))) (.cmp .inn (.ix (.var 0) (.var 2)) (.cst (.str "0123456789")))) (.cons (.asg (.of (.name 2)) (.bin .add (.var 2) (.cst (.int 1)))) .nil) .nil) .nil
def st__law_digits_1 : MP.St := .fors (.name 3) (.rng1 (.cst (.int 40))) bk__law_digits_0
def st__law_digits_2 : MP.St := .ifs (.or (.cmp .eq (.var 2) (.var 1)) (.and (.cmp .eq (.ix (.var 0) (.var 1)) (.cst (.str "0"))) (.cmp .gt (.var 2) (.bin .add (.var 1) (.cst (.int 1)))))) (.cons (.ret (.neg (.cst (.int 1)))) .nil) .nil
def st__law_digits_3 : MP.St := .ret (.var 2)
def b__law_digits : Ss := .cons st__law_digits_0 (.cons st__law_digits_1 (.cons st__law_digits_2 (.cons st__law_digits_3 .nil)))
def st__law_due_0 : MP.St := .asg (.of (.name 1)) (.ife (.and (.cmp .gt (.bi .len (.cons (.var 0) .nil)) (.cst (.int 0))) (.cmp .eq (.ix (.var 0) (.cst (.int 0))) (.cst (.str "-")))) (.cst (.int 1)) (.cst (.int 0)))
def st__law_due_1 : MP.St := .asg (.of (.name 2)) (.call 8 (.cons (.var 0) (.cons (.var 1) .nil)))
def st__law_due_2 : MP.St := .ifs (.cmp .lt (.var 2) (.cst (.int 0))) (.cons (.ret (.tup (.cons (.cst (.str "wrong")) (.cons (.var 1) .nil)))) .nil) .nil
def st__law_due_3 : MP.St := .asg (.of (.name 3)) (.bi .int (.cons (.slc (.var 0) (.some (.var 1)) (.some (.var 2))) .nil))
def st__law_due_4 : MP.St := .asg (.of (.name 4)) (.cst (.int 1))
def st__law_due_5 : MP.St := .ifs (.and (.cmp .lt (.var 2) (.bi .len (.cons (.var 0) .nil))) (.cmp .eq (.ix (.var 0) (.var 2)) (.cst (.str "/")))) (.cons (.asg (.of (.name 5)) (.call 8 (.cons (.var 0) (.cons (.bin .add (.var 2) (.cst (.int 1))) .nil))))
  (.cons (.ifs (.or (.cmp .lt (.var 5) (.cst (.int 0))) (.cmp .eq (.bi .int (.cons (.slc (.var 0) (.some (.bin .add (.var 2) (.cst (.int 1)))) (.some (.var 5))) .nil)) (.cst (.int 0)))) (.cons (.ret (.tup (.cons (.cst (.str "wrong")) (.cons (.bin .add (.var 2) (.cst (.int 1))) .nil)))) .nil) .nil)
  (.cons (.asg (.of (.name 4)) (.bi .int (.cons (.slc (.var 0) (.some (.bin .add (.var 2) (.cst (.int 1)))) (.some (.var 5))) .nil)))
  (.cons (.asg (.of (.name 2)) (.var 5)) .nil)))) .nil
def st__law_due_6 : MP.St := .ifs (.cmp .lt (.var 2) (.bi .len (.cons (.var 0) .nil))) (.cons (.ret (.tup (.cons (.cst (.str "wrong")) (.cons (.var 2) .nil)))) .nil) .nil
def st__law_due_7 : MP.St := .ret (.tup (.cons (.cst (.str "right")) (.cons (.call 0 (.cons (.ife (.cmp .eq (.var 1) (.cst (.int 1))) (.bin .sub (.cst (.int 0)) (.var 3)) (.var 3)) (.cons (.var 4) .nil))) .nil)))
def b__law_due : Ss := .cons st__law_due_0 (.cons st__law_due_1 (.cons st__law_due_2 (.cons st__law_due_3 (.cons st__law_due_4 (.cons st__law_due_5 (.cons st__law_due_6 (.cons st__law_due_7 .nil)))))))
def bk__law_read_0 : MP.Ss := .cons (.ret (.tup (.cons (.cst (.str "right")) (.cons (.call 3 (.cons (.var 0) .nil)) .nil)))) .nil
def bk__law_read_1 : MP.Ss := .cons (.ifs (.not (.eisi 1)) (.cons (.ret (.tup (.cons (.cst (.str "other")) (.cons (.cst (.int 0)) .nil)))) .nil) .nil)
  (.cons (.ret (.tup (.cons (.cst (.str "wrong")) (.cons (.eat 1 0) .nil)))) .nil)
def st__law_read_0 : MP.St := .tryo bk__law_read_0 1 (some 1) bk__law_read_1
def b__law_read : Ss := .cons st__law_read_0 .nil
def st__law_changed_0 : MP.St := .asg (.of (.name 2)) (.cst (.str "0123456789-/ +.a"))
def st__law_changed_1 : MP.St := .asg (.of (.name 3)) (.call 7 (.cons (.var 0) (.cons (.bin .add (.bi .len (.cons (.var 1) .nil)) (.cst (.int 1))) .nil)))
def st__law_changed_2 : MP.St := .asg (.of (.name 4)) (.ix (.var 2) (.call 7 (.cons (.var 0) (.cons (.cst (.int 16)) .nil))))
def st__law_changed_3 : MP.St := .asg (.of (.name 5)) (.call 7 (.cons (.var 0) (.cons (.cst (.int 3)) .nil)))
def st__law_changed_4 : MP.St := .ifs (.cmp .eq (.var 5) (.cst (.int 0))) (.cons (.ret (.bin .add (.bin .add (.slc (.var 1) .none (.some (.var 3))) (.var 4)) (.slc (.var 1) (.some (.var 3)) .none))) .nil) .nil
def st__law_changed_5 : MP.St := .ifs (.cmp .eq (.var 5) (.cst (.int 1))) (.cons (.ret (.bin .add (.slc (.var 1) .none (.some (.var 3))) (.slc (.var 1) (.some (.bin .add (.var 3) (.cst (.int 1)))) .none))) .nil) .nil
def st__law_changed_6 : MP.St := .ret (.bin .add (.bin .add (.slc (.var 1) .none (.some (.var 3))) (.var 4)) (.slc (.var 1) (.some (.bin .add (.var 3) (.cst (.int 1)))) .none))
def b__law_changed : Ss := .cons st__law_changed_0 (.cons st__law_changed_1 (.cons st__law_changed_2 (.cons st__law_changed_3 (.cons st__law_changed_4 (.cons st__law_changed_5 (.cons st__law_changed_6 .nil))))))
def st_law_0 : MP.St := .asg (.of (.name 1)) (.call 6 (.cons (.var 0) .nil))
def st_law_1 : MP.St := .asg (.of (.name 2)) (.ix (.lst (.cons (.cst (.int 10)) (.cons (.cst (.int 1000)) (.cons (.bin .pow (.cst (.int 10)) (.cst (.int 12))) .nil)))) (.call 7 (.cons (.var 1) (.cons (.cst (.int 3)) .nil))))
def st_law_2 : MP.St := .asg (.of (.name 3)) (.call 7 (.cons (.var 1) (.cons (.var 2) .nil)))
def st_law_3 : MP.St := .asg (.of (.name 4)) (.bin .add (.cst (.int 1)) (.call 7 (.cons (.var 1) (.cons (.bin .sub (.var 2) (.cst (.int 1))) .nil))))
def st_law_4 : MP.St := .asg (.of (.name 5)) (.call 0 (.cons (.ife (.cmp .eq (.call 7 (.cons (.var 1) (.cons (.cst (.int 2)) .nil))) (.cst (.int 1))) (.bin .sub (.cst (.int 0)) (.var 3)) (.var 3)) (.cons (.var 4) .nil)))
def st_law_5 : MP.St := .asg (.of (.name 6)) (.ife (.cmp .eq (.ix (.var 5) (.cst (.int 1))) (.cst (.int 1))) (.bi .str (.cons (.ix (.var 5) (.cst (.int 0))) .nil)) (.bin .add (.bin .add (.bi .str (.cons (.ix (.var 5) (.cst (.int 0))) .nil)) (.cst (.str "/"))) (.bi .str (.cons (.ix (.var 5) (.cst (.int 1))) .nil))))
def st_law_6 : MP.St := .ifs (.or (.cmp .ne (.call 1 (.cons (.var 5) .nil)) (.var 6)) (.cmp .ne (.call 3 (.cons (.var 6) .nil)) (.var 5))) (.cons (.ret (.cst (.bl false))) .nil) .nil
def st_law_7 : MP.St := .asg (.of (.name 7)) (.bin .add (.bin .add (.bi .str (.cons (.var 3) .nil)) (.cst (.str "/"))) (.bi .str (.cons (.var 4) .nil)))
def bk_law_0 : MP.Ss := .cons (.ifs (.cmp .ne (.call 10 (.cons (.var 7) .nil)) (.call 9 (.cons (.var 7) .nil))) (.cons (.ret (.cst (.bl false))) .nil) .nil)
  (.cons (.asg (.of (.name 7)) (.call 11 (.cons (.var 1) (.cons (.var 7) .nil)))) .nil)
def st_law_8 : MP.St := .fors (.name 8) (.rng1 (.cst (.int 3))) bk_law_0
def st_law_9 : MP.St := .ret (.and (.cmp .eq (.call 10 (.cons (.cst (.str "")) .nil)) (.tup (.cons (.cst (.str "wrong")) (.cons (.cst (.int 0)) .nil)))) (.and (.cmp .eq (.call 10 (.cons (.cst (.str "-")) .nil)) (.tup (.cons (.cst (.str "wrong")) (.cons (.cst (.int 1)) .nil)))) (.cmp .eq (.call 10 (.cons (.var 7) .nil)) (.call 9 (.cons (.var 7) .nil)))))
def b_law : Ss := .cons st_law_0 (.cons st_law_1 (.cons st_law_2 (.cons st_law_3 (.cons st_law_4 (.cons st_law_5 (.cons st_law_6 (.cons st_law_7 (.cons st_law_8 (.cons st_law_9 .nil)))))))))
abbrev n_make : Nat := 0
abbrev n_write_fraction : Nat := 1
abbrev n__digits_end : Nat := 2
abbrev n_read_fraction : Nat := 3
abbrev n__law_mix : Nat := 4
abbrev n__law_number : Nat := 5
abbrev n__law_state : Nat := 6
abbrev n__law_draw : Nat := 7
abbrev n__law_digits : Nat := 8
abbrev n__law_due : Nat := 9
abbrev n__law_read : Nat := 10
abbrev n__law_changed : Nat := 11
abbrev n_law : Nat := 12
abbrev x_Zero : Nat := 0
abbrev x_Unread : Nat := 1
def t_make : DefT := ⟨"make", top 6, [.ofString "top", .ofString "bottom", .ofString "common"], [.ofString "top", .ofString "bottom"], ⟨2, 3, b_make⟩⟩
def t_write_fraction : DefT := ⟨"write_fraction", top 7, [.ofString "a"], [.ofString "a"], ⟨1, 1, b_write_fraction⟩⟩
def t__digits_end : DefT := ⟨"_digits_end", top 8, [.ofString "text", .ofString "start", .ofString "end"], [.ofString "text", .ofString "start"], ⟨2, 3, b__digits_end⟩⟩
def t_read_fraction : DefT := ⟨"read_fraction", top 9, [.ofString "text", .ofString "start", .ofString "end", .ofString "top", .ofString "bottom", .ofString "stop"], [.ofString "text"], ⟨1, 6, b_read_fraction⟩⟩
def t__law_mix : DefT := ⟨"_law_mix", top 11, [.ofString "cell", .ofString "number"], [.ofString "cell"], ⟨1, 2, b__law_mix⟩⟩
def t__law_number : DefT := ⟨"_law_number", top 12, [.ofString "cell", .ofString "first"], [.ofString "cell"], ⟨1, 2, b__law_number⟩⟩
def t__law_state : DefT := ⟨"_law_state", top 13, [.ofString "script"], [.ofString "script"], ⟨1, 1, b__law_state⟩⟩
def t__law_draw : DefT := ⟨"_law_draw", top 14, [.ofString "state", .ofString "many", .ofString "digit"], [.ofString "state", .ofString "many"], ⟨2, 3, b__law_draw⟩⟩
def t__law_digits : DefT := ⟨"_law_digits", top 15, [.ofString "text", .ofString "start", .ofString "end", .ofString "k"], [.ofString "text", .ofString "start"], ⟨2, 4, b__law_digits⟩⟩
def t__law_due : DefT := ⟨"_law_due", top 16, [.ofString "text", .ofString "start", .ofString "end", .ofString "top", .ofString "bottom", .ofString "stop"], [.ofString "text"], ⟨1, 6, b__law_due⟩⟩
def t__law_read : DefT := ⟨"_law_read", top 17, [.ofString "text", .ofString "e"], [.ofString "text"], ⟨1, 2, b__law_read⟩⟩
def t__law_changed : DefT := ⟨"_law_changed", top 18, [.ofString "state", .ofString "text", .ofString "letters", .ofString "place", .ofString "letter", .ofString "kind"], [.ofString "state", .ofString "text"], ⟨2, 6, b__law_changed⟩⟩
def t_law : DefT := ⟨"law", top 19, [.ofString "script", .ofString "state", .ofString "size", .ofString "top", .ofString "bottom", .ofString "a", .ofString "text", .ofString "plain", .ofString "k"], [.ofString "script"], ⟨1, 9, b_law⟩⟩
def D : List DefT := [t_make, t_write_fraction, t__digits_end, t_read_fraction, t__law_mix, t__law_number, t__law_state, t__law_draw, t__law_digits, t__law_due, t__law_read, t__law_changed, t_law]
def F : List FDef := [⟨2, 3, b_make⟩, ⟨1, 1, b_write_fraction⟩, ⟨2, 3, b__digits_end⟩, ⟨1, 6, b_read_fraction⟩, ⟨1, 2, b__law_mix⟩, ⟨1, 2, b__law_number⟩, ⟨1, 1, b__law_state⟩, ⟨2, 3, b__law_draw⟩, ⟨2, 4, b__law_digits⟩, ⟨1, 6, b__law_due⟩, ⟨1, 2, b__law_read⟩, ⟨2, 6, b__law_changed⟩, ⟨1, 9, b_law⟩]
def T : Tab := ⟨[some (.ofString "make"), some (.ofString "write_fraction"), some (.ofString "_digits_end"), some (.ofString "read_fraction"), some (.ofString "_law_mix"), some (.ofString "_law_number"), some (.ofString "_law_state"), some (.ofString "_law_draw"), some (.ofString "_law_digits"), some (.ofString "_law_due"), some (.ofString "_law_read"), some (.ofString "_law_changed"), some (.ofString "law")], [("Zero", [], [.ofString "Zero", .ofString "Trouble", .ofString "ValueError"]), ("Unread", [.ofString "place"], [.ofString "Unread", .ofString "Trouble", .ofString "ValueError"])], [], [.ofString "gcd", .ofString "int", .ofString "isinstance", .ofString "len", .ofString "list", .ofString "range", .ofString "str"], [], [], []⟩
theorem look_make : DefT.look T t_make = true := by decide +kernel
theorem look_write_fraction : DefT.look T t_write_fraction = true := by decide +kernel
theorem look__digits_end : DefT.look T t__digits_end = true := by decide +kernel
theorem look_read_fraction : DefT.look T t_read_fraction = true := by decide +kernel
theorem look__law_mix : DefT.look T t__law_mix = true := by decide +kernel
theorem look__law_number : DefT.look T t__law_number = true := by decide +kernel
theorem look__law_state : DefT.look T t__law_state = true := by decide +kernel
theorem look__law_draw : DefT.look T t__law_draw = true := by decide +kernel
theorem look__law_digits : DefT.look T t__law_digits = true := by decide +kernel
theorem look__law_due : DefT.look T t__law_due = true := by decide +kernel
theorem look__law_read : DefT.look T t__law_read = true := by decide +kernel
theorem look__law_changed : DefT.look T t__law_changed = true := by decide +kernel
theorem look_law : DefT.look T t_law = true := by decide +kernel
theorem bd_make : BdT t_make := fun _ _ _ _ _ _ us hl => match us, hl with | [_, _], _ => rfl
theorem bd_write_fraction : BdT t_write_fraction := fun _ _ _ _ _ _ us hl => match us, hl with | [_], _ => rfl
theorem bd__digits_end : BdT t__digits_end := fun _ _ _ _ _ _ us hl => match us, hl with | [_, _], _ => rfl
theorem bd_read_fraction : BdT t_read_fraction := fun _ _ _ _ _ _ us hl => match us, hl with | [_], _ => rfl
theorem bd__law_mix : BdT t__law_mix := fun _ _ _ _ _ _ us hl => match us, hl with | [_], _ => rfl
theorem bd__law_number : BdT t__law_number := fun _ _ _ _ _ _ us hl => match us, hl with | [_], _ => rfl
theorem bd__law_state : BdT t__law_state := fun _ _ _ _ _ _ us hl => match us, hl with | [_], _ => rfl
theorem bd__law_draw : BdT t__law_draw := fun _ _ _ _ _ _ us hl => match us, hl with | [_, _], _ => rfl
theorem bd__law_digits : BdT t__law_digits := fun _ _ _ _ _ _ us hl => match us, hl with | [_, _], _ => rfl
theorem bd__law_due : BdT t__law_due := fun _ _ _ _ _ _ us hl => match us, hl with | [_], _ => rfl
theorem bd__law_read : BdT t__law_read := fun _ _ _ _ _ _ us hl => match us, hl with | [_], _ => rfl
theorem bd__law_changed : BdT t__law_changed := fun _ _ _ _ _ _ us hl => match us, hl with | [_, _], _ => rfl
theorem bd_law : BdT t_law := fun _ _ _ _ _ _ us hl => match us, hl with | [_], _ => rfl
theorem looks : (D.all fun t => t.look T) = true := by
  simp only [D, List.all_cons, List.all_nil, look_make, look_write_fraction, look__digits_end, look_read_fraction, look__law_mix, look__law_number, look__law_state, look__law_draw, look__law_digits, look__law_due, look__law_read, look__law_changed, look_law, Bool.and_self]
theorem bds : AllT BdT D := .cons bd_make (.cons bd_write_fraction (.cons bd__digits_end (.cons bd_read_fraction (.cons bd__law_mix (.cons bd__law_number (.cons bd__law_state (.cons bd__law_draw (.cons bd__law_digits (.cons bd__law_due (.cons bd__law_read (.cons bd__law_changed (.cons bd_law (.nil)))))))))))))
def memb (i j : Nat) : Stmt := match top i with
  | .ClassDef (body := b) .. => b.getD j (.Pass ⟨0, 0, 0, 0⟩)
  | s => s
def ex_Unread : ExI := ⟨"Unread", memb 4 0, [.ofString "place"]⟩
def XD : List ExI := [ex_Unread]
theorem bx_Unread : BdX ex_Unread := fun _ _ _ _ _ _ us hl => match us, hl with | [_, _], _ => rfl
theorem bxs : AllX BdX XD := .cons bx_Unread (.nil)
theorem xins : xinB T XD = true := by decide +kernel
theorem fdsEq : D.map (·.fd) = F := rfl
abbrev R : PySem.W.OpenRow := PySem.W.OpenLaw.row PySem.Challenge.rw_motionsheld_k02_fraction_texts
abbrev view : List Nat := [0, 19]
abbrev loose : List Str := [.ofString "Trouble", .ofString "Zero", .ofString "Unread", .ofString "make", .ofString "write_fraction", .ofString "_digits_end", .ofString "read_fraction", .ofString "_law_mix", .ofString "_law_number", .ofString "_law_state", .ofString "_law_draw", .ofString "_law_digits", .ofString "_law_due", .ofString "_law_read", .ofString "_law_changed"]
abbrev lawAt : Nat := 19
abbrev lawNo : Nat := 12
end K02
namespace K02
open PySem PySem.Spec PyProof.Rows L2 MP
abbrev hk : PySem.W.Hook := hookM 5 T D XD
def ob (s : PySem.W.SharedT) : Bool × List He.FnW := seenM 5 T D XD (HandSHeadRun.getT s)
theorem ob_eq (s : PySem.W.SharedT) : ob s = hk.obs s.abs := seenM_eq (HandSHeadRun.getT_eq s)
theorem run (w : World) : HandSHeadRun.RunEqI R (PySem.W.view R.prog view) hk ob 40000 loose w := by
  unfold HandSHeadRun.RunEqI
  kernel_rfl
end K02
end
section
set_option Elab.async false
set_option linter.all false
set_option maxRecDepth 100000
set_option maxHeartbeats 1000000
namespace K02
open PySem MP
section
variable {d j k n : Nat} {a b : Rat} {S : Sto}
theorem c_make {t b : Int} : callN F (d + 1) n_make [.int t, .int b] S = if b = 0 then .exc 0 [] S else .ok (pr (mkT t b) (mkB t b)) S := by
  rw [callN_of (fd := ⟨2, 3, b_make⟩) rfl rfl]
  by_cases h0 : b = 0
  · rw [if_pos h0]
    refine run_exc (σ := [some (.int t), some (.int b), none]) ?_ rfl
    simp [st_make_0, st_make_1, st_make_2, st_make_3, b_make, bd_ok, bd_exc, st_ok, st_exc, xss_cons, xss_nil, seq_next, seq_ret, seq_brk, seq_cont, seq_exc, eqV_int, xst, ev, evT, evs, evo, evc, evi, itemAt, MP.placeOf, bindT, bindTs, unslot, hold, unhold, subR, freeze, ix_tup, ix_lst, ix_r, cm_eq, cm_ne, cm_lt, cm_le, cm_gt, cm_ge, cm_isn, cm_nisn, cm_isb, cm_inn, cm_nin, op_ad, op_sb, op_ml, op_dv, op_md, op_pw, op_sl, op_as, op_at, op_mt, op_al, bi_abs, bi_int, bi_intb, bi_lent, bi_lenl, bi_lenr, bi_lens, bi_listt, bi_listl, bi_tupt, bi_tupl, bi_tupr, bi_gcd, bi_max, bi_min, bi_str, bi_sum, bi_all, bi_any, tr_non, tr_bl, tr_int, tr_tup, tr_lst, ty_nt, ty_tt, ty_ti, ty_ii, ty_it, ty_is, sl_tup, sl_lst, sq_tup, sq_lst, ls_lst, th_lst, wk_tup, wk_lst, opt_some, eqV_non, h0]
  · rw [if_neg h0]
    have hg := mkG_pos (t := t) h0
    have hd : divOk (mkG t b) = true := divOk_of (by omega)
    refine run_ret ?_ rfl
    by_cases hn : b < 0
    · unfold mkT mkB mkG at *
      simp [st_make_0, st_make_1, st_make_2, st_make_3, b_make, bd_ok, bd_exc, st_ok, st_exc, xss_cons, xss_nil, seq_next, seq_ret, seq_brk, seq_cont, seq_exc, eqV_int, xst, ev, evT, evs, evo, evc, evi, itemAt, MP.placeOf, bindT, bindTs, unslot, hold, unhold, subR, freeze, ix_tup, ix_lst, ix_r, cm_eq, cm_ne, cm_lt, cm_le, cm_gt, cm_ge, cm_isn, cm_nisn, cm_isb, cm_inn, cm_nin, op_ad, op_sb, op_ml, op_dv, op_md, op_pw, op_sl, op_as, op_at, op_mt, op_al, bi_abs, bi_int, bi_intb, bi_lent, bi_lenl, bi_lenr, bi_lens, bi_listt, bi_listl, bi_tupt, bi_tupl, bi_tupr, bi_gcd, bi_max, bi_min, bi_str, bi_sum, bi_all, bi_any, tr_non, tr_bl, tr_int, tr_tup, tr_lst, ty_nt, ty_tt, ty_ti, ty_ii, ty_it, ty_is, sl_tup, sl_lst, sq_tup, sq_lst, ls_lst, th_lst, wk_tup, wk_lst, opt_some, eqV_non, h0, hn, hd]
    · unfold mkT mkB mkG at *
      simp [st_make_0, st_make_1, st_make_2, st_make_3, b_make, bd_ok, bd_exc, st_ok, st_exc, xss_cons, xss_nil, seq_next, seq_ret, seq_brk, seq_cont, seq_exc, eqV_int, xst, ev, evT, evs, evo, evc, evi, itemAt, MP.placeOf, bindT, bindTs, unslot, hold, unhold, subR, freeze, ix_tup, ix_lst, ix_r, cm_eq, cm_ne, cm_lt, cm_le, cm_gt, cm_ge, cm_isn, cm_nisn, cm_isb, cm_inn, cm_nin, op_ad, op_sb, op_ml, op_dv, op_md, op_pw, op_sl, op_as, op_at, op_mt, op_al, bi_abs, bi_int, bi_intb, bi_lent, bi_lenl, bi_lenr, bi_lens, bi_listt, bi_listl, bi_tupt, bi_tupl, bi_tupr, bi_gcd, bi_max, bi_min, bi_str, bi_sum, bi_all, bi_any, tr_non, tr_bl, tr_int, tr_tup, tr_lst, ty_nt, ty_tt, ty_ti, ty_ii, ty_it, ty_is, sl_tup, sl_lst, sq_tup, sq_lst, ls_lst, th_lst, wk_tup, wk_lst, opt_some, eqV_non, h0, hn, hd]
theorem r_make {t b : Int} (hb : b ≠ 0) : callN F (d + 1) n_make [.int t, .int b] S = .ok (fr (Rat.divInt t b)) S := by
  rw [c_make, if_neg hb, fr_mk hb]
end
end K02
end
section
set_option Elab.async false
set_option linter.all false
set_option maxRecDepth 100000
set_option maxHeartbeats 1000000
namespace K02
open PySem MP
theorem c_mix {d : Nat} {c : Int} {S : Sto} : ∃ r, callN F (d + 1) n__law_mix [.int c] S = .ok (.int r) S ∧ 0 ≤ r := by
  have m : ∀ x : Int, mulOk x 48271 = true := fun x => mulOk_r (by unfold sz; decide)
  have m' : ∀ x : Int, mulOk x 69621 = true := fun x => mulOk_r (by unfold sz; decide)
  refine ⟨(((c.fmod 2147483647 * 48271 + 11).fmod 2147483647) * 69621 + 5).fmod 2147483629, ?_, Int.fmod_nonneg_of_pos _ (by decide)⟩
  rw [callN_of (fd := ⟨1, 2, b__law_mix⟩) rfl rfl]
  refine run_ret ?_ rfl
  simp [st__law_mix_0, st__law_mix_1, st__law_mix_2, b__law_mix, bd_ok, bd_exc, st_ok, st_exc, xss_cons, xss_nil, seq_next, seq_ret, seq_brk, seq_cont, seq_exc, eqV_int, xst, ev, evT, evs, evo, evc, evi, itemAt, MP.placeOf, bindT, bindTs, unslot, hold, unhold, subR, freeze, ix_tup, ix_lst, ix_r, cm_eq, cm_ne, cm_lt, cm_le, cm_gt, cm_ge, cm_isn, cm_nisn, cm_isb, cm_inn, cm_nin, op_ad, op_sb, op_ml, op_dv, op_md, op_pw, op_sl, op_as, op_at, op_mt, op_al, bi_abs, bi_int, bi_intb, bi_lent, bi_lenl, bi_lenr, bi_lens, bi_listt, bi_listl, bi_tupt, bi_tupl, bi_tupr, bi_gcd, bi_max, bi_min, bi_str, bi_sum, bi_all, bi_any, tr_non, tr_bl, tr_int, tr_tup, tr_lst, ty_nt, ty_tt, ty_ti, ty_ii, ty_it, ty_is, sl_tup, sl_lst, sq_tup, sq_lst, ls_lst, th_lst, wk_tup, wk_lst, opt_some, eqV_non, m, m']
theorem c_number {d : Nat} {c : Int} {S : Sto} : ∃ r, callN F (d + 2) n__law_number [.int c] S = .ok (.int r) S ∧ 0 ≤ r := by
  rw [callN_of (fd := ⟨1, 2, b__law_number⟩) rfl rfl]
  have pw : powOk 10 18 = true := by decide
  by_cases h : 10 ^ 18 ≤ c
  · have h' : (1000000000000000000 : Int) ≤ c := h
    refine ⟨c, ?_, by omega⟩
    refine run_ret ?_ rfl
    simp [st__law_number_0, st__law_number_1, st__law_number_2, b__law_number, bd_ok, bd_exc, st_ok, st_exc, xss_cons, xss_nil, seq_next, seq_ret, seq_brk, seq_cont, seq_exc, eqV_int, xst, ev, evT, evs, evo, evc, evi, itemAt, MP.placeOf, bindT, bindTs, unslot, hold, unhold, subR, freeze, ix_tup, ix_lst, ix_r, cm_eq, cm_ne, cm_lt, cm_le, cm_gt, cm_ge, cm_isn, cm_nisn, cm_isb, cm_inn, cm_nin, op_ad, op_sb, op_ml, op_dv, op_md, op_pw, op_sl, op_as, op_at, op_mt, op_al, bi_abs, bi_int, bi_intb, bi_lent, bi_lenl, bi_lenr, bi_lens, bi_listt, bi_listl, bi_tupt, bi_tupl, bi_tupr, bi_gcd, bi_max, bi_min, bi_str, bi_sum, bi_all, bi_any, tr_non, tr_bl, tr_int, tr_tup, tr_lst, ty_nt, ty_tt, ty_ti, ty_ii, ty_it, ty_is, sl_tup, sl_lst, sq_tup, sq_lst, ls_lst, th_lst, wk_tup, wk_lst, opt_some, eqV_non, pw, h']
  · have h' : ¬ (1000000000000000000 : Int) ≤ c := h
    obtain ⟨r, e1, p1⟩ := c_mix (d := d) (c := c) (S := ⟨S.cells, false⟩)
    obtain ⟨s, e2, p2⟩ := c_mix (d := d) (c := r + c) (S := ⟨S.cells, false⟩)
    have m : mulOk r 2147483629 = true := mulOk_r (by unfold sz; decide)
    refine ⟨r * 2147483629 + s, ?_, by omega⟩
    refine run_ret ?_ rfl
    simp [st__law_number_0, st__law_number_1, st__law_number_2, b__law_number, bd_ok, bd_exc, st_ok, st_exc, xss_cons, xss_nil, seq_next, seq_ret, seq_brk, seq_cont, seq_exc, eqV_int, xst, ev, evT, evs, evo, evc, evi, itemAt, MP.placeOf, bindT, bindTs, unslot, hold, unhold, subR, freeze, ix_tup, ix_lst, ix_r, cm_eq, cm_ne, cm_lt, cm_le, cm_gt, cm_ge, cm_isn, cm_nisn, cm_isb, cm_inn, cm_nin, op_ad, op_sb, op_ml, op_dv, op_md, op_pw, op_sl, op_as, op_at, op_mt, op_al, bi_abs, bi_int, bi_intb, bi_lent, bi_lenl, bi_lenr, bi_lens, bi_listt, bi_listl, bi_tupt, bi_tupl, bi_tupr, bi_gcd, bi_max, bi_min, bi_str, bi_sum, bi_all, bi_any, tr_non, tr_bl, tr_int, tr_tup, tr_lst, ty_nt, ty_tt, ty_ti, ty_ii, ty_it, ty_is, sl_tup, sl_lst, sq_tup, sq_lst, ls_lst, th_lst, wk_tup, wk_lst, opt_some, eqV_non, pw, h', m, e1, e2]
theorem c_state {d : Nat} {ns : List Int} : callN F (d + 1) n__law_state [.lst (ns.map .int)] ⟨[], false⟩ = .ok (.ref 0) (G ns 0 0 (1 + (ns.length : Int)) []) := by
  rw [callN_of (fd := ⟨1, 1, b__law_state⟩) rfl rfl]
  unfold runF
  have e : xss (callN F d) 0 b__law_state [some (.lst (ns.map .int))] ⟨[], false⟩ = .ret (.ref 0) (G ns 0 0 (1 + (ns.length : Int)) []) := by
    simp [st__law_state_0, b__law_state, bd_ok, bd_exc, st_ok, st_exc, xss_cons, xss_nil, seq_next, seq_ret, seq_brk, seq_cont, seq_exc, eqV_int, xst, ev, evT, evs, evo, evc, evi, itemAt, MP.placeOf, bindT, bindTs, unslot, hold, unhold, subR, freeze, ix_tup, ix_lst, ix_r, cm_eq, cm_ne, cm_lt, cm_le, cm_gt, cm_ge, cm_isn, cm_nisn, cm_isb, cm_inn, cm_nin, op_ad, op_sb, op_ml, op_dv, op_md, op_pw, op_sl, op_as, op_at, op_mt, op_al, bi_abs, bi_int, bi_intb, bi_lent, bi_lenl, bi_lenr, bi_lens, bi_listt, bi_listl, bi_tupt, bi_tupl, bi_tupr, bi_gcd, bi_max, bi_min, bi_str, bi_sum, bi_all, bi_any, tr_non, tr_bl, tr_int, tr_tup, tr_lst, ty_nt, ty_tt, ty_ti, ty_ii, ty_it, ty_is, sl_tup, sl_lst, sq_tup, sq_lst, ls_lst, th_lst, wk_tup, wk_lst, opt_some, eqV_non, Sto.push, Sto.len, G]
  show (match xss (callN F d) 0 b__law_state [some (.lst (ns.map .int))] ⟨[], false⟩ with
  | .next _ S1 => fin ⟨[], false⟩ .non S1
  | .ret v S1 => fin ⟨[], false⟩ v S1
  | .exc c as _ S1 => if PV.pures as && !S1.dirty then .exc c as ⟨S1.cells.take 0, false⟩ else .bad
  | _ => .bad) = _
  rw [e]
  rfl
/-- a draw's first part -/
theorem draw1 {d : Nat} {ns : List Int} {a i c m : Int} {tl : List Cell} (ha : 0 ≤ a) (hi : 0 ≤ i) : ∃ a' i', 0 ≤ a' ∧ 0 ≤ i' ∧
    xst (callN F (d + 2)) (1 + tl.length) st__law_draw_0 [some (.ref 0), some (.int m), none] (G ns a i c tl) = .next [some (.ref 0), some (.int m), none] (G ns a' i' c tl) := by
  have ob : ∀ x : Int, PV.pure (.int x) = true := fun _ => rfl
  unfold st__law_draw_0
  by_cases h1 : a < m
  · by_cases h2 : i < (ns.length : Int)
    · obtain ⟨r, e1, p1⟩ := c_number (d := d) (c := ns[i.toNat]'(by omega)) (S := G ns a i c tl)
      refine ⟨r, i + 1, p1, by omega, ?_⟩
      have e2 : (ns.map PV.int)[i.toNat]? = some (.int (ns[i.toNat]'(by omega))) := by
        rw [List.getElem?_map, List.getElem?_eq_getElem (by omega)]
        rfl
      unfold G at *
      simp at e2
      simp [bd_ok, bd_exc, st_ok, st_exc, xss_cons, xss_nil, seq_next, seq_ret, seq_brk, seq_cont, seq_exc, eqV_int, xst, ev, evT, evs, evo, evc, evi, itemAt, MP.placeOf, bindT, bindTs, unslot, hold, unhold, subR, freeze, ix_tup, ix_lst, ix_r, cm_eq, cm_ne, cm_lt, cm_le, cm_gt, cm_ge, cm_isn, cm_nisn, cm_isb, cm_inn, cm_nin, op_ad, op_sb, op_ml, op_dv, op_md, op_pw, op_sl, op_as, op_at, op_mt, op_al, bi_abs, bi_int, bi_intb, bi_lent, bi_lenl, bi_lenr, bi_lens, bi_listt, bi_listl, bi_tupt, bi_tupl, bi_tupr, bi_gcd, bi_max, bi_min, bi_str, bi_sum, bi_all, bi_any, tr_non, tr_bl, tr_int, tr_tup, tr_lst, ty_nt, ty_tt, ty_ti, ty_ii, ty_it, ty_is, sl_tup, sl_lst, sq_tup, sq_lst, ls_lst, th_lst, wk_tup, wk_lst, opt_some, eqV_non, Sto.lst?, Sto.wr, h1, h2, hi, e2, e1, ob]
    · refine ⟨a, i, ha, hi, ?_⟩
      unfold G
      simp [bd_ok, bd_exc, st_ok, st_exc, xss_cons, xss_nil, seq_next, seq_ret, seq_brk, seq_cont, seq_exc, eqV_int, xst, ev, evT, evs, evo, evc, evi, itemAt, MP.placeOf, bindT, bindTs, unslot, hold, unhold, subR, freeze, ix_tup, ix_lst, ix_r, cm_eq, cm_ne, cm_lt, cm_le, cm_gt, cm_ge, cm_isn, cm_nisn, cm_isb, cm_inn, cm_nin, op_ad, op_sb, op_ml, op_dv, op_md, op_pw, op_sl, op_as, op_at, op_mt, op_al, bi_abs, bi_int, bi_intb, bi_lent, bi_lenl, bi_lenr, bi_lens, bi_listt, bi_listl, bi_tupt, bi_tupl, bi_tupr, bi_gcd, bi_max, bi_min, bi_str, bi_sum, bi_all, bi_any, tr_non, tr_bl, tr_int, tr_tup, tr_lst, ty_nt, ty_tt, ty_ti, ty_ii, ty_it, ty_is, sl_tup, sl_lst, sq_tup, sq_lst, ls_lst, th_lst, wk_tup, wk_lst, opt_some, eqV_non, Sto.lst?, Sto.wr, h1, h2]
  · refine ⟨a, i, ha, hi, ?_⟩
    unfold G
    simp [bd_ok, bd_exc, st_ok, st_exc, xss_cons, xss_nil, seq_next, seq_ret, seq_brk, seq_cont, seq_exc, eqV_int, xst, ev, evT, evs, evo, evc, evi, itemAt, MP.placeOf, bindT, bindTs, unslot, hold, unhold, subR, freeze, ix_tup, ix_lst, ix_r, cm_eq, cm_ne, cm_lt, cm_le, cm_gt, cm_ge, cm_isn, cm_nisn, cm_isb, cm_inn, cm_nin, op_ad, op_sb, op_ml, op_dv, op_md, op_pw, op_sl, op_as, op_at, op_mt, op_al, bi_abs, bi_int, bi_intb, bi_lent, bi_lenl, bi_lenr, bi_lens, bi_listt, bi_listl, bi_tupt, bi_tupl, bi_tupr, bi_gcd, bi_max, bi_min, bi_str, bi_sum, bi_all, bi_any, tr_non, tr_bl, tr_int, tr_tup, tr_lst, ty_nt, ty_tt, ty_ti, ty_ii, ty_it, ty_is, sl_tup, sl_lst, sq_tup, sq_lst, ls_lst, th_lst, wk_tup, wk_lst, opt_some, eqV_non, Sto.lst?, Sto.wr, h1]
/-- a run that gives a thing and may have drawn -/
theorem run_G {C : Nat → List PV → Sto → MP.R PV} {fd : FDef} {args : List PV} {ns : List Int} {a i c a' i' c' : Int} {tl more : List Cell} {v : PV} (h : xss C (1 + tl.length) fd.body (args.map some ++ List.replicate (fd.nn - fd.np) none) (G ns a i c tl) = .ret v (G ns a' i' c' (tl ++ more))) (p : v.pure = true) : runF C fd args (G ns a i c tl) = .ok v (G ns a' i' c' tl) := by
  have hl : (G ns a i c tl).cells.length = 1 + tl.length := by unfold G; simp; omega
  have z := run_retT (C := C) (fd := fd) (args := args) (S := G ns a i c tl) (v := v) (cs := (G ns a' i' c' (tl ++ more)).cells) (by rw [hl]; exact h) p
  rw [z, hl]
  have e : (G ns a' i' c' (tl ++ more)).cells.take (1 + tl.length) = (G ns a' i' c' tl).cells := by
    unfold G
    rw [show 1 + tl.length = tl.length + 1 by omega]
    simp
  rw [e]
  rfl
theorem run_G0 {C : Nat → List PV → Sto → MP.R PV} {fd : FDef} {args : List PV} {ns : List Int} {a i c a' i' c' : Int} {tl : List Cell} {v : PV} (h : xss C (1 + tl.length) fd.body (args.map some ++ List.replicate (fd.nn - fd.np) none) (G ns a i c tl) = .ret v (G ns a' i' c' tl)) (p : v.pure = true) : runF C fd args (G ns a i c tl) = .ok v (G ns a' i' c' tl) :=
  run_G (more := []) (by rw [List.append_nil]; exact h) p
theorem c_draw {d : Nat} {ns : List Int} {a i c m : Int} {tl : List Cell} (ha : 0 ≤ a) (hi : 0 ≤ i) (hm : 0 < m) : ∃ r a' i' c', callN F (d + 3) n__law_draw [.ref 0, .int m] (G ns a i c tl) = .ok (.int r) (G ns a' i' c' tl) ∧ 0 ≤ r ∧ r < m ∧ 0 ≤ a' ∧ 0 ≤ i' := by
  have ob : ∀ x : Int, PV.pure (.int x) = true := fun _ => rfl
  rw [callN_of (fd := ⟨2, 3, b__law_draw⟩) rfl rfl]
  obtain ⟨a1, i1, ha1, hi1, e1⟩ := draw1 (d := d) (ns := ns) (c := c) (m := m) (tl := tl) ha hi
  have hm0 : m ≠ 0 := by omega
  have dv : divOk m = true := divOk_of hm0
  have d11 : divOk 11 = true := by decide
  have m48 : mulOk c 48271 = true := mulOk_r (by unfold sz; decide)
  by_cases h0 : a1 = 0
  · subst h0
    refine ⟨(((c * 48271 + 7).fmod 2147483647).fdiv 11).fmod m, 0, i1, (c * 48271 + 7).fmod 2147483647, run_G0 ?_ rfl, Int.fmod_nonneg_of_pos _ hm, Int.fmod_lt_of_pos _ hm, by omega, hi1⟩
    unfold b__law_draw
    refine (xss_step e1).trans ?_
    unfold G
    simp [st__law_draw_0, st__law_draw_1, st__law_draw_2, st__law_draw_3, st__law_draw_4, b__law_draw, bd_ok, bd_exc, st_ok, st_exc, xss_cons, xss_nil, seq_next, seq_ret, seq_brk, seq_cont, seq_exc, eqV_int, xst, ev, evT, evs, evo, evc, evi, itemAt, MP.placeOf, bindT, bindTs, unslot, hold, unhold, subR, freeze, ix_tup, ix_lst, ix_r, cm_eq, cm_ne, cm_lt, cm_le, cm_gt, cm_ge, cm_isn, cm_nisn, cm_isb, cm_inn, cm_nin, op_ad, op_sb, op_ml, op_dv, op_md, op_pw, op_sl, op_as, op_at, op_mt, op_al, bi_abs, bi_int, bi_intb, bi_lent, bi_lenl, bi_lenr, bi_lens, bi_listt, bi_listl, bi_tupt, bi_tupl, bi_tupr, bi_gcd, bi_max, bi_min, bi_str, bi_sum, bi_all, bi_any, tr_non, tr_bl, tr_int, tr_tup, tr_lst, ty_nt, ty_tt, ty_ti, ty_ii, ty_it, ty_is, sl_tup, sl_lst, sq_tup, sq_lst, ls_lst, th_lst, wk_tup, wk_lst, opt_some, eqV_non, Sto.lst?, Sto.wr, ob, d11, m48, hm0]
  · refine ⟨a1.fmod m, a1.fdiv m, i1, c, run_G0 ?_ rfl, Int.fmod_nonneg_of_pos _ hm, Int.fmod_lt_of_pos _ hm, Int.fdiv_nonneg ha1 (by omega), hi1⟩
    unfold b__law_draw
    refine (xss_step e1).trans ?_
    unfold G
    simp [st__law_draw_0, st__law_draw_1, st__law_draw_2, st__law_draw_3, st__law_draw_4, b__law_draw, bd_ok, bd_exc, st_ok, st_exc, xss_cons, xss_nil, seq_next, seq_ret, seq_brk, seq_cont, seq_exc, eqV_int, xst, ev, evT, evs, evo, evc, evi, itemAt, MP.placeOf, bindT, bindTs, unslot, hold, unhold, subR, freeze, ix_tup, ix_lst, ix_r, cm_eq, cm_ne, cm_lt, cm_le, cm_gt, cm_ge, cm_isn, cm_nisn, cm_isb, cm_inn, cm_nin, op_ad, op_sb, op_ml, op_dv, op_md, op_pw, op_sl, op_as, op_at, op_mt, op_al, bi_abs, bi_int, bi_intb, bi_lent, bi_lenl, bi_lenr, bi_lens, bi_listt, bi_listl, bi_tupt, bi_tupl, bi_tupr, bi_gcd, bi_max, bi_min, bi_str, bi_sum, bi_all, bi_any, tr_non, tr_bl, tr_int, tr_tup, tr_lst, ty_nt, ty_tt, ty_ti, ty_ii, ty_it, ty_is, sl_tup, sl_lst, sq_tup, sq_lst, ls_lst, th_lst, wk_tup, wk_lst, opt_some, eqV_non, Sto.lst?, Sto.wr, ob, h0, dv, hm0]
end K02
end
section
set_option Elab.async false
set_option linter.all false
set_option maxRecDepth 100000
set_option maxHeartbeats 1000000
namespace K02
open PySem MP
section
variable {d : Nat} {l : List Nat} {S : Sto}
theorem len_ok (h : l.length ≤ 600) : l.length ≤ lenMax := Nat.le_trans h (by decide)
theorem dend_env {C : Nat → List PV → Sto → MP.R PV} {b : Nat} {k : Int} {j : Nat} (hl : l.length ≤ 600) :
    evT C b (.and (.cmp .lt (.var 2) (.bi .len (.cons (.var 0) .nil))) (.cmp .inn (.ix (.var 0) (.var 2)) (.cst (.str "0123456789")))) [some (.str (Tx l)), some (.int k), some (.int j)] S = .ok (match l[j]? with | some c => dg c | none => false) S := by
  have hl := len_ok hl
  by_cases h : j < l.length
  · have e := List.getElem?_eq_getElem h
    rw [e]
    simp [bd_ok, bd_exc, st_ok, st_exc, xss_cons, xss_nil, seq_next, seq_ret, seq_brk, seq_cont, seq_exc, eqV_int, xst, ev, evT, evs, evo, evc, evi, itemAt, MP.placeOf, bindT, bindTs, unslot, hold, unhold, subR, freeze, ix_tup, ix_lst, ix_r, cm_eq, cm_ne, cm_lt, cm_le, cm_gt, cm_ge, cm_isn, cm_nisn, cm_isb, cm_inn, cm_nin, op_ad, op_sb, op_ml, op_dv, op_md, op_pw, op_sl, op_as, op_at, op_mt, op_al, bi_abs, bi_int, bi_intb, bi_lent, bi_lenl, bi_lenr, bi_lens, bi_listt, bi_listl, bi_tupt, bi_tupl, bi_tupr, bi_gcd, bi_max, bi_min, bi_str, bi_sum, bi_all, bi_any, tr_non, tr_bl, tr_int, tr_tup, tr_lst, ty_nt, ty_tt, ty_ti, ty_ii, ty_it, ty_is, sl_tup, sl_lst, sq_tup, sq_lst, ls_lst, th_lst, wk_tup, wk_lst, opt_some, eqV_non, len_tx hl, ix_tx hl, item_nat, h, lit_digits, dig_in, dig_mem]
  · have e : l[j]? = none := List.getElem?_eq_none (by omega)
    rw [e]
    simp [bd_ok, bd_exc, st_ok, st_exc, xss_cons, xss_nil, seq_next, seq_ret, seq_brk, seq_cont, seq_exc, eqV_int, xst, ev, evT, evs, evo, evc, evi, itemAt, MP.placeOf, bindT, bindTs, unslot, hold, unhold, subR, freeze, ix_tup, ix_lst, ix_r, cm_eq, cm_ne, cm_lt, cm_le, cm_gt, cm_ge, cm_isn, cm_nisn, cm_isb, cm_inn, cm_nin, op_ad, op_sb, op_ml, op_dv, op_md, op_pw, op_sl, op_as, op_at, op_mt, op_al, bi_abs, bi_int, bi_intb, bi_lent, bi_lenl, bi_lenr, bi_lens, bi_listt, bi_listl, bi_tupt, bi_tupl, bi_tupr, bi_gcd, bi_max, bi_min, bi_str, bi_sum, bi_all, bi_any, tr_non, tr_bl, tr_int, tr_tup, tr_lst, ty_nt, ty_tt, ty_ti, ty_ii, ty_it, ty_is, sl_tup, sl_lst, sq_tup, sq_lst, ls_lst, th_lst, wk_tup, wk_lst, opt_some, eqV_non, len_tx hl, h]
theorem dend_step {C : Nat → List PV → Sto → MP.R PV} {b : Nat} {k : Int} {j : Nat} : xss C b bk__digits_end_0 [some (.str (Tx l)), some (.int k), some (.int j)] S = .next [some (.str (Tx l)), some (.int k), some (.int (j + 1 : Nat))] S := by
  unfold bk__digits_end_0
  simp [bd_ok, bd_exc, st_ok, st_exc, xss_cons, xss_nil, seq_next, seq_ret, seq_brk, seq_cont, seq_exc, eqV_int, xst, ev, evT, evs, evo, evc, evi, itemAt, MP.placeOf, bindT, bindTs, unslot, hold, unhold, subR, freeze, ix_tup, ix_lst, ix_r, cm_eq, cm_ne, cm_lt, cm_le, cm_gt, cm_ge, cm_isn, cm_nisn, cm_isb, cm_inn, cm_nin, op_ad, op_sb, op_ml, op_dv, op_md, op_pw, op_sl, op_as, op_at, op_mt, op_al, bi_abs, bi_int, bi_intb, bi_lent, bi_lenl, bi_lenr, bi_lens, bi_listt, bi_listl, bi_tupt, bi_tupl, bi_tupr, bi_gcd, bi_max, bi_min, bi_str, bi_sum, bi_all, bi_any, tr_non, tr_bl, tr_int, tr_tup, tr_lst, ty_nt, ty_tt, ty_ti, ty_ii, ty_it, ty_is, sl_tup, sl_lst, sq_tup, sq_lst, ls_lst, th_lst, wk_tup, wk_lst, opt_some, eqV_non]
theorem c_dend {k : Nat} (hl : l.length ≤ 600) (ho : okL l) (hk : k ≤ l.length) : callN F (d + 1) n__digits_end [.str (Tx l), .int k] S = match dEnd l k with
    | none => .exc 1 [.int k] S
    | some e => .ok (.int e) S := by
  have hL := len_ok hl
  have lp : ∀ T, xst (callN F d) S.cells.length st__digits_end_1 [some (.str (Tx l)), some (.int k), some (.int k)] T = .next [some (.str (Tx l)), some (.int k), some (.int (dRun l k))] T := by
    intro T
    unfold st__digits_end_1
    rw [xst]
    refine while_go (mk := fun j => [some (.str (Tx l)), some (.int k), some (.int (j : Nat))]) (k := k) (e := dRun l k) (fun j hj hj' => ⟨?_, dend_step⟩) ?_ fuel k (Nat.le_refl _) dRun_ge (fuel_big (by have := dRun_le hk; omega))
    · obtain ⟨c, h1, h2⟩ := dRun_in hj hj'
      rw [dend_env hl, h1]
      simp only [h2]
    · rw [dend_env hl]
      cases h : l[dRun l k]? with
      | none => rfl
      | some c => simp only [dRun_out h]
  rw [callN_of (fd := ⟨2, 3, b__digits_end⟩) rfl rfl]
  have z48 : okL [48] := fun c m => by rw [List.mem_singleton.mp m]; decide
  have hge := dRun_ge (l := l) (k := k)
  unfold dEnd
  by_cases h1 : dRun l k = k
  · rw [if_pos (Or.inl h1)]
    refine run_exc (σ := [some (.str (Tx l)), some (.int k), some (.int (dRun l k))]) ?_ rfl
    unfold b__digits_end
    rw [xss_step (σ' := [some (.str (Tx l)), some (.int k), some (.int k)]) (S' := ⟨S.cells, false⟩) (by simp [bd_ok, bd_exc, st_ok, st_exc, xss_cons, xss_nil, seq_next, seq_ret, seq_brk, seq_cont, seq_exc, eqV_int, xst, ev, evT, evs, evo, evc, evi, itemAt, MP.placeOf, bindT, bindTs, unslot, hold, unhold, subR, freeze, ix_tup, ix_lst, ix_r, cm_eq, cm_ne, cm_lt, cm_le, cm_gt, cm_ge, cm_isn, cm_nisn, cm_isb, cm_inn, cm_nin, op_ad, op_sb, op_ml, op_dv, op_md, op_pw, op_sl, op_as, op_at, op_mt, op_al, bi_abs, bi_int, bi_intb, bi_lent, bi_lenl, bi_lenr, bi_lens, bi_listt, bi_listl, bi_tupt, bi_tupl, bi_tupr, bi_gcd, bi_max, bi_min, bi_str, bi_sum, bi_all, bi_any, tr_non, tr_bl, tr_int, tr_tup, tr_lst, ty_nt, ty_tt, ty_ti, ty_ii, ty_it, ty_is, sl_tup, sl_lst, sq_tup, sq_lst, ls_lst, th_lst, wk_tup, wk_lst, opt_some, eqV_non, st__digits_end_0]), xss_step (lp _)]
    simp [bd_ok, bd_exc, st_ok, st_exc, xss_cons, xss_nil, seq_next, seq_ret, seq_brk, seq_cont, seq_exc, eqV_int, xst, ev, evT, evs, evo, evc, evi, itemAt, MP.placeOf, bindT, bindTs, unslot, hold, unhold, subR, freeze, ix_tup, ix_lst, ix_r, cm_eq, cm_ne, cm_lt, cm_le, cm_gt, cm_ge, cm_isn, cm_nisn, cm_isb, cm_inn, cm_nin, op_ad, op_sb, op_ml, op_dv, op_md, op_pw, op_sl, op_as, op_at, op_mt, op_al, bi_abs, bi_int, bi_intb, bi_lent, bi_lenl, bi_lenr, bi_lens, bi_listt, bi_listl, bi_tupt, bi_tupl, bi_tupr, bi_gcd, bi_max, bi_min, bi_str, bi_sum, bi_all, bi_any, tr_non, tr_bl, tr_int, tr_tup, tr_lst, ty_nt, ty_tt, ty_ti, ty_ii, ty_it, ty_is, sl_tup, sl_lst, sq_tup, sq_lst, ls_lst, th_lst, wk_tup, wk_lst, opt_some, eqV_non, st__digits_end_2, h1]
  · have hlt : k < l.length := by have := dRun_le hk; omega
    have ei := List.getElem?_eq_getElem hlt
    have oc : okL [l[k]] := fun c m => ho c (by rw [List.mem_singleton.mp m]; exact List.getElem_mem hlt)
    have h1' : ¬ ((dRun l k : Nat) : Int) = (k : Int) := by omega
    have hd : (((k : Int) + 1 < ((dRun l k : Nat) : Int)) : Prop) = (k + 1 < dRun l k) := by
      apply propext; omega
    by_cases h2 : l[k]? = some 48 ∧ k + 1 < dRun l k
    · rw [if_pos (Or.inr h2)]
      have h3 : l[k] = 48 := Option.some.inj (ei.symm.trans h2.1)
      refine run_exc (σ := [some (.str (Tx l)), some (.int k), some (.int (dRun l k))]) ?_ rfl
      unfold b__digits_end
      rw [xss_step (σ' := [some (.str (Tx l)), some (.int k), some (.int k)]) (S' := ⟨S.cells, false⟩) (by simp [bd_ok, bd_exc, st_ok, st_exc, xss_cons, xss_nil, seq_next, seq_ret, seq_brk, seq_cont, seq_exc, eqV_int, xst, ev, evT, evs, evo, evc, evi, itemAt, MP.placeOf, bindT, bindTs, unslot, hold, unhold, subR, freeze, ix_tup, ix_lst, ix_r, cm_eq, cm_ne, cm_lt, cm_le, cm_gt, cm_ge, cm_isn, cm_nisn, cm_isb, cm_inn, cm_nin, op_ad, op_sb, op_ml, op_dv, op_md, op_pw, op_sl, op_as, op_at, op_mt, op_al, bi_abs, bi_int, bi_intb, bi_lent, bi_lenl, bi_lenr, bi_lens, bi_listt, bi_listl, bi_tupt, bi_tupl, bi_tupr, bi_gcd, bi_max, bi_min, bi_str, bi_sum, bi_all, bi_any, tr_non, tr_bl, tr_int, tr_tup, tr_lst, ty_nt, ty_tt, ty_ti, ty_ii, ty_it, ty_is, sl_tup, sl_lst, sq_tup, sq_lst, ls_lst, th_lst, wk_tup, wk_lst, opt_some, eqV_non, st__digits_end_0]), xss_step (lp _)]
      simp [bd_ok, bd_exc, st_ok, st_exc, xss_cons, xss_nil, seq_next, seq_ret, seq_brk, seq_cont, seq_exc, eqV_int, xst, ev, evT, evs, evo, evc, evi, itemAt, MP.placeOf, bindT, bindTs, unslot, hold, unhold, subR, freeze, ix_tup, ix_lst, ix_r, cm_eq, cm_ne, cm_lt, cm_le, cm_gt, cm_ge, cm_isn, cm_nisn, cm_isb, cm_inn, cm_nin, op_ad, op_sb, op_ml, op_dv, op_md, op_pw, op_sl, op_as, op_at, op_mt, op_al, bi_abs, bi_int, bi_intb, bi_lent, bi_lenl, bi_lenr, bi_lens, bi_listt, bi_listl, bi_tupt, bi_tupl, bi_tupr, bi_gcd, bi_max, bi_min, bi_str, bi_sum, bi_all, bi_any, tr_non, tr_bl, tr_int, tr_tup, tr_lst, ty_nt, ty_tt, ty_ti, ty_ii, ty_it, ty_is, sl_tup, sl_lst, sq_tup, sq_lst, ls_lst, th_lst, wk_tup, wk_lst, opt_some, eqV_non, st__digits_end_2, st__digits_end_3, h1', ix_tx hL, hlt, h3, lit_zero, eq_tx z48 z48, hd, h2.2]
    · rw [if_neg (fun z => z.elim h1 h2)]
      refine run_ret ?_ rfl
      unfold b__digits_end
      show xss (callN F d) S.cells.length _ [some (.str (Tx l)), some (.int k), none] _ = _
      rw [xss_step (σ' := [some (.str (Tx l)), some (.int k), some (.int k)]) (S' := ⟨S.cells, false⟩) (by simp [bd_ok, bd_exc, st_ok, st_exc, xss_cons, xss_nil, seq_next, seq_ret, seq_brk, seq_cont, seq_exc, eqV_int, xst, ev, evT, evs, evo, evc, evi, itemAt, MP.placeOf, bindT, bindTs, unslot, hold, unhold, subR, freeze, ix_tup, ix_lst, ix_r, cm_eq, cm_ne, cm_lt, cm_le, cm_gt, cm_ge, cm_isn, cm_nisn, cm_isb, cm_inn, cm_nin, op_ad, op_sb, op_ml, op_dv, op_md, op_pw, op_sl, op_as, op_at, op_mt, op_al, bi_abs, bi_int, bi_intb, bi_lent, bi_lenl, bi_lenr, bi_lens, bi_listt, bi_listl, bi_tupt, bi_tupl, bi_tupr, bi_gcd, bi_max, bi_min, bi_str, bi_sum, bi_all, bi_any, tr_non, tr_bl, tr_int, tr_tup, tr_lst, ty_nt, ty_tt, ty_ti, ty_ii, ty_it, ty_is, sl_tup, sl_lst, sq_tup, sq_lst, ls_lst, th_lst, wk_tup, wk_lst, opt_some, eqV_non, st__digits_end_0]), xss_step (lp _)]
      rw [ei] at h2
      by_cases h3 : l[k] = 48
      · have h4 : ¬ k + 1 < dRun l k := fun z => h2 ⟨by rw [h3], z⟩
        simp [bd_ok, bd_exc, st_ok, st_exc, xss_cons, xss_nil, seq_next, seq_ret, seq_brk, seq_cont, seq_exc, eqV_int, xst, ev, evT, evs, evo, evc, evi, itemAt, MP.placeOf, bindT, bindTs, unslot, hold, unhold, subR, freeze, ix_tup, ix_lst, ix_r, cm_eq, cm_ne, cm_lt, cm_le, cm_gt, cm_ge, cm_isn, cm_nisn, cm_isb, cm_inn, cm_nin, op_ad, op_sb, op_ml, op_dv, op_md, op_pw, op_sl, op_as, op_at, op_mt, op_al, bi_abs, bi_int, bi_intb, bi_lent, bi_lenl, bi_lenr, bi_lens, bi_listt, bi_listl, bi_tupt, bi_tupl, bi_tupr, bi_gcd, bi_max, bi_min, bi_str, bi_sum, bi_all, bi_any, tr_non, tr_bl, tr_int, tr_tup, tr_lst, ty_nt, ty_tt, ty_ti, ty_ii, ty_it, ty_is, sl_tup, sl_lst, sq_tup, sq_lst, ls_lst, th_lst, wk_tup, wk_lst, opt_some, eqV_non, st__digits_end_2, st__digits_end_3, st__digits_end_4, h1', ix_tx hL, hlt, h3, lit_zero, eq_tx z48 z48, hd, h4]
      · simp [bd_ok, bd_exc, st_ok, st_exc, xss_cons, xss_nil, seq_next, seq_ret, seq_brk, seq_cont, seq_exc, eqV_int, xst, ev, evT, evs, evo, evc, evi, itemAt, MP.placeOf, bindT, bindTs, unslot, hold, unhold, subR, freeze, ix_tup, ix_lst, ix_r, cm_eq, cm_ne, cm_lt, cm_le, cm_gt, cm_ge, cm_isn, cm_nisn, cm_isb, cm_inn, cm_nin, op_ad, op_sb, op_ml, op_dv, op_md, op_pw, op_sl, op_as, op_at, op_mt, op_al, bi_abs, bi_int, bi_intb, bi_lent, bi_lenl, bi_lenr, bi_lens, bi_listt, bi_listl, bi_tupt, bi_tupl, bi_tupr, bi_gcd, bi_max, bi_min, bi_str, bi_sum, bi_all, bi_any, tr_non, tr_bl, tr_int, tr_tup, tr_lst, ty_nt, ty_tt, ty_ti, ty_ii, ty_it, ty_is, sl_tup, sl_lst, sq_tup, sq_lst, ls_lst, th_lst, wk_tup, wk_lst, opt_some, eqV_non, st__digits_end_2, st__digits_end_3, st__digits_end_4, h1', ix_tx hL, hlt, lit_zero, eq_tx oc z48, h3]
end
end K02
end
section
set_option Elab.async false
set_option linter.all false
set_option maxRecDepth 100000
set_option maxHeartbeats 1000000
namespace K02
open PySem MP
theorem cut_one {l : List Nat} : cut l none (some 1) = l.take 1 := by
  unfold cut
  cases l with
  | nil => rfl
  | cons c r => simp [edge, Nat.min_def]
theorem dEnd_some {l : List Nat} {k e : Nat} (h : dEnd l k = some e) : e = dRun l k ∧ k < e := by
  unfold dEnd at h
  split at h
  · cases h
  · rename_i hn
    have e1 := Option.some.inj h
    have := dRun_ge (l := l) (k := k)
    refine ⟨e1.symm, ?_⟩
    have : ¬ dRun l k = k := fun z => hn (Or.inl z)
    omega
theorem dEnd_cut {l : List Nat} {k e : Nat} (hk : k ≤ l.length) (h : dEnd l k = some e) : NumText.AllDigits (cut l (some (k : Int)) (some (e : Int))) ∧ cut l (some (k : Int)) (some (e : Int)) ≠ [] ∧ (cut l (some (k : Int)) (some (e : Int))).length ≤ l.length ∧ e ≤ l.length := by
  obtain ⟨rfl, hlt⟩ := dEnd_some h
  have e1 := dRun_cut hk
  have e2 : ((l.drop k).takeWhile dg).length = dRun l k - k := by unfold dRun; omega
  rw [e1]
  refine ⟨dRun_digits l k, fun z => ?_, ?_, dRun_le hk⟩
  · rw [z] at e2
    simp only [List.length_nil] at e2
    omega
  · rw [e2]
    have := dRun_le hk
    omega
def rdS (l : List Nat) : Nat := if l.take 1 = [45] then 1 else 0
theorem rdS_le (l : List Nat) : rdS l ≤ l.length := by
  unfold rdS
  split
  · rename_i h
    have z := congrArg List.length h
    rw [List.length_take] at z
    simp only [List.length_cons, List.length_nil] at z
    omega
  · omega
def numAt (l : List Nat) (k e : Nat) : Nat := NumText.digitsVal (cut l (some (k : Int)) (some (e : Int)))
def sg (s v : Nat) : Int := if s = 0 then (v : Int) else -(v : Int)
def rdM (l : List Nat) : Nat ⊕ (Int × Int) := match dEnd l (rdS l) with
  | none => .inl (rdS l)
  | some e =>
    if l[e]? = some 47 then
      match dEnd l (e + 1) with
      | none => .inl (e + 1)
      | some e2 => if numAt l (e + 1) e2 = 0 then .inl (e + 1) else if e2 < l.length then .inl e2 else .inr (sg (rdS l) (numAt l (rdS l) e), (numAt l (e + 1) e2 : Nat))
    else if e < l.length then .inl e else .inr (sg (rdS l) (numAt l (rdS l) e), 1)
section
variable {d : Nat} {l : List Nat} {S : Sto}
theorem int_cut {k e : Nat} (hl : l.length ≤ 600) (hk : k ≤ l.length) (h : dEnd l k = some e) : biV S .int [.str (Tx (cut l (some (k : Int)) (some (e : Int))))] = some (.int (numAt l k e : Nat)) := by
  obtain ⟨a, b, c, _⟩ := dEnd_cut hk h
  exact int_tx a b (by omega)
theorem slash {e : Nat} (ho : okL l) (h : e < l.length) : eqV S (.str (Tx [l[e]])) (.str (Tx [47])) = some (decide (l[e] = 47)) := by
  have z47 : okL [47] := fun c m => by rw [List.mem_singleton.mp m]; decide
  have oc : okL [l[e]] := fun c m => ho c (by rw [List.mem_singleton.mp m]; exact List.getElem_mem h)
  rw [eq_tx oc z47]
  simp
theorem c_read (hl : l.length ≤ 600) (ho : okL l) : callN F (d + 2) n_read_fraction [.str (Tx l)] S = match rdM l with
    | .inl p => .exc 1 [.int p] S
    | .inr (t, b) => .ok (fr (Rat.divInt t b)) S := by
  have hL := len_ok hl
  have z45 : okL [45] := fun c m => by rw [List.mem_singleton.mp m]; decide
  have o1 : okL (l.take 1) := fun c m => ho c (List.mem_of_mem_take m)
  have hsl := rdS_le l
  have s0 : ∀ T, xst (callN F (d + 1)) S.cells.length st_read_fraction_0 [some (.str (Tx l)), none, none, none, none, none] T = .next [some (.str (Tx l)), some (.int (rdS l : Nat)), none, none, none, none] T := by
    intro T
    by_cases h : l.take 1 = [45]
    · simp [st_read_fraction_0, bd_ok, bd_exc, st_ok, st_exc, xss_cons, xss_nil, seq_next, seq_ret, seq_brk, seq_cont, seq_exc, eqV_int, xst, ev, evT, evs, evo, evc, evi, itemAt, MP.placeOf, bindT, bindTs, unslot, hold, unhold, subR, freeze, ix_tup, ix_lst, ix_r, cm_eq, cm_ne, cm_lt, cm_le, cm_gt, cm_ge, cm_isn, cm_nisn, cm_isb, cm_inn, cm_nin, op_ad, op_sb, op_ml, op_dv, op_md, op_pw, op_sl, op_as, op_at, op_mt, op_al, bi_abs, bi_int, bi_intb, bi_lent, bi_lenl, bi_lenr, bi_lens, bi_listt, bi_listl, bi_tupt, bi_tupl, bi_tupr, bi_gcd, bi_max, bi_min, bi_str, bi_sum, bi_all, bi_any, tr_non, tr_bl, tr_int, tr_tup, tr_lst, ty_nt, ty_tt, ty_ti, ty_ii, ty_it, ty_is, sl_tup, sl_lst, sq_tup, sq_lst, ls_lst, th_lst, wk_tup, wk_lst, opt_some, eqV_non, sl_tx hL, cut_one, lit_minus, eq_tx z45 z45, h, rdS]
    · simp [st_read_fraction_0, bd_ok, bd_exc, st_ok, st_exc, xss_cons, xss_nil, seq_next, seq_ret, seq_brk, seq_cont, seq_exc, eqV_int, xst, ev, evT, evs, evo, evc, evi, itemAt, MP.placeOf, bindT, bindTs, unslot, hold, unhold, subR, freeze, ix_tup, ix_lst, ix_r, cm_eq, cm_ne, cm_lt, cm_le, cm_gt, cm_ge, cm_isn, cm_nisn, cm_isb, cm_inn, cm_nin, op_ad, op_sb, op_ml, op_dv, op_md, op_pw, op_sl, op_as, op_at, op_mt, op_al, bi_abs, bi_int, bi_intb, bi_lent, bi_lenl, bi_lenr, bi_lens, bi_listt, bi_listl, bi_tupt, bi_tupl, bi_tupr, bi_gcd, bi_max, bi_min, bi_str, bi_sum, bi_all, bi_any, tr_non, tr_bl, tr_int, tr_tup, tr_lst, ty_nt, ty_tt, ty_ti, ty_ii, ty_it, ty_is, sl_tup, sl_lst, sq_tup, sq_lst, ls_lst, th_lst, wk_tup, wk_lst, opt_some, eqV_non, sl_tx hL, cut_one, lit_minus, eq_tx o1 z45, h, rdS]
  generalize hs : rdS l = s at s0 hsl
  have cd := fun k hk => c_dend (d := d) (l := l) (S := ⟨S.cells, false⟩) (k := k) hl ho hk
  rw [callN_of (fd := ⟨1, 6, b_read_fraction⟩) rfl rfl]
  unfold rdM
  rw [hs]
  have c1 := cd s hsl
  cases h1 : dEnd l s with
  | none =>
    rw [h1] at c1
    refine run_exc (σ := [some (.str (Tx l)), some (.int s), none, none, none, none]) ?_ rfl
    unfold b_read_fraction
    show xss (callN F (d + 1)) S.cells.length _ [some (.str (Tx l)), none, none, none, none, none] _ = _
    rw [xss_step (s0 _)]
    simp [st_read_fraction_1, bd_ok, bd_exc, st_ok, st_exc, xss_cons, xss_nil, seq_next, seq_ret, seq_brk, seq_cont, seq_exc, eqV_int, xst, ev, evT, evs, evo, evc, evi, itemAt, MP.placeOf, bindT, bindTs, unslot, hold, unhold, subR, freeze, ix_tup, ix_lst, ix_r, cm_eq, cm_ne, cm_lt, cm_le, cm_gt, cm_ge, cm_isn, cm_nisn, cm_isb, cm_inn, cm_nin, op_ad, op_sb, op_ml, op_dv, op_md, op_pw, op_sl, op_as, op_at, op_mt, op_al, bi_abs, bi_int, bi_intb, bi_lent, bi_lenl, bi_lenr, bi_lens, bi_listt, bi_listl, bi_tupt, bi_tupl, bi_tupr, bi_gcd, bi_max, bi_min, bi_str, bi_sum, bi_all, bi_any, tr_non, tr_bl, tr_int, tr_tup, tr_lst, ty_nt, ty_tt, ty_ti, ty_ii, ty_it, ty_is, sl_tup, sl_lst, sq_tup, sq_lst, ls_lst, th_lst, wk_tup, wk_lst, opt_some, eqV_non, c1]
  | some e =>
    rw [h1] at c1
    obtain ⟨_, _, _, he⟩ := dEnd_cut hsl h1
    have i1 := int_cut (S := ⟨S.cells, false⟩) hl hsl h1
    have st : ∀ ss, xss (callN F (d + 1)) S.cells.length (.cons st_read_fraction_0 (.cons st_read_fraction_1 (.cons st_read_fraction_2 (.cons st_read_fraction_3 ss)))) [some (.str (Tx l)), none, none, none, none, none] ⟨S.cells, false⟩ =
        xss (callN F (d + 1)) S.cells.length ss [some (.str (Tx l)), some (.int s), some (.int e), some (.int (numAt l s e : Nat)), some (.int 1), none] ⟨S.cells, false⟩ := by
      intro ss
      rw [xss_step (s0 _), xss_step (σ' := [some (.str (Tx l)), some (.int s), some (.int e), none, none, none]) (S' := ⟨S.cells, false⟩) (by simp [st_read_fraction_1, bd_ok, bd_exc, st_ok, st_exc, xss_cons, xss_nil, seq_next, seq_ret, seq_brk, seq_cont, seq_exc, eqV_int, xst, ev, evT, evs, evo, evc, evi, itemAt, MP.placeOf, bindT, bindTs, unslot, hold, unhold, subR, freeze, ix_tup, ix_lst, ix_r, cm_eq, cm_ne, cm_lt, cm_le, cm_gt, cm_ge, cm_isn, cm_nisn, cm_isb, cm_inn, cm_nin, op_ad, op_sb, op_ml, op_dv, op_md, op_pw, op_sl, op_as, op_at, op_mt, op_al, bi_abs, bi_int, bi_intb, bi_lent, bi_lenl, bi_lenr, bi_lens, bi_listt, bi_listl, bi_tupt, bi_tupl, bi_tupr, bi_gcd, bi_max, bi_min, bi_str, bi_sum, bi_all, bi_any, tr_non, tr_bl, tr_int, tr_tup, tr_lst, ty_nt, ty_tt, ty_ti, ty_ii, ty_it, ty_is, sl_tup, sl_lst, sq_tup, sq_lst, ls_lst, th_lst, wk_tup, wk_lst, opt_some, eqV_non, c1]),
        xss_step (σ' := [some (.str (Tx l)), some (.int s), some (.int e), some (.int (numAt l s e : Nat)), none, none]) (S' := ⟨S.cells, false⟩) (by simp [st_read_fraction_2, bd_ok, bd_exc, st_ok, st_exc, xss_cons, xss_nil, seq_next, seq_ret, seq_brk, seq_cont, seq_exc, eqV_int, xst, ev, evT, evs, evo, evc, evi, itemAt, MP.placeOf, bindT, bindTs, unslot, hold, unhold, subR, freeze, ix_tup, ix_lst, ix_r, cm_eq, cm_ne, cm_lt, cm_le, cm_gt, cm_ge, cm_isn, cm_nisn, cm_isb, cm_inn, cm_nin, op_ad, op_sb, op_ml, op_dv, op_md, op_pw, op_sl, op_as, op_at, op_mt, op_al, bi_abs, bi_int, bi_intb, bi_lent, bi_lenl, bi_lenr, bi_lens, bi_listt, bi_listl, bi_tupt, bi_tupl, bi_tupr, bi_gcd, bi_max, bi_min, bi_str, bi_sum, bi_all, bi_any, tr_non, tr_bl, tr_int, tr_tup, tr_lst, ty_nt, ty_tt, ty_ti, ty_ii, ty_it, ty_is, sl_tup, sl_lst, sq_tup, sq_lst, ls_lst, th_lst, wk_tup, wk_lst, opt_some, eqV_non, sl_tx hL, i1]),
        xss_step (σ' := [some (.str (Tx l)), some (.int s), some (.int e), some (.int (numAt l s e : Nat)), some (.int 1), none]) (S' := ⟨S.cells, false⟩) (by simp [st_read_fraction_3, bd_ok, bd_exc, st_ok, st_exc, xss_cons, xss_nil, seq_next, seq_ret, seq_brk, seq_cont, seq_exc, eqV_int, xst, ev, evT, evs, evo, evc, evi, itemAt, MP.placeOf, bindT, bindTs, unslot, hold, unhold, subR, freeze, ix_tup, ix_lst, ix_r, cm_eq, cm_ne, cm_lt, cm_le, cm_gt, cm_ge, cm_isn, cm_nisn, cm_isb, cm_inn, cm_nin, op_ad, op_sb, op_ml, op_dv, op_md, op_pw, op_sl, op_as, op_at, op_mt, op_al, bi_abs, bi_int, bi_intb, bi_lent, bi_lenl, bi_lenr, bi_lens, bi_listt, bi_listl, bi_tupt, bi_tupl, bi_tupr, bi_gcd, bi_max, bi_min, bi_str, bi_sum, bi_all, bi_any, tr_non, tr_bl, tr_int, tr_tup, tr_lst, ty_nt, ty_tt, ty_ti, ty_ii, ty_it, ty_is, sl_tup, sl_lst, sq_tup, sq_lst, ls_lst, th_lst, wk_tup, wk_lst, opt_some, eqV_non])]
    have hsg : ∀ v : Nat, (if ((s : Int) != 0) = true then -(v : Int) else v) = sg s v := fun v => by
      unfold sg
      by_cases z : s = 0
      · subst z; rfl
      · rw [if_neg z, if_pos (by simpa using z)]
    have mk : ∀ (v : Int) (w : Int) T, w ≠ 0 → callN F (d + 1) n_make [.int v, .int w] T = .ok (fr (Rat.divInt v w)) T := fun v w T hw => r_make hw
    have fin6 : ∀ (v w : Nat) (oe q : Option PV) T, w ≠ 0 → xss (callN F (d + 1)) S.cells.length (.cons st_read_fraction_6 .nil) [some (.str (Tx l)), some (.int s), oe, some (.int (v : Nat)), some (.int (w : Nat)), q] T = .ret (fr (Rat.divInt (sg s v) w)) T := by
      intro v w oe q T hw
      have z := mk (sg s v) w T (by omega)
      by_cases h0 : s = 0
      · subst h0
        have z : callN F (d + 1) n_make [.int (v : Int), .int (w : Int)] T = .ok (fr (Rat.divInt (sg 0 v) w)) T := z
        simp [st_read_fraction_6, bd_ok, bd_exc, st_ok, st_exc, xss_cons, xss_nil, seq_next, seq_ret, seq_brk, seq_cont, seq_exc, eqV_int, xst, ev, evT, evs, evo, evc, evi, itemAt, MP.placeOf, bindT, bindTs, unslot, hold, unhold, subR, freeze, ix_tup, ix_lst, ix_r, cm_eq, cm_ne, cm_lt, cm_le, cm_gt, cm_ge, cm_isn, cm_nisn, cm_isb, cm_inn, cm_nin, op_ad, op_sb, op_ml, op_dv, op_md, op_pw, op_sl, op_as, op_at, op_mt, op_al, bi_abs, bi_int, bi_intb, bi_lent, bi_lenl, bi_lenr, bi_lens, bi_listt, bi_listl, bi_tupt, bi_tupl, bi_tupr, bi_gcd, bi_max, bi_min, bi_str, bi_sum, bi_all, bi_any, tr_non, tr_bl, tr_int, tr_tup, tr_lst, ty_nt, ty_tt, ty_ti, ty_ii, ty_it, ty_is, sl_tup, sl_lst, sq_tup, sq_lst, ls_lst, th_lst, wk_tup, wk_lst, opt_some, eqV_non, z]
      · have z : callN F (d + 1) n_make [.int (-(v : Int)), .int (w : Int)] T = .ok (fr (Rat.divInt (sg s v) w)) T := by rw [← z]; unfold sg; rw [if_neg h0]
        have hne : ((s : Int) != 0) = true := by simpa using h0
        simp [st_read_fraction_6, bd_ok, bd_exc, st_ok, st_exc, xss_cons, xss_nil, seq_next, seq_ret, seq_brk, seq_cont, seq_exc, eqV_int, xst, ev, evT, evs, evo, evc, evi, itemAt, MP.placeOf, bindT, bindTs, unslot, hold, unhold, subR, freeze, ix_tup, ix_lst, ix_r, cm_eq, cm_ne, cm_lt, cm_le, cm_gt, cm_ge, cm_isn, cm_nisn, cm_isb, cm_inn, cm_nin, op_ad, op_sb, op_ml, op_dv, op_md, op_pw, op_sl, op_as, op_at, op_mt, op_al, bi_abs, bi_int, bi_intb, bi_lent, bi_lenl, bi_lenr, bi_lens, bi_listt, bi_listl, bi_tupt, bi_tupl, bi_tupr, bi_gcd, bi_max, bi_min, bi_str, bi_sum, bi_all, bi_any, tr_non, tr_bl, tr_int, tr_tup, tr_lst, ty_nt, ty_tt, ty_ti, ty_ii, ty_it, ty_is, sl_tup, sl_lst, sq_tup, sq_lst, ls_lst, th_lst, wk_tup, wk_lst, opt_some, eqV_non, z, hne]
    show _ = (match (if l[e]? = some 47 then _ else _ : Nat ⊕ (Int × Int)) with
      | .inl p => MP.R.exc 1 [.int p] S
      | .inr (t, b) => MP.R.ok (fr (Rat.divInt t b)) S)
    by_cases h2 : l[e]? = some 47
    · rw [if_pos h2]
      have h3 : e < l.length := (List.getElem?_eq_some_iff.mp h2).1
      have c2 := cd (e + 1) h3
      have h2' : decide (l[e] = 47) = true := decide_eq_true (Option.some.inj ((List.getElem?_eq_getElem h3).symm.trans h2))
      have e1 : ((e + 1 : Nat) : Int) = (e : Int) + 1 := rfl
      cases h4 : dEnd l (e + 1) with
      | none =>
        rw [h4] at c2
        refine run_exc (σ := [some (.str (Tx l)), some (.int s), some (.int e), some (.int (numAt l s e : Nat)), some (.int 1), none]) ?_ rfl
        refine (st _).trans ?_
        simp only [e1] at c2 ⊢
        simp [st_read_fraction_4, bd_ok, bd_exc, st_ok, st_exc, xss_cons, xss_nil, seq_next, seq_ret, seq_brk, seq_cont, seq_exc, eqV_int, xst, ev, evT, evs, evo, evc, evi, itemAt, MP.placeOf, bindT, bindTs, unslot, hold, unhold, subR, freeze, ix_tup, ix_lst, ix_r, cm_eq, cm_ne, cm_lt, cm_le, cm_gt, cm_ge, cm_isn, cm_nisn, cm_isb, cm_inn, cm_nin, op_ad, op_sb, op_ml, op_dv, op_md, op_pw, op_sl, op_as, op_at, op_mt, op_al, bi_abs, bi_int, bi_intb, bi_lent, bi_lenl, bi_lenr, bi_lens, bi_listt, bi_listl, bi_tupt, bi_tupl, bi_tupr, bi_gcd, bi_max, bi_min, bi_str, bi_sum, bi_all, bi_any, tr_non, tr_bl, tr_int, tr_tup, tr_lst, ty_nt, ty_tt, ty_ti, ty_ii, ty_it, ty_is, sl_tup, sl_lst, sq_tup, sq_lst, ls_lst, th_lst, wk_tup, wk_lst, opt_some, eqV_non, len_tx hL, h3, ix_tx hL, lit_slash, slash ho h3, h2', c2]
      | some e2 =>
        rw [h4] at c2
        obtain ⟨_, _, _, he2⟩ := dEnd_cut h3 h4
        have i2 := int_cut (S := ⟨S.cells, false⟩) (k := e + 1) hl h3 h4
        simp only [e1] at c2 i2
        show _ = (match (if numAt l (e + 1) e2 = 0 then _ else _ : Nat ⊕ (Int × Int)) with
          | .inl p => MP.R.exc 1 [.int p] S
          | .inr (t, b) => MP.R.ok (fr (Rat.divInt t b)) S)
        by_cases h5 : numAt l (e + 1) e2 = 0
        · rw [if_pos h5]
          refine run_exc (σ := [some (.str (Tx l)), some (.int s), some (.int e), some (.int (numAt l s e : Nat)), some (.int 0), some (.int e2)]) ?_ rfl
          refine (st _).trans ?_
          simp [st_read_fraction_4, bd_ok, bd_exc, st_ok, st_exc, xss_cons, xss_nil, seq_next, seq_ret, seq_brk, seq_cont, seq_exc, eqV_int, xst, ev, evT, evs, evo, evc, evi, itemAt, MP.placeOf, bindT, bindTs, unslot, hold, unhold, subR, freeze, ix_tup, ix_lst, ix_r, cm_eq, cm_ne, cm_lt, cm_le, cm_gt, cm_ge, cm_isn, cm_nisn, cm_isb, cm_inn, cm_nin, op_ad, op_sb, op_ml, op_dv, op_md, op_pw, op_sl, op_as, op_at, op_mt, op_al, bi_abs, bi_int, bi_intb, bi_lent, bi_lenl, bi_lenr, bi_lens, bi_listt, bi_listl, bi_tupt, bi_tupl, bi_tupr, bi_gcd, bi_max, bi_min, bi_str, bi_sum, bi_all, bi_any, tr_non, tr_bl, tr_int, tr_tup, tr_lst, ty_nt, ty_tt, ty_ti, ty_ii, ty_it, ty_is, sl_tup, sl_lst, sq_tup, sq_lst, ls_lst, th_lst, wk_tup, wk_lst, opt_some, eqV_non, len_tx hL, h3, ix_tx hL, lit_slash, slash ho h3, h2', c2, sl_tx hL, i2, h5]
        · rw [if_neg h5]
          have s4 : xst (callN F (d + 1)) S.cells.length st_read_fraction_4 [some (.str (Tx l)), some (.int s), some (.int e), some (.int (numAt l s e : Nat)), some (.int 1), none] ⟨S.cells, false⟩ = .next [some (.str (Tx l)), some (.int s), some (.int e2), some (.int (numAt l s e : Nat)), some (.int (numAt l (e + 1) e2 : Nat)), some (.int e2)] ⟨S.cells, false⟩ := by
            simp [st_read_fraction_4, bd_ok, bd_exc, st_ok, st_exc, xss_cons, xss_nil, seq_next, seq_ret, seq_brk, seq_cont, seq_exc, eqV_int, xst, ev, evT, evs, evo, evc, evi, itemAt, MP.placeOf, bindT, bindTs, unslot, hold, unhold, subR, freeze, ix_tup, ix_lst, ix_r, cm_eq, cm_ne, cm_lt, cm_le, cm_gt, cm_ge, cm_isn, cm_nisn, cm_isb, cm_inn, cm_nin, op_ad, op_sb, op_ml, op_dv, op_md, op_pw, op_sl, op_as, op_at, op_mt, op_al, bi_abs, bi_int, bi_intb, bi_lent, bi_lenl, bi_lenr, bi_lens, bi_listt, bi_listl, bi_tupt, bi_tupl, bi_tupr, bi_gcd, bi_max, bi_min, bi_str, bi_sum, bi_all, bi_any, tr_non, tr_bl, tr_int, tr_tup, tr_lst, ty_nt, ty_tt, ty_ti, ty_ii, ty_it, ty_is, sl_tup, sl_lst, sq_tup, sq_lst, ls_lst, th_lst, wk_tup, wk_lst, opt_some, eqV_non, len_tx hL, h3, ix_tx hL, lit_slash, slash ho h3, h2', c2, sl_tx hL, i2, h5]
          by_cases h6 : e2 < l.length
          · rw [if_pos h6]
            refine run_exc (σ := [some (.str (Tx l)), some (.int s), some (.int e2), some (.int (numAt l s e : Nat)), some (.int (numAt l (e + 1) e2 : Nat)), some (.int e2)]) ?_ rfl
            refine (st _).trans ?_
            rw [xss_step s4]
            simp [st_read_fraction_5, bd_ok, bd_exc, st_ok, st_exc, xss_cons, xss_nil, seq_next, seq_ret, seq_brk, seq_cont, seq_exc, eqV_int, xst, ev, evT, evs, evo, evc, evi, itemAt, MP.placeOf, bindT, bindTs, unslot, hold, unhold, subR, freeze, ix_tup, ix_lst, ix_r, cm_eq, cm_ne, cm_lt, cm_le, cm_gt, cm_ge, cm_isn, cm_nisn, cm_isb, cm_inn, cm_nin, op_ad, op_sb, op_ml, op_dv, op_md, op_pw, op_sl, op_as, op_at, op_mt, op_al, bi_abs, bi_int, bi_intb, bi_lent, bi_lenl, bi_lenr, bi_lens, bi_listt, bi_listl, bi_tupt, bi_tupl, bi_tupr, bi_gcd, bi_max, bi_min, bi_str, bi_sum, bi_all, bi_any, tr_non, tr_bl, tr_int, tr_tup, tr_lst, ty_nt, ty_tt, ty_ti, ty_ii, ty_it, ty_is, sl_tup, sl_lst, sq_tup, sq_lst, ls_lst, th_lst, wk_tup, wk_lst, opt_some, eqV_non, len_tx hL, h6]
          · rw [if_neg h6]
            refine run_ret ?_ (fr_pure _)
            refine (st _).trans ?_
            rw [xss_step s4, xss_step (σ' := [some (.str (Tx l)), some (.int s), some (.int e2), some (.int (numAt l s e : Nat)), some (.int (numAt l (e + 1) e2 : Nat)), some (.int e2)]) (S' := ⟨S.cells, false⟩) (by simp [st_read_fraction_5, bd_ok, bd_exc, st_ok, st_exc, xss_cons, xss_nil, seq_next, seq_ret, seq_brk, seq_cont, seq_exc, eqV_int, xst, ev, evT, evs, evo, evc, evi, itemAt, MP.placeOf, bindT, bindTs, unslot, hold, unhold, subR, freeze, ix_tup, ix_lst, ix_r, cm_eq, cm_ne, cm_lt, cm_le, cm_gt, cm_ge, cm_isn, cm_nisn, cm_isb, cm_inn, cm_nin, op_ad, op_sb, op_ml, op_dv, op_md, op_pw, op_sl, op_as, op_at, op_mt, op_al, bi_abs, bi_int, bi_intb, bi_lent, bi_lenl, bi_lenr, bi_lens, bi_listt, bi_listl, bi_tupt, bi_tupl, bi_tupr, bi_gcd, bi_max, bi_min, bi_str, bi_sum, bi_all, bi_any, tr_non, tr_bl, tr_int, tr_tup, tr_lst, ty_nt, ty_tt, ty_ti, ty_ii, ty_it, ty_is, sl_tup, sl_lst, sq_tup, sq_lst, ls_lst, th_lst, wk_tup, wk_lst, opt_some, eqV_non, len_tx hL, h6])]
            exact fin6 _ _ _ _ _ h5
    · rw [if_neg h2]
      have s4 : ∀ T, xst (callN F (d + 1)) S.cells.length st_read_fraction_4 [some (.str (Tx l)), some (.int s), some (.int e), some (.int (numAt l s e : Nat)), some (.int 1), none] T = .next [some (.str (Tx l)), some (.int s), some (.int e), some (.int (numAt l s e : Nat)), some (.int 1), none] T := by
        intro T
        by_cases h3 : e < l.length
        · have h2' : decide (l[e] = 47) = false := decide_eq_false fun z => h2 (by rw [List.getElem?_eq_getElem h3, z])
          simp [st_read_fraction_4, bd_ok, bd_exc, st_ok, st_exc, xss_cons, xss_nil, seq_next, seq_ret, seq_brk, seq_cont, seq_exc, eqV_int, xst, ev, evT, evs, evo, evc, evi, itemAt, MP.placeOf, bindT, bindTs, unslot, hold, unhold, subR, freeze, ix_tup, ix_lst, ix_r, cm_eq, cm_ne, cm_lt, cm_le, cm_gt, cm_ge, cm_isn, cm_nisn, cm_isb, cm_inn, cm_nin, op_ad, op_sb, op_ml, op_dv, op_md, op_pw, op_sl, op_as, op_at, op_mt, op_al, bi_abs, bi_int, bi_intb, bi_lent, bi_lenl, bi_lenr, bi_lens, bi_listt, bi_listl, bi_tupt, bi_tupl, bi_tupr, bi_gcd, bi_max, bi_min, bi_str, bi_sum, bi_all, bi_any, tr_non, tr_bl, tr_int, tr_tup, tr_lst, ty_nt, ty_tt, ty_ti, ty_ii, ty_it, ty_is, sl_tup, sl_lst, sq_tup, sq_lst, ls_lst, th_lst, wk_tup, wk_lst, opt_some, eqV_non, len_tx hL, h3, ix_tx hL, lit_slash, slash ho h3, h2']
        · simp [st_read_fraction_4, bd_ok, bd_exc, st_ok, st_exc, xss_cons, xss_nil, seq_next, seq_ret, seq_brk, seq_cont, seq_exc, eqV_int, xst, ev, evT, evs, evo, evc, evi, itemAt, MP.placeOf, bindT, bindTs, unslot, hold, unhold, subR, freeze, ix_tup, ix_lst, ix_r, cm_eq, cm_ne, cm_lt, cm_le, cm_gt, cm_ge, cm_isn, cm_nisn, cm_isb, cm_inn, cm_nin, op_ad, op_sb, op_ml, op_dv, op_md, op_pw, op_sl, op_as, op_at, op_mt, op_al, bi_abs, bi_int, bi_intb, bi_lent, bi_lenl, bi_lenr, bi_lens, bi_listt, bi_listl, bi_tupt, bi_tupl, bi_tupr, bi_gcd, bi_max, bi_min, bi_str, bi_sum, bi_all, bi_any, tr_non, tr_bl, tr_int, tr_tup, tr_lst, ty_nt, ty_tt, ty_ti, ty_ii, ty_it, ty_is, sl_tup, sl_lst, sq_tup, sq_lst, ls_lst, th_lst, wk_tup, wk_lst, opt_some, eqV_non, len_tx hL, h3]
      by_cases h3 : e < l.length
      · rw [if_pos h3]
        refine run_exc (σ := [some (.str (Tx l)), some (.int s), some (.int e), some (.int (numAt l s e : Nat)), some (.int 1), none]) ?_ rfl
        refine (st _).trans ?_
        rw [xss_step (s4 _)]
        simp [st_read_fraction_5, bd_ok, bd_exc, st_ok, st_exc, xss_cons, xss_nil, seq_next, seq_ret, seq_brk, seq_cont, seq_exc, eqV_int, xst, ev, evT, evs, evo, evc, evi, itemAt, MP.placeOf, bindT, bindTs, unslot, hold, unhold, subR, freeze, ix_tup, ix_lst, ix_r, cm_eq, cm_ne, cm_lt, cm_le, cm_gt, cm_ge, cm_isn, cm_nisn, cm_isb, cm_inn, cm_nin, op_ad, op_sb, op_ml, op_dv, op_md, op_pw, op_sl, op_as, op_at, op_mt, op_al, bi_abs, bi_int, bi_intb, bi_lent, bi_lenl, bi_lenr, bi_lens, bi_listt, bi_listl, bi_tupt, bi_tupl, bi_tupr, bi_gcd, bi_max, bi_min, bi_str, bi_sum, bi_all, bi_any, tr_non, tr_bl, tr_int, tr_tup, tr_lst, ty_nt, ty_tt, ty_ti, ty_ii, ty_it, ty_is, sl_tup, sl_lst, sq_tup, sq_lst, ls_lst, th_lst, wk_tup, wk_lst, opt_some, eqV_non, len_tx hL, h3]
      · rw [if_neg h3]
        refine run_ret ?_ (fr_pure _)
        refine (st _).trans ?_
        rw [xss_step (s4 _), xss_step (σ' := [some (.str (Tx l)), some (.int s), some (.int e), some (.int (numAt l s e : Nat)), some (.int 1), none]) (S' := ⟨S.cells, false⟩) (by simp [st_read_fraction_5, bd_ok, bd_exc, st_ok, st_exc, xss_cons, xss_nil, seq_next, seq_ret, seq_brk, seq_cont, seq_exc, eqV_int, xst, ev, evT, evs, evo, evc, evi, itemAt, MP.placeOf, bindT, bindTs, unslot, hold, unhold, subR, freeze, ix_tup, ix_lst, ix_r, cm_eq, cm_ne, cm_lt, cm_le, cm_gt, cm_ge, cm_isn, cm_nisn, cm_isb, cm_inn, cm_nin, op_ad, op_sb, op_ml, op_dv, op_md, op_pw, op_sl, op_as, op_at, op_mt, op_al, bi_abs, bi_int, bi_intb, bi_lent, bi_lenl, bi_lenr, bi_lens, bi_listt, bi_listl, bi_tupt, bi_tupl, bi_tupr, bi_gcd, bi_max, bi_min, bi_str, bi_sum, bi_all, bi_any, tr_non, tr_bl, tr_int, tr_tup, tr_lst, ty_nt, ty_tt, ty_ti, ty_ii, ty_it, ty_is, sl_tup, sl_lst, sq_tup, sq_lst, ls_lst, th_lst, wk_tup, wk_lst, opt_some, eqV_non, len_tx hL, h3])]
        exact fin6 _ 1 _ none _ (by decide)
end
end K02
end
section
set_option Elab.async false
set_option linter.all false
set_option maxRecDepth 100000
set_option maxHeartbeats 1000000
namespace K02
open PySem MP
section
variable {d : Nat} {l : List Nat} {S : Sto}
theorem digs_step {C : Nat → List PV → Sto → MP.R PV} {b : Nat} {k : Int} {j : Nat} {x : Option PV} (hl : l.length ≤ 600) : xss C b bk__law_digits_0 [some (.str (Tx l)), some (.int k), some (.int j), x] S = .next [some (.str (Tx l)), some (.int k), some (.int ((match l[j]? with | some c => if dg c = true then j + 1 else j | none => j : Nat) : Int)), x] S := by
  have hl := len_ok hl
  unfold bk__law_digits_0
  by_cases h : j < l.length
  · have e := List.getElem?_eq_getElem h
    rw [e]
    cases hd : dg l[j] with
    | true => simp [bd_ok, bd_exc, st_ok, st_exc, xss_cons, xss_nil, seq_next, seq_ret, seq_brk, seq_cont, seq_exc, eqV_int, xst, ev, evT, evs, evo, evc, evi, itemAt, MP.placeOf, bindT, bindTs, unslot, hold, unhold, subR, freeze, ix_tup, ix_lst, ix_r, cm_eq, cm_ne, cm_lt, cm_le, cm_gt, cm_ge, cm_isn, cm_nisn, cm_isb, cm_inn, cm_nin, op_ad, op_sb, op_ml, op_dv, op_md, op_pw, op_sl, op_as, op_at, op_mt, op_al, bi_abs, bi_int, bi_intb, bi_lent, bi_lenl, bi_lenr, bi_lens, bi_listt, bi_listl, bi_tupt, bi_tupl, bi_tupr, bi_gcd, bi_max, bi_min, bi_str, bi_sum, bi_all, bi_any, tr_non, tr_bl, tr_int, tr_tup, tr_lst, ty_nt, ty_tt, ty_ti, ty_ii, ty_it, ty_is, sl_tup, sl_lst, sq_tup, sq_lst, ls_lst, th_lst, wk_tup, wk_lst, opt_some, eqV_non, len_tx hl, ix_tx hl, h, lit_digits, dig_in, dig_mem, hd]
    | false => simp [bd_ok, bd_exc, st_ok, st_exc, xss_cons, xss_nil, seq_next, seq_ret, seq_brk, seq_cont, seq_exc, eqV_int, xst, ev, evT, evs, evo, evc, evi, itemAt, MP.placeOf, bindT, bindTs, unslot, hold, unhold, subR, freeze, ix_tup, ix_lst, ix_r, cm_eq, cm_ne, cm_lt, cm_le, cm_gt, cm_ge, cm_isn, cm_nisn, cm_isb, cm_inn, cm_nin, op_ad, op_sb, op_ml, op_dv, op_md, op_pw, op_sl, op_as, op_at, op_mt, op_al, bi_abs, bi_int, bi_intb, bi_lent, bi_lenl, bi_lenr, bi_lens, bi_listt, bi_listl, bi_tupt, bi_tupl, bi_tupr, bi_gcd, bi_max, bi_min, bi_str, bi_sum, bi_all, bi_any, tr_non, tr_bl, tr_int, tr_tup, tr_lst, ty_nt, ty_tt, ty_ti, ty_ii, ty_it, ty_is, sl_tup, sl_lst, sq_tup, sq_lst, ls_lst, th_lst, wk_tup, wk_lst, opt_some, eqV_non, len_tx hl, ix_tx hl, h, lit_digits, dig_in, dig_mem, hd]
  · have e : l[j]? = none := List.getElem?_eq_none (by omega)
    rw [e]
    simp [bd_ok, bd_exc, st_ok, st_exc, xss_cons, xss_nil, seq_next, seq_ret, seq_brk, seq_cont, seq_exc, eqV_int, xst, ev, evT, evs, evo, evc, evi, itemAt, MP.placeOf, bindT, bindTs, unslot, hold, unhold, subR, freeze, ix_tup, ix_lst, ix_r, cm_eq, cm_ne, cm_lt, cm_le, cm_gt, cm_ge, cm_isn, cm_nisn, cm_isb, cm_inn, cm_nin, op_ad, op_sb, op_ml, op_dv, op_md, op_pw, op_sl, op_as, op_at, op_mt, op_al, bi_abs, bi_int, bi_intb, bi_lent, bi_lenl, bi_lenr, bi_lens, bi_listt, bi_listl, bi_tupt, bi_tupl, bi_tupr, bi_gcd, bi_max, bi_min, bi_str, bi_sum, bi_all, bi_any, tr_non, tr_bl, tr_int, tr_tup, tr_lst, ty_nt, ty_tt, ty_ti, ty_ii, ty_it, ty_is, sl_tup, sl_lst, sq_tup, sq_lst, ls_lst, th_lst, wk_tup, wk_lst, opt_some, eqV_non, len_tx hl, h]
def dE (o : Option Nat) : Int := match o with
  | none => -1
  | some e => e
theorem c_digs {k : Nat} (hl : l.length ≤ 40) (ho : okL l) (hk : k ≤ l.length) : callN F (d + 1) n__law_digits [.str (Tx l), .int k] S = .ok (.int (dE (dEnd l k))) S := by
  have hL := len_ok (l := l) (by omega)
  have hge := dRun_ge (l := l) (k := k)
  have hle := dRun_le hk
  obtain ⟨σ1, S1, lp, x, hσ, hS⟩ := for_rng (C := callN F d) (b := S.cells.length) (t := .name 3) (e := .cst (.int 40)) (p := bk__law_digits_0) (n := 40) (P := fun i σ S' => ∃ x, σ = [some (.str (Tx l)), some (.int k), some (.int (min (k + i) (dRun l k) : Nat)), x] ∧ S' = ⟨S.cells, false⟩)
    (σ := [some (.str (Tx l)), some (.int k), some (.int k), none]) (S := ⟨S.cells, false⟩) (by rw [ev]; rfl) (by omega) ⟨none, by rw [show min (k + 0) (dRun l k) = k from by omega], rfl⟩ (fun j σ S' hj ⟨x, e1, e2⟩ => by
      subst e1; subst e2
      refine ⟨_, _, _, rfl, digs_step (by omega), some (.int j), ?_, rfl⟩
      by_cases h : k + j < dRun l k
      · rw [show min (k + j) (dRun l k) = k + j by omega, show min (k + (j + 1)) (dRun l k) = k + j + 1 by omega]
        obtain ⟨c, h1, h2⟩ := dRun_in (l := l) (k := k) (j := k + j) (by omega) h
        rw [h1]
        simp [h2]
      · rw [show min (k + j) (dRun l k) = dRun l k by omega, show min (k + (j + 1)) (dRun l k) = dRun l k by omega]
        cases hc : l[dRun l k]? with
        | none => simp
        | some c => simp [dRun_out hc])
  rw [show min (k + 40) (dRun l k) = dRun l k by omega] at hσ
  rw [hσ, hS] at lp
  rw [callN_of (fd := ⟨2, 4, b__law_digits⟩) rfl rfl]
  refine run_ret ?_ rfl
  unfold b__law_digits
  show xss (callN F d) S.cells.length _ [some (.str (Tx l)), some (.int k), none, none] _ = _
  rw [xss_step (σ' := [some (.str (Tx l)), some (.int k), some (.int k), none]) (S' := ⟨S.cells, false⟩) (by simp [bd_ok, bd_exc, st_ok, st_exc, xss_cons, xss_nil, seq_next, seq_ret, seq_brk, seq_cont, seq_exc, eqV_int, xst, ev, evT, evs, evo, evc, evi, itemAt, MP.placeOf, bindT, bindTs, unslot, hold, unhold, subR, freeze, ix_tup, ix_lst, ix_r, cm_eq, cm_ne, cm_lt, cm_le, cm_gt, cm_ge, cm_isn, cm_nisn, cm_isb, cm_inn, cm_nin, op_ad, op_sb, op_ml, op_dv, op_md, op_pw, op_sl, op_as, op_at, op_mt, op_al, bi_abs, bi_int, bi_intb, bi_lent, bi_lenl, bi_lenr, bi_lens, bi_listt, bi_listl, bi_tupt, bi_tupl, bi_tupr, bi_gcd, bi_max, bi_min, bi_str, bi_sum, bi_all, bi_any, tr_non, tr_bl, tr_int, tr_tup, tr_lst, ty_nt, ty_tt, ty_ti, ty_ii, ty_it, ty_is, sl_tup, sl_lst, sq_tup, sq_lst, ls_lst, th_lst, wk_tup, wk_lst, opt_some, eqV_non, st__law_digits_0])]
  unfold st__law_digits_1
  rw [xss_step lp]
  have z48 : okL [48] := fun c m => by rw [List.mem_singleton.mp m]; decide
  unfold dEnd dE
  by_cases h1 : dRun l k = k
  · rw [if_pos (Or.inl h1)]
    simp [bd_ok, bd_exc, st_ok, st_exc, xss_cons, xss_nil, seq_next, seq_ret, seq_brk, seq_cont, seq_exc, eqV_int, xst, ev, evT, evs, evo, evc, evi, itemAt, MP.placeOf, bindT, bindTs, unslot, hold, unhold, subR, freeze, ix_tup, ix_lst, ix_r, cm_eq, cm_ne, cm_lt, cm_le, cm_gt, cm_ge, cm_isn, cm_nisn, cm_isb, cm_inn, cm_nin, op_ad, op_sb, op_ml, op_dv, op_md, op_pw, op_sl, op_as, op_at, op_mt, op_al, bi_abs, bi_int, bi_intb, bi_lent, bi_lenl, bi_lenr, bi_lens, bi_listt, bi_listl, bi_tupt, bi_tupl, bi_tupr, bi_gcd, bi_max, bi_min, bi_str, bi_sum, bi_all, bi_any, tr_non, tr_bl, tr_int, tr_tup, tr_lst, ty_nt, ty_tt, ty_ti, ty_ii, ty_it, ty_is, sl_tup, sl_lst, sq_tup, sq_lst, ls_lst, th_lst, wk_tup, wk_lst, opt_some, eqV_non, st__law_digits_2, h1]
  · have hlt : k < l.length := by omega
    have ei := List.getElem?_eq_getElem hlt
    have oc : okL [l[k]] := fun c m => ho c (by rw [List.mem_singleton.mp m]; exact List.getElem_mem hlt)
    have h1' : ¬ ((dRun l k : Nat) : Int) = (k : Int) := by omega
    have hd : (((k : Int) + 1 < ((dRun l k : Nat) : Int)) : Prop) = (k + 1 < dRun l k) := by
      apply propext; omega
    by_cases h2 : l[k]? = some 48 ∧ k + 1 < dRun l k
    · rw [if_pos (Or.inr h2)]
      have h3 : l[k] = 48 := Option.some.inj (ei.symm.trans h2.1)
      simp [bd_ok, bd_exc, st_ok, st_exc, xss_cons, xss_nil, seq_next, seq_ret, seq_brk, seq_cont, seq_exc, eqV_int, xst, ev, evT, evs, evo, evc, evi, itemAt, MP.placeOf, bindT, bindTs, unslot, hold, unhold, subR, freeze, ix_tup, ix_lst, ix_r, cm_eq, cm_ne, cm_lt, cm_le, cm_gt, cm_ge, cm_isn, cm_nisn, cm_isb, cm_inn, cm_nin, op_ad, op_sb, op_ml, op_dv, op_md, op_pw, op_sl, op_as, op_at, op_mt, op_al, bi_abs, bi_int, bi_intb, bi_lent, bi_lenl, bi_lenr, bi_lens, bi_listt, bi_listl, bi_tupt, bi_tupl, bi_tupr, bi_gcd, bi_max, bi_min, bi_str, bi_sum, bi_all, bi_any, tr_non, tr_bl, tr_int, tr_tup, tr_lst, ty_nt, ty_tt, ty_ti, ty_ii, ty_it, ty_is, sl_tup, sl_lst, sq_tup, sq_lst, ls_lst, th_lst, wk_tup, wk_lst, opt_some, eqV_non, st__law_digits_2, h1', ix_tx hL, hlt, h3, lit_zero, eq_tx z48 z48, hd, h2.2]
    · rw [if_neg (fun z => z.elim h1 h2)]
      rw [ei] at h2
      by_cases h3 : l[k] = 48
      · have h4 : ¬ k + 1 < dRun l k := fun z => h2 ⟨by rw [h3], z⟩
        simp [bd_ok, bd_exc, st_ok, st_exc, xss_cons, xss_nil, seq_next, seq_ret, seq_brk, seq_cont, seq_exc, eqV_int, xst, ev, evT, evs, evo, evc, evi, itemAt, MP.placeOf, bindT, bindTs, unslot, hold, unhold, subR, freeze, ix_tup, ix_lst, ix_r, cm_eq, cm_ne, cm_lt, cm_le, cm_gt, cm_ge, cm_isn, cm_nisn, cm_isb, cm_inn, cm_nin, op_ad, op_sb, op_ml, op_dv, op_md, op_pw, op_sl, op_as, op_at, op_mt, op_al, bi_abs, bi_int, bi_intb, bi_lent, bi_lenl, bi_lenr, bi_lens, bi_listt, bi_listl, bi_tupt, bi_tupl, bi_tupr, bi_gcd, bi_max, bi_min, bi_str, bi_sum, bi_all, bi_any, tr_non, tr_bl, tr_int, tr_tup, tr_lst, ty_nt, ty_tt, ty_ti, ty_ii, ty_it, ty_is, sl_tup, sl_lst, sq_tup, sq_lst, ls_lst, th_lst, wk_tup, wk_lst, opt_some, eqV_non, st__law_digits_2, st__law_digits_3, h1', ix_tx hL, hlt, h3, lit_zero, eq_tx z48 z48, hd, h4]
      · simp [bd_ok, bd_exc, st_ok, st_exc, xss_cons, xss_nil, seq_next, seq_ret, seq_brk, seq_cont, seq_exc, eqV_int, xst, ev, evT, evs, evo, evc, evi, itemAt, MP.placeOf, bindT, bindTs, unslot, hold, unhold, subR, freeze, ix_tup, ix_lst, ix_r, cm_eq, cm_ne, cm_lt, cm_le, cm_gt, cm_ge, cm_isn, cm_nisn, cm_isb, cm_inn, cm_nin, op_ad, op_sb, op_ml, op_dv, op_md, op_pw, op_sl, op_as, op_at, op_mt, op_al, bi_abs, bi_int, bi_intb, bi_lent, bi_lenl, bi_lenr, bi_lens, bi_listt, bi_listl, bi_tupt, bi_tupl, bi_tupr, bi_gcd, bi_max, bi_min, bi_str, bi_sum, bi_all, bi_any, tr_non, tr_bl, tr_int, tr_tup, tr_lst, ty_nt, ty_tt, ty_ti, ty_ii, ty_it, ty_is, sl_tup, sl_lst, sq_tup, sq_lst, ls_lst, th_lst, wk_tup, wk_lst, opt_some, eqV_non, st__law_digits_2, st__law_digits_3, h1', ix_tx hL, hlt, lit_zero, eq_tx oc z48, h3]
def rdV (r : Nat ⊕ (Int × Int)) : PV := match r with
  | .inl p => .tup [.str "wrong", .int p]
  | .inr (t, b) => .tup [.str "right", fr (Rat.divInt t b)]
theorem c_lread (hl : l.length ≤ 600) (ho : okL l) : callN F (d + 3) n__law_read [.str (Tx l)] S = .ok (rdV (rdM l)) S := by
  have h := c_read (d := d) (S := ⟨S.cells, false⟩) hl ho
  rw [callN_of (fd := ⟨1, 2, b__law_read⟩) rfl rfl]
  cases hr : rdM l with
  | inl p =>
    rw [hr] at h
    have h : callN F (d + 2) n_read_fraction [.str (Tx l)] ⟨S.cells, false⟩ = .exc 1 [.int p] ⟨S.cells, false⟩ := h
    refine run_ret ?_ rfl
    simp [bk__law_read_0, bk__law_read_1, st__law_read_0, b__law_read, bd_ok, bd_exc, st_ok, st_exc, xss_cons, xss_nil, seq_next, seq_ret, seq_brk, seq_cont, seq_exc, eqV_int, xst, ev, evT, evs, evo, evc, evi, itemAt, MP.placeOf, bindT, bindTs, unslot, hold, unhold, subR, freeze, ix_tup, ix_lst, ix_r, cm_eq, cm_ne, cm_lt, cm_le, cm_gt, cm_ge, cm_isn, cm_nisn, cm_isb, cm_inn, cm_nin, op_ad, op_sb, op_ml, op_dv, op_md, op_pw, op_sl, op_as, op_at, op_mt, op_al, bi_abs, bi_int, bi_intb, bi_lent, bi_lenl, bi_lenr, bi_lens, bi_listt, bi_listl, bi_tupt, bi_tupl, bi_tupr, bi_gcd, bi_max, bi_min, bi_str, bi_sum, bi_all, bi_any, tr_non, tr_bl, tr_int, tr_tup, tr_lst, ty_nt, ty_tt, ty_ti, ty_ii, ty_it, ty_is, sl_tup, sl_lst, sq_tup, sq_lst, ls_lst, th_lst, wk_tup, wk_lst, opt_some, eqV_non, h, caught, holdOk, rdV]
  | inr tb =>
    obtain ⟨t, b⟩ := tb
    rw [hr] at h
    have h : callN F (d + 2) n_read_fraction [.str (Tx l)] ⟨S.cells, false⟩ = .ok (fr (Rat.divInt t b)) ⟨S.cells, false⟩ := h
    refine run_ret (v := rdV (.inr (t, b))) ?_ (by unfold rdV; rfl)
    simp [bk__law_read_0, bk__law_read_1, st__law_read_0, b__law_read, bd_ok, bd_exc, st_ok, st_exc, xss_cons, xss_nil, seq_next, seq_ret, seq_brk, seq_cont, seq_exc, eqV_int, xst, ev, evT, evs, evo, evc, evi, itemAt, MP.placeOf, bindT, bindTs, unslot, hold, unhold, subR, freeze, ix_tup, ix_lst, ix_r, cm_eq, cm_ne, cm_lt, cm_le, cm_gt, cm_ge, cm_isn, cm_nisn, cm_isb, cm_inn, cm_nin, op_ad, op_sb, op_ml, op_dv, op_md, op_pw, op_sl, op_as, op_at, op_mt, op_al, bi_abs, bi_int, bi_intb, bi_lent, bi_lenl, bi_lenr, bi_lens, bi_listt, bi_listl, bi_tupt, bi_tupl, bi_tupr, bi_gcd, bi_max, bi_min, bi_str, bi_sum, bi_all, bi_any, tr_non, tr_bl, tr_int, tr_tup, tr_lst, ty_nt, ty_tt, ty_ti, ty_ii, ty_it, ty_is, sl_tup, sl_lst, sq_tup, sq_lst, ls_lst, th_lst, wk_tup, wk_lst, opt_some, eqV_non, h, caught, holdOk, rdV]
theorem c_due (hl : l.length ≤ 40) (ho : okL l) : callN F (d + 2) n__law_due [.str (Tx l)] S = .ok (rdV (rdM l)) S := by
  have hL := len_ok (l := l) (by omega)
  have hl6 : l.length ≤ 600 := by omega
  have z45 : okL [45] := fun c m => by rw [List.mem_singleton.mp m]; decide
  have hsl := rdS_le l
  have s0 : ∀ T, xst (callN F (d + 1)) S.cells.length st__law_due_0 [some (.str (Tx l)), none, none, none, none, none] T = .next [some (.str (Tx l)), some (.int (rdS l : Nat)), none, none, none, none] T := by
    intro T
    match l, ho, hL with
    | [], _, hL => simp [st__law_due_0, bd_ok, bd_exc, st_ok, st_exc, xss_cons, xss_nil, seq_next, seq_ret, seq_brk, seq_cont, seq_exc, eqV_int, xst, ev, evT, evs, evo, evc, evi, itemAt, MP.placeOf, bindT, bindTs, unslot, hold, unhold, subR, freeze, ix_tup, ix_lst, ix_r, cm_eq, cm_ne, cm_lt, cm_le, cm_gt, cm_ge, cm_isn, cm_nisn, cm_isb, cm_inn, cm_nin, op_ad, op_sb, op_ml, op_dv, op_md, op_pw, op_sl, op_as, op_at, op_mt, op_al, bi_abs, bi_int, bi_intb, bi_lent, bi_lenl, bi_lenr, bi_lens, bi_listt, bi_listl, bi_tupt, bi_tupl, bi_tupr, bi_gcd, bi_max, bi_min, bi_str, bi_sum, bi_all, bi_any, tr_non, tr_bl, tr_int, tr_tup, tr_lst, ty_nt, ty_tt, ty_ti, ty_ii, ty_it, ty_is, sl_tup, sl_lst, sq_tup, sq_lst, ls_lst, th_lst, wk_tup, wk_lst, opt_some, eqV_non, len_tx hL, rdS]
    | c :: r, ho, hL =>
      have oc : okL [c] := fun c' m => ho c' (by rw [List.mem_singleton.mp m]; exact List.mem_cons_self)
      have hp : (0 : Int) < (r.length : Int) + 1 := by omega
      have hp2 : (0 : Int) ≤ (r.length : Int) := by omega
      by_cases h : c = 45
      · subst h
        simp [st__law_due_0, bd_ok, bd_exc, st_ok, st_exc, xss_cons, xss_nil, seq_next, seq_ret, seq_brk, seq_cont, seq_exc, eqV_int, xst, ev, evT, evs, evo, evc, evi, itemAt, MP.placeOf, bindT, bindTs, unslot, hold, unhold, subR, freeze, ix_tup, ix_lst, ix_r, cm_eq, cm_ne, cm_lt, cm_le, cm_gt, cm_ge, cm_isn, cm_nisn, cm_isb, cm_inn, cm_nin, op_ad, op_sb, op_ml, op_dv, op_md, op_pw, op_sl, op_as, op_at, op_mt, op_al, bi_abs, bi_int, bi_intb, bi_lent, bi_lenl, bi_lenr, bi_lens, bi_listt, bi_listl, bi_tupt, bi_tupl, bi_tupr, bi_gcd, bi_max, bi_min, bi_str, bi_sum, bi_all, bi_any, tr_non, tr_bl, tr_int, tr_tup, tr_lst, ty_nt, ty_tt, ty_ti, ty_ii, ty_it, ty_is, sl_tup, sl_lst, sq_tup, sq_lst, ls_lst, th_lst, wk_tup, wk_lst, opt_some, eqV_non, len_tx hL, ix_tx hL, lit_minus, eq_tx z45 z45, rdS, hp, hp2]
      · simp [st__law_due_0, bd_ok, bd_exc, st_ok, st_exc, xss_cons, xss_nil, seq_next, seq_ret, seq_brk, seq_cont, seq_exc, eqV_int, xst, ev, evT, evs, evo, evc, evi, itemAt, MP.placeOf, bindT, bindTs, unslot, hold, unhold, subR, freeze, ix_tup, ix_lst, ix_r, cm_eq, cm_ne, cm_lt, cm_le, cm_gt, cm_ge, cm_isn, cm_nisn, cm_isb, cm_inn, cm_nin, op_ad, op_sb, op_ml, op_dv, op_md, op_pw, op_sl, op_as, op_at, op_mt, op_al, bi_abs, bi_int, bi_intb, bi_lent, bi_lenl, bi_lenr, bi_lens, bi_listt, bi_listl, bi_tupt, bi_tupl, bi_tupr, bi_gcd, bi_max, bi_min, bi_str, bi_sum, bi_all, bi_any, tr_non, tr_bl, tr_int, tr_tup, tr_lst, ty_nt, ty_tt, ty_ti, ty_ii, ty_it, ty_is, sl_tup, sl_lst, sq_tup, sq_lst, ls_lst, th_lst, wk_tup, wk_lst, opt_some, eqV_non, len_tx hL, ix_tx hL, lit_minus, eq_tx oc z45, rdS, hp, hp2, h]
  generalize hs : rdS l = s at s0 hsl
  have cd := fun k hk => c_digs (d := d) (l := l) (S := ⟨S.cells, false⟩) (k := k) hl ho hk
  rw [callN_of (fd := ⟨1, 6, b__law_due⟩) rfl rfl]
  unfold rdM
  rw [hs]
  have c1 := cd s hsl
  cases h1 : dEnd l s with
  | none =>
    rw [h1] at c1
    refine run_ret ?_ rfl
    unfold b__law_due
    show xss (callN F (d + 1)) S.cells.length _ [some (.str (Tx l)), none, none, none, none, none] _ = _
    rw [xss_step (s0 _)]
    simp [st__law_due_1, st__law_due_2, bd_ok, bd_exc, st_ok, st_exc, xss_cons, xss_nil, seq_next, seq_ret, seq_brk, seq_cont, seq_exc, eqV_int, xst, ev, evT, evs, evo, evc, evi, itemAt, MP.placeOf, bindT, bindTs, unslot, hold, unhold, subR, freeze, ix_tup, ix_lst, ix_r, cm_eq, cm_ne, cm_lt, cm_le, cm_gt, cm_ge, cm_isn, cm_nisn, cm_isb, cm_inn, cm_nin, op_ad, op_sb, op_ml, op_dv, op_md, op_pw, op_sl, op_as, op_at, op_mt, op_al, bi_abs, bi_int, bi_intb, bi_lent, bi_lenl, bi_lenr, bi_lens, bi_listt, bi_listl, bi_tupt, bi_tupl, bi_tupr, bi_gcd, bi_max, bi_min, bi_str, bi_sum, bi_all, bi_any, tr_non, tr_bl, tr_int, tr_tup, tr_lst, ty_nt, ty_tt, ty_ti, ty_ii, ty_it, ty_is, sl_tup, sl_lst, sq_tup, sq_lst, ls_lst, th_lst, wk_tup, wk_lst, opt_some, eqV_non, c1, dE, rdV]
  | some e =>
    rw [h1] at c1
    have c1 : callN F (d + 1) n__law_digits [.str (Tx l), .int s] ⟨S.cells, false⟩ = .ok (.int e) ⟨S.cells, false⟩ := c1
    obtain ⟨_, _, _, he⟩ := dEnd_cut hsl h1
    have i1 := int_cut (S := ⟨S.cells, false⟩) hl6 hsl h1
    have e0 : ¬ (e : Int) < 0 := by omega
    have st : ∀ ss, xss (callN F (d + 1)) S.cells.length (.cons st__law_due_0 (.cons st__law_due_1 (.cons st__law_due_2 (.cons st__law_due_3 (.cons st__law_due_4 ss))))) [some (.str (Tx l)), none, none, none, none, none] ⟨S.cells, false⟩ =
        xss (callN F (d + 1)) S.cells.length ss [some (.str (Tx l)), some (.int s), some (.int e), some (.int (numAt l s e : Nat)), some (.int 1), none] ⟨S.cells, false⟩ := by
      intro ss
      rw [xss_step (s0 _), xss_step (σ' := [some (.str (Tx l)), some (.int s), some (.int e), none, none, none]) (S' := ⟨S.cells, false⟩) (by simp [st__law_due_1, bd_ok, bd_exc, st_ok, st_exc, xss_cons, xss_nil, seq_next, seq_ret, seq_brk, seq_cont, seq_exc, eqV_int, xst, ev, evT, evs, evo, evc, evi, itemAt, MP.placeOf, bindT, bindTs, unslot, hold, unhold, subR, freeze, ix_tup, ix_lst, ix_r, cm_eq, cm_ne, cm_lt, cm_le, cm_gt, cm_ge, cm_isn, cm_nisn, cm_isb, cm_inn, cm_nin, op_ad, op_sb, op_ml, op_dv, op_md, op_pw, op_sl, op_as, op_at, op_mt, op_al, bi_abs, bi_int, bi_intb, bi_lent, bi_lenl, bi_lenr, bi_lens, bi_listt, bi_listl, bi_tupt, bi_tupl, bi_tupr, bi_gcd, bi_max, bi_min, bi_str, bi_sum, bi_all, bi_any, tr_non, tr_bl, tr_int, tr_tup, tr_lst, ty_nt, ty_tt, ty_ti, ty_ii, ty_it, ty_is, sl_tup, sl_lst, sq_tup, sq_lst, ls_lst, th_lst, wk_tup, wk_lst, opt_some, eqV_non, c1]),
        xss_step (σ' := [some (.str (Tx l)), some (.int s), some (.int e), none, none, none]) (S' := ⟨S.cells, false⟩) (by simp [st__law_due_2, bd_ok, bd_exc, st_ok, st_exc, xss_cons, xss_nil, seq_next, seq_ret, seq_brk, seq_cont, seq_exc, eqV_int, xst, ev, evT, evs, evo, evc, evi, itemAt, MP.placeOf, bindT, bindTs, unslot, hold, unhold, subR, freeze, ix_tup, ix_lst, ix_r, cm_eq, cm_ne, cm_lt, cm_le, cm_gt, cm_ge, cm_isn, cm_nisn, cm_isb, cm_inn, cm_nin, op_ad, op_sb, op_ml, op_dv, op_md, op_pw, op_sl, op_as, op_at, op_mt, op_al, bi_abs, bi_int, bi_intb, bi_lent, bi_lenl, bi_lenr, bi_lens, bi_listt, bi_listl, bi_tupt, bi_tupl, bi_tupr, bi_gcd, bi_max, bi_min, bi_str, bi_sum, bi_all, bi_any, tr_non, tr_bl, tr_int, tr_tup, tr_lst, ty_nt, ty_tt, ty_ti, ty_ii, ty_it, ty_is, sl_tup, sl_lst, sq_tup, sq_lst, ls_lst, th_lst, wk_tup, wk_lst, opt_some, eqV_non, e0]),
        xss_step (σ' := [some (.str (Tx l)), some (.int s), some (.int e), some (.int (numAt l s e : Nat)), none, none]) (S' := ⟨S.cells, false⟩) (by simp [st__law_due_3, bd_ok, bd_exc, st_ok, st_exc, xss_cons, xss_nil, seq_next, seq_ret, seq_brk, seq_cont, seq_exc, eqV_int, xst, ev, evT, evs, evo, evc, evi, itemAt, MP.placeOf, bindT, bindTs, unslot, hold, unhold, subR, freeze, ix_tup, ix_lst, ix_r, cm_eq, cm_ne, cm_lt, cm_le, cm_gt, cm_ge, cm_isn, cm_nisn, cm_isb, cm_inn, cm_nin, op_ad, op_sb, op_ml, op_dv, op_md, op_pw, op_sl, op_as, op_at, op_mt, op_al, bi_abs, bi_int, bi_intb, bi_lent, bi_lenl, bi_lenr, bi_lens, bi_listt, bi_listl, bi_tupt, bi_tupl, bi_tupr, bi_gcd, bi_max, bi_min, bi_str, bi_sum, bi_all, bi_any, tr_non, tr_bl, tr_int, tr_tup, tr_lst, ty_nt, ty_tt, ty_ti, ty_ii, ty_it, ty_is, sl_tup, sl_lst, sq_tup, sq_lst, ls_lst, th_lst, wk_tup, wk_lst, opt_some, eqV_non, sl_tx hL, i1]),
        xss_step (σ' := [some (.str (Tx l)), some (.int s), some (.int e), some (.int (numAt l s e : Nat)), some (.int 1), none]) (S' := ⟨S.cells, false⟩) (by simp [st__law_due_4, bd_ok, bd_exc, st_ok, st_exc, xss_cons, xss_nil, seq_next, seq_ret, seq_brk, seq_cont, seq_exc, eqV_int, xst, ev, evT, evs, evo, evc, evi, itemAt, MP.placeOf, bindT, bindTs, unslot, hold, unhold, subR, freeze, ix_tup, ix_lst, ix_r, cm_eq, cm_ne, cm_lt, cm_le, cm_gt, cm_ge, cm_isn, cm_nisn, cm_isb, cm_inn, cm_nin, op_ad, op_sb, op_ml, op_dv, op_md, op_pw, op_sl, op_as, op_at, op_mt, op_al, bi_abs, bi_int, bi_intb, bi_lent, bi_lenl, bi_lenr, bi_lens, bi_listt, bi_listl, bi_tupt, bi_tupl, bi_tupr, bi_gcd, bi_max, bi_min, bi_str, bi_sum, bi_all, bi_any, tr_non, tr_bl, tr_int, tr_tup, tr_lst, ty_nt, ty_tt, ty_ti, ty_ii, ty_it, ty_is, sl_tup, sl_lst, sq_tup, sq_lst, ls_lst, th_lst, wk_tup, wk_lst, opt_some, eqV_non])]
    have mk : ∀ (v : Int) (w : Int) T, w ≠ 0 → callN F (d + 1) n_make [.int v, .int w] T = .ok (fr (Rat.divInt v w)) T := fun v w T hw => r_make hw
    have s01 : s = 0 ∨ s = 1 := by rw [← hs]; unfold rdS; split <;> simp
    have fin6 : ∀ (v w : Nat) (oe q : Option PV) T, w ≠ 0 → xss (callN F (d + 1)) S.cells.length (.cons st__law_due_7 .nil) [some (.str (Tx l)), some (.int s), oe, some (.int (v : Nat)), some (.int (w : Nat)), q] T = .ret (.tup [.str "right", fr (Rat.divInt (sg s v) w)]) T := by
      intro v w oe q T hw
      have z := mk (sg s v) w T (by omega)
      rcases s01 with h0 | h0
      · subst h0
        have z : callN F (d + 1) n_make [.int (v : Int), .int (w : Int)] T = .ok (fr (Rat.divInt (sg 0 v) w)) T := z
        simp [st__law_due_7, bd_ok, bd_exc, st_ok, st_exc, xss_cons, xss_nil, seq_next, seq_ret, seq_brk, seq_cont, seq_exc, eqV_int, xst, ev, evT, evs, evo, evc, evi, itemAt, MP.placeOf, bindT, bindTs, unslot, hold, unhold, subR, freeze, ix_tup, ix_lst, ix_r, cm_eq, cm_ne, cm_lt, cm_le, cm_gt, cm_ge, cm_isn, cm_nisn, cm_isb, cm_inn, cm_nin, op_ad, op_sb, op_ml, op_dv, op_md, op_pw, op_sl, op_as, op_at, op_mt, op_al, bi_abs, bi_int, bi_intb, bi_lent, bi_lenl, bi_lenr, bi_lens, bi_listt, bi_listl, bi_tupt, bi_tupl, bi_tupr, bi_gcd, bi_max, bi_min, bi_str, bi_sum, bi_all, bi_any, tr_non, tr_bl, tr_int, tr_tup, tr_lst, ty_nt, ty_tt, ty_ti, ty_ii, ty_it, ty_is, sl_tup, sl_lst, sq_tup, sq_lst, ls_lst, th_lst, wk_tup, wk_lst, opt_some, eqV_non, z]
      · subst h0
        have z : callN F (d + 1) n_make [.int (-(v : Int)), .int (w : Int)] T = .ok (fr (Rat.divInt (sg 1 v) w)) T := by rw [← z]; rfl
        simp [st__law_due_7, bd_ok, bd_exc, st_ok, st_exc, xss_cons, xss_nil, seq_next, seq_ret, seq_brk, seq_cont, seq_exc, eqV_int, xst, ev, evT, evs, evo, evc, evi, itemAt, MP.placeOf, bindT, bindTs, unslot, hold, unhold, subR, freeze, ix_tup, ix_lst, ix_r, cm_eq, cm_ne, cm_lt, cm_le, cm_gt, cm_ge, cm_isn, cm_nisn, cm_isb, cm_inn, cm_nin, op_ad, op_sb, op_ml, op_dv, op_md, op_pw, op_sl, op_as, op_at, op_mt, op_al, bi_abs, bi_int, bi_intb, bi_lent, bi_lenl, bi_lenr, bi_lens, bi_listt, bi_listl, bi_tupt, bi_tupl, bi_tupr, bi_gcd, bi_max, bi_min, bi_str, bi_sum, bi_all, bi_any, tr_non, tr_bl, tr_int, tr_tup, tr_lst, ty_nt, ty_tt, ty_ti, ty_ii, ty_it, ty_is, sl_tup, sl_lst, sq_tup, sq_lst, ls_lst, th_lst, wk_tup, wk_lst, opt_some, eqV_non, z]
    show _ = MP.R.ok (rdV (if l[e]? = some 47 then _ else _ : Nat ⊕ (Int × Int))) S
    by_cases h2 : l[e]? = some 47
    · rw [if_pos h2]
      have h3 : e < l.length := (List.getElem?_eq_some_iff.mp h2).1
      have c2 := cd (e + 1) h3
      have h2' : decide (l[e] = 47) = true := decide_eq_true (Option.some.inj ((List.getElem?_eq_getElem h3).symm.trans h2))
      have e1 : ((e + 1 : Nat) : Int) = (e : Int) + 1 := rfl
      cases h4 : dEnd l (e + 1) with
      | none =>
        rw [h4] at c2
        have c2 : callN F (d + 1) n__law_digits [.str (Tx l), .int ((e : Int) + 1)] ⟨S.cells, false⟩ = .ok (.int (-1)) ⟨S.cells, false⟩ := c2
        refine run_ret ?_ rfl
        refine (st _).trans ?_
        simp [st__law_due_5, bd_ok, bd_exc, st_ok, st_exc, xss_cons, xss_nil, seq_next, seq_ret, seq_brk, seq_cont, seq_exc, eqV_int, xst, ev, evT, evs, evo, evc, evi, itemAt, MP.placeOf, bindT, bindTs, unslot, hold, unhold, subR, freeze, ix_tup, ix_lst, ix_r, cm_eq, cm_ne, cm_lt, cm_le, cm_gt, cm_ge, cm_isn, cm_nisn, cm_isb, cm_inn, cm_nin, op_ad, op_sb, op_ml, op_dv, op_md, op_pw, op_sl, op_as, op_at, op_mt, op_al, bi_abs, bi_int, bi_intb, bi_lent, bi_lenl, bi_lenr, bi_lens, bi_listt, bi_listl, bi_tupt, bi_tupl, bi_tupr, bi_gcd, bi_max, bi_min, bi_str, bi_sum, bi_all, bi_any, tr_non, tr_bl, tr_int, tr_tup, tr_lst, ty_nt, ty_tt, ty_ti, ty_ii, ty_it, ty_is, sl_tup, sl_lst, sq_tup, sq_lst, ls_lst, th_lst, wk_tup, wk_lst, opt_some, eqV_non, len_tx hL, h3, ix_tx hL, lit_slash, slash ho h3, h2', c2, rdV]
      | some e2 =>
        rw [h4] at c2
        obtain ⟨_, _, _, he2⟩ := dEnd_cut h3 h4
        have i2 := int_cut (S := ⟨S.cells, false⟩) (k := e + 1) hl6 h3 h4
        have c2 : callN F (d + 1) n__law_digits [.str (Tx l), .int ((e : Int) + 1)] ⟨S.cells, false⟩ = .ok (.int e2) ⟨S.cells, false⟩ := c2
        simp only [e1] at i2
        have e20 : ¬ (e2 : Int) < 0 := by omega
        show _ = MP.R.ok (rdV (if numAt l (e + 1) e2 = 0 then _ else _ : Nat ⊕ (Int × Int))) S
        by_cases h5 : numAt l (e + 1) e2 = 0
        · rw [if_pos h5]
          refine run_ret ?_ rfl
          refine (st _).trans ?_
          simp [st__law_due_5, bd_ok, bd_exc, st_ok, st_exc, xss_cons, xss_nil, seq_next, seq_ret, seq_brk, seq_cont, seq_exc, eqV_int, xst, ev, evT, evs, evo, evc, evi, itemAt, MP.placeOf, bindT, bindTs, unslot, hold, unhold, subR, freeze, ix_tup, ix_lst, ix_r, cm_eq, cm_ne, cm_lt, cm_le, cm_gt, cm_ge, cm_isn, cm_nisn, cm_isb, cm_inn, cm_nin, op_ad, op_sb, op_ml, op_dv, op_md, op_pw, op_sl, op_as, op_at, op_mt, op_al, bi_abs, bi_int, bi_intb, bi_lent, bi_lenl, bi_lenr, bi_lens, bi_listt, bi_listl, bi_tupt, bi_tupl, bi_tupr, bi_gcd, bi_max, bi_min, bi_str, bi_sum, bi_all, bi_any, tr_non, tr_bl, tr_int, tr_tup, tr_lst, ty_nt, ty_tt, ty_ti, ty_ii, ty_it, ty_is, sl_tup, sl_lst, sq_tup, sq_lst, ls_lst, th_lst, wk_tup, wk_lst, opt_some, eqV_non, len_tx hL, h3, ix_tx hL, lit_slash, slash ho h3, h2', c2, sl_tx hL, i2, h5, e20, rdV]
        · rw [if_neg h5]
          have s4 : xst (callN F (d + 1)) S.cells.length st__law_due_5 [some (.str (Tx l)), some (.int s), some (.int e), some (.int (numAt l s e : Nat)), some (.int 1), none] ⟨S.cells, false⟩ = .next [some (.str (Tx l)), some (.int s), some (.int e2), some (.int (numAt l s e : Nat)), some (.int (numAt l (e + 1) e2 : Nat)), some (.int e2)] ⟨S.cells, false⟩ := by
            simp [st__law_due_5, bd_ok, bd_exc, st_ok, st_exc, xss_cons, xss_nil, seq_next, seq_ret, seq_brk, seq_cont, seq_exc, eqV_int, xst, ev, evT, evs, evo, evc, evi, itemAt, MP.placeOf, bindT, bindTs, unslot, hold, unhold, subR, freeze, ix_tup, ix_lst, ix_r, cm_eq, cm_ne, cm_lt, cm_le, cm_gt, cm_ge, cm_isn, cm_nisn, cm_isb, cm_inn, cm_nin, op_ad, op_sb, op_ml, op_dv, op_md, op_pw, op_sl, op_as, op_at, op_mt, op_al, bi_abs, bi_int, bi_intb, bi_lent, bi_lenl, bi_lenr, bi_lens, bi_listt, bi_listl, bi_tupt, bi_tupl, bi_tupr, bi_gcd, bi_max, bi_min, bi_str, bi_sum, bi_all, bi_any, tr_non, tr_bl, tr_int, tr_tup, tr_lst, ty_nt, ty_tt, ty_ti, ty_ii, ty_it, ty_is, sl_tup, sl_lst, sq_tup, sq_lst, ls_lst, th_lst, wk_tup, wk_lst, opt_some, eqV_non, len_tx hL, h3, ix_tx hL, lit_slash, slash ho h3, h2', c2, sl_tx hL, i2, h5, e20]
          by_cases h6 : e2 < l.length
          · rw [if_pos h6]
            refine run_ret ?_ rfl
            refine (st _).trans ?_
            rw [xss_step s4]
            simp [st__law_due_6, bd_ok, bd_exc, st_ok, st_exc, xss_cons, xss_nil, seq_next, seq_ret, seq_brk, seq_cont, seq_exc, eqV_int, xst, ev, evT, evs, evo, evc, evi, itemAt, MP.placeOf, bindT, bindTs, unslot, hold, unhold, subR, freeze, ix_tup, ix_lst, ix_r, cm_eq, cm_ne, cm_lt, cm_le, cm_gt, cm_ge, cm_isn, cm_nisn, cm_isb, cm_inn, cm_nin, op_ad, op_sb, op_ml, op_dv, op_md, op_pw, op_sl, op_as, op_at, op_mt, op_al, bi_abs, bi_int, bi_intb, bi_lent, bi_lenl, bi_lenr, bi_lens, bi_listt, bi_listl, bi_tupt, bi_tupl, bi_tupr, bi_gcd, bi_max, bi_min, bi_str, bi_sum, bi_all, bi_any, tr_non, tr_bl, tr_int, tr_tup, tr_lst, ty_nt, ty_tt, ty_ti, ty_ii, ty_it, ty_is, sl_tup, sl_lst, sq_tup, sq_lst, ls_lst, th_lst, wk_tup, wk_lst, opt_some, eqV_non, len_tx hL, h6, rdV]
          · rw [if_neg h6]
            refine run_ret ?_ (by unfold rdV; rfl)
            refine (st _).trans ?_
            rw [xss_step s4, xss_step (σ' := [some (.str (Tx l)), some (.int s), some (.int e2), some (.int (numAt l s e : Nat)), some (.int (numAt l (e + 1) e2 : Nat)), some (.int e2)]) (S' := ⟨S.cells, false⟩) (by simp [st__law_due_6, bd_ok, bd_exc, st_ok, st_exc, xss_cons, xss_nil, seq_next, seq_ret, seq_brk, seq_cont, seq_exc, eqV_int, xst, ev, evT, evs, evo, evc, evi, itemAt, MP.placeOf, bindT, bindTs, unslot, hold, unhold, subR, freeze, ix_tup, ix_lst, ix_r, cm_eq, cm_ne, cm_lt, cm_le, cm_gt, cm_ge, cm_isn, cm_nisn, cm_isb, cm_inn, cm_nin, op_ad, op_sb, op_ml, op_dv, op_md, op_pw, op_sl, op_as, op_at, op_mt, op_al, bi_abs, bi_int, bi_intb, bi_lent, bi_lenl, bi_lenr, bi_lens, bi_listt, bi_listl, bi_tupt, bi_tupl, bi_tupr, bi_gcd, bi_max, bi_min, bi_str, bi_sum, bi_all, bi_any, tr_non, tr_bl, tr_int, tr_tup, tr_lst, ty_nt, ty_tt, ty_ti, ty_ii, ty_it, ty_is, sl_tup, sl_lst, sq_tup, sq_lst, ls_lst, th_lst, wk_tup, wk_lst, opt_some, eqV_non, len_tx hL, h6])]
            exact fin6 _ _ _ _ _ h5
    · rw [if_neg h2]
      have s4 : ∀ T, xst (callN F (d + 1)) S.cells.length st__law_due_5 [some (.str (Tx l)), some (.int s), some (.int e), some (.int (numAt l s e : Nat)), some (.int 1), none] T = .next [some (.str (Tx l)), some (.int s), some (.int e), some (.int (numAt l s e : Nat)), some (.int 1), none] T := by
        intro T
        by_cases h3 : e < l.length
        · have h2' : decide (l[e] = 47) = false := decide_eq_false fun z => h2 (by rw [List.getElem?_eq_getElem h3, z])
          simp [st__law_due_5, bd_ok, bd_exc, st_ok, st_exc, xss_cons, xss_nil, seq_next, seq_ret, seq_brk, seq_cont, seq_exc, eqV_int, xst, ev, evT, evs, evo, evc, evi, itemAt, MP.placeOf, bindT, bindTs, unslot, hold, unhold, subR, freeze, ix_tup, ix_lst, ix_r, cm_eq, cm_ne, cm_lt, cm_le, cm_gt, cm_ge, cm_isn, cm_nisn, cm_isb, cm_inn, cm_nin, op_ad, op_sb, op_ml, op_dv, op_md, op_pw, op_sl, op_as, op_at, op_mt, op_al, bi_abs, bi_int, bi_intb, bi_lent, bi_lenl, bi_lenr, bi_lens, bi_listt, bi_listl, bi_tupt, bi_tupl, bi_tupr, bi_gcd, bi_max, bi_min, bi_str, bi_sum, bi_all, bi_any, tr_non, tr_bl, tr_int, tr_tup, tr_lst, ty_nt, ty_tt, ty_ti, ty_ii, ty_it, ty_is, sl_tup, sl_lst, sq_tup, sq_lst, ls_lst, th_lst, wk_tup, wk_lst, opt_some, eqV_non, len_tx hL, h3, ix_tx hL, lit_slash, slash ho h3, h2']
        · simp [st__law_due_5, bd_ok, bd_exc, st_ok, st_exc, xss_cons, xss_nil, seq_next, seq_ret, seq_brk, seq_cont, seq_exc, eqV_int, xst, ev, evT, evs, evo, evc, evi, itemAt, MP.placeOf, bindT, bindTs, unslot, hold, unhold, subR, freeze, ix_tup, ix_lst, ix_r, cm_eq, cm_ne, cm_lt, cm_le, cm_gt, cm_ge, cm_isn, cm_nisn, cm_isb, cm_inn, cm_nin, op_ad, op_sb, op_ml, op_dv, op_md, op_pw, op_sl, op_as, op_at, op_mt, op_al, bi_abs, bi_int, bi_intb, bi_lent, bi_lenl, bi_lenr, bi_lens, bi_listt, bi_listl, bi_tupt, bi_tupl, bi_tupr, bi_gcd, bi_max, bi_min, bi_str, bi_sum, bi_all, bi_any, tr_non, tr_bl, tr_int, tr_tup, tr_lst, ty_nt, ty_tt, ty_ti, ty_ii, ty_it, ty_is, sl_tup, sl_lst, sq_tup, sq_lst, ls_lst, th_lst, wk_tup, wk_lst, opt_some, eqV_non, len_tx hL, h3]
      by_cases h3 : e < l.length
      · rw [if_pos h3]
        refine run_ret ?_ rfl
        refine (st _).trans ?_
        rw [xss_step (s4 _)]
        simp [st__law_due_6, bd_ok, bd_exc, st_ok, st_exc, xss_cons, xss_nil, seq_next, seq_ret, seq_brk, seq_cont, seq_exc, eqV_int, xst, ev, evT, evs, evo, evc, evi, itemAt, MP.placeOf, bindT, bindTs, unslot, hold, unhold, subR, freeze, ix_tup, ix_lst, ix_r, cm_eq, cm_ne, cm_lt, cm_le, cm_gt, cm_ge, cm_isn, cm_nisn, cm_isb, cm_inn, cm_nin, op_ad, op_sb, op_ml, op_dv, op_md, op_pw, op_sl, op_as, op_at, op_mt, op_al, bi_abs, bi_int, bi_intb, bi_lent, bi_lenl, bi_lenr, bi_lens, bi_listt, bi_listl, bi_tupt, bi_tupl, bi_tupr, bi_gcd, bi_max, bi_min, bi_str, bi_sum, bi_all, bi_any, tr_non, tr_bl, tr_int, tr_tup, tr_lst, ty_nt, ty_tt, ty_ti, ty_ii, ty_it, ty_is, sl_tup, sl_lst, sq_tup, sq_lst, ls_lst, th_lst, wk_tup, wk_lst, opt_some, eqV_non, len_tx hL, h3, rdV]
      · rw [if_neg h3]
        refine run_ret ?_ (by unfold rdV; rfl)
        refine (st _).trans ?_
        rw [xss_step (s4 _), xss_step (σ' := [some (.str (Tx l)), some (.int s), some (.int e), some (.int (numAt l s e : Nat)), some (.int 1), none]) (S' := ⟨S.cells, false⟩) (by simp [st__law_due_6, bd_ok, bd_exc, st_ok, st_exc, xss_cons, xss_nil, seq_next, seq_ret, seq_brk, seq_cont, seq_exc, eqV_int, xst, ev, evT, evs, evo, evc, evi, itemAt, MP.placeOf, bindT, bindTs, unslot, hold, unhold, subR, freeze, ix_tup, ix_lst, ix_r, cm_eq, cm_ne, cm_lt, cm_le, cm_gt, cm_ge, cm_isn, cm_nisn, cm_isb, cm_inn, cm_nin, op_ad, op_sb, op_ml, op_dv, op_md, op_pw, op_sl, op_as, op_at, op_mt, op_al, bi_abs, bi_int, bi_intb, bi_lent, bi_lenl, bi_lenr, bi_lens, bi_listt, bi_listl, bi_tupt, bi_tupl, bi_tupr, bi_gcd, bi_max, bi_min, bi_str, bi_sum, bi_all, bi_any, tr_non, tr_bl, tr_int, tr_tup, tr_lst, ty_nt, ty_tt, ty_ti, ty_ii, ty_it, ty_is, sl_tup, sl_lst, sq_tup, sq_lst, ls_lst, th_lst, wk_tup, wk_lst, opt_some, eqV_non, len_tx hL, h3])]
        exact fin6 _ 1 _ none _ (by decide)
end
end K02
end
section
set_option Elab.async false
set_option linter.all false
set_option maxRecDepth 100000
set_option maxHeartbeats 1000000
namespace K02
open PySem MP
theorem numL_dg {n c : Nat} (h : c ∈ TL.numL n) : dg c = true := by
  have z := TL.numL_digits n c h
  unfold dg
  rw [decide_eq_true z.1, decide_eq_true z.2]
  rfl
theorem numL_zero : TL.numL 0 = [48] := TL.numL_lt (by decide)
theorem numL_head : ∀ (n : Nat) (r : List Nat), TL.numL n = 48 :: r → r = [] := by
  intro n
  induction n using Nat.strongRecOn with
  | _ n ih =>
    intro r h
    by_cases hn : n < 10
    · rw [TL.numL_lt hn] at h
      exact (List.cons.inj h).2.symm
    · rw [TL.numL_step (by omega)] at h
      cases e : TL.numL (n / 10) with
      | nil => exact absurd e (TL.numL_ne _)
      | cons x xs =>
        rw [e, List.cons_append] at h
        obtain ⟨rfl, _⟩ := List.cons.inj h
        have z := ih (n / 10) (by omega) xs e
        subst z
        have z := TL.numL_inj (e.trans numL_zero.symm)
        omega
/-- a text's tail does not begin with a digit -/
def cuts (suf : List Nat) : Prop := suf.takeWhile dg = []
theorem dRun_num {pre suf : List Nat} {n : Nat} (h : cuts suf) : ((pre ++ (TL.numL n ++ suf)).drop pre.length).takeWhile dg = TL.numL n := by
  rw [List.drop_left, List.takeWhile_append_of_pos fun c m => numL_dg m, h, List.append_nil]
theorem dEnd_num {pre suf : List Nat} {n : Nat} (h : cuts suf) : dEnd (pre ++ (TL.numL n ++ suf)) pre.length = some (pre.length + (TL.numL n).length) := by
  have e : dRun (pre ++ (TL.numL n ++ suf)) pre.length = pre.length + (TL.numL n).length := by unfold dRun; rw [dRun_num h]
  unfold dEnd
  rw [e, if_neg]
  rintro (z | ⟨z, z2⟩)
  · have : (TL.numL n).length = 0 := by omega
    exact TL.numL_ne n (List.length_eq_zero_iff.mp this)
  · cases e2 : TL.numL n with
    | nil => exact TL.numL_ne n e2
    | cons x xs =>
      rw [e2] at z z2
      rw [List.getElem?_append_right (Nat.le_refl _), Nat.sub_self] at z
      have z : x = 48 := Option.some.inj z
      subst z
      have := numL_head n xs e2
      subst this
      simp at z2
theorem numAt_num {pre suf : List Nat} {n : Nat} (h : cuts suf) : numAt (pre ++ (TL.numL n ++ suf)) pre.length (pre.length + (TL.numL n).length) = n := by
  unfold numAt
  have e : dRun (pre ++ (TL.numL n ++ suf)) pre.length = pre.length + (TL.numL n).length := by unfold dRun; rw [dRun_num h]
  rw [← e, dRun_cut (by simp), dRun_num h, TL.numL_val]
def pf (a : Int) : List Nat := if a < 0 then [45] else []
theorem intL_pf (a : Int) : intL a = pf a ++ TL.numL a.natAbs := by
  unfold intL pf
  split <;> rfl
theorem rdS_pf {a : Int} {suf : List Nat} : rdS (pf a ++ (TL.numL a.natAbs ++ suf)) = (pf a).length := by
  unfold rdS pf
  by_cases h : a < 0
  · rw [if_pos h]; rfl
  · rw [if_neg h]
    cases e : TL.numL a.natAbs with
    | nil => exact absurd e (TL.numL_ne _)
    | cons x xs =>
      have z := TL.numL_digits a.natAbs x (by rw [e]; exact List.mem_cons_self)
      show (if (x :: (xs ++ suf)).take 1 = [45] then 1 else 0) = 0
      rw [if_neg]
      intro q
      have q : x = 45 := (List.cons.inj q).1
      omega
theorem sg_pf (a : Int) : sg (pf a).length a.natAbs = a := by
  unfold sg pf
  by_cases h : a < 0
  · rw [if_pos h, if_neg (by decide)]; omega
  · rw [if_neg h, if_pos (show ([] : List Nat).length = 0 from rfl)]; omega
theorem rd_int (a : Int) : rdM (intL a) = .inr (a, 1) := by
  have e : intL a = pf a ++ (TL.numL a.natAbs ++ []) := by rw [intL_pf, List.append_nil]
  have hc : cuts [] := rfl
  rw [e]
  unfold rdM
  rw [rdS_pf, dEnd_num hc]
  simp only []
  have hn : (pf a ++ (TL.numL a.natAbs ++ [])).length = (pf a).length + (TL.numL a.natAbs).length := by simp
  rw [if_neg (by rw [List.getElem?_eq_none (by omega)]; simp), if_neg (by omega), numAt_num hc, sg_pf]
theorem rd_frac (a : Int) {b : Nat} (hb : b ≠ 0) : rdM (intL a ++ 47 :: TL.numL b) = .inr (a, (b : Int)) := by
  have e : intL a ++ 47 :: TL.numL b = pf a ++ (TL.numL a.natAbs ++ 47 :: TL.numL b) := by rw [intL_pf, List.append_assoc]
  have hc : cuts (47 :: TL.numL b) := rfl
  have hc0 : cuts [] := rfl
  rw [e]
  unfold rdM
  rw [rdS_pf, dEnd_num hc]
  simp only []
  have e2 : pf a ++ (TL.numL a.natAbs ++ 47 :: TL.numL b) = (pf a ++ (TL.numL a.natAbs ++ [47])) ++ (TL.numL b ++ []) := by simp
  have l2 : (pf a ++ (TL.numL a.natAbs ++ [47])).length = (pf a).length + (TL.numL a.natAbs).length + 1 := by simp; omega
  have g : (pf a ++ (TL.numL a.natAbs ++ 47 :: TL.numL b))[(pf a).length + (TL.numL a.natAbs).length]? = some 47 := by
    rw [← List.append_assoc, List.getElem?_append_right (by simp), List.length_append, Nat.sub_self]
    rfl
  have d2 := dEnd_num (pre := pf a ++ (TL.numL a.natAbs ++ [47])) (suf := []) (n := b) hc0
  have n2 := numAt_num (pre := pf a ++ (TL.numL a.natAbs ++ [47])) (suf := []) (n := b) hc0
  rw [← e2, l2] at d2 n2
  have hn : (pf a ++ (TL.numL a.natAbs ++ 47 :: TL.numL b)).length = (pf a).length + (TL.numL a.natAbs).length + 1 + (TL.numL b).length := by simp; omega
  rw [if_pos g, d2]
  simp only []
  rw [n2, if_neg hb, if_neg (by omega), numAt_num hc, sg_pf]
/-- the text of a fraction -/
def frL (q : Rat) : List Nat := if q.den = 1 then intL q.num else intL q.num ++ 47 :: TL.numL q.den
theorem rd_frL (q : Rat) : rdM (frL q) = .inr (q.num, (q.den : Int)) := by
  unfold frL
  by_cases h : q.den = 1
  · rw [if_pos h, rd_int, h]; rfl
  · rw [if_neg h, rd_frac _ q.den_nz]
theorem numL_ok (n : Nat) : okL (TL.numL n) := fun c m => by have := TL.numL_digits n c m; omega
theorem intL_ok (a : Int) : okL (intL a) := by
  rw [intL_pf]
  refine okL.app (fun c m => ?_) (numL_ok _)
  unfold pf at m
  split at m
  · rw [List.mem_singleton.mp m]; decide
  · cases m
theorem frL_ok (q : Rat) : okL (frL q) := by
  unfold frL
  split
  · exact intL_ok _
  · exact okL.app (intL_ok _) (okL.app (a := [47]) (fun c m => by rw [List.mem_singleton.mp m]; decide) (numL_ok _))
theorem intL_len {a : Int} {k : Nat} (hk : 0 < k) (h : a.natAbs < 10 ^ k) : (intL a).length ≤ k + 1 := by
  have := TL.numL_len hk h
  rw [intL_pf, List.length_append]
  unfold pf
  split <;> simp <;> omega
end K02
end
section
set_option Elab.async false
set_option linter.all false
set_option maxRecDepth 100000
set_option maxHeartbeats 1000000
namespace K02
open PySem MP
theorem den_pos_int (q : Rat) : ¬ ((q.den : Nat) : Int) < 0 := by omega
theorem intL_nat (n : Nat) : intL (n : Int) = TL.numL n := by
  unfold intL
  rw [if_neg (by omega)]
  rfl
theorem log_of {k : Nat} {a : Int} (h : sz k a) (hk : k < 1920) : a.natAbs.log2 < 1920 := Nat.lt_of_le_of_lt h.log hk
theorem Tx_nil : Str.empty = Tx [] := rfl
theorem cut_hi {l : List Nat} {p : Nat} (h : p ≤ l.length) : cut l none (some (p : Int)) = l.take p := by
  unfold cut
  rw [edge_nat h]
  rfl
theorem cut_lo {l : List Nat} {p : Nat} (h : p ≤ l.length) : cut l (some (p : Int)) none = l.drop p := by
  unfold cut
  rw [edge_nat h]
  show (l.drop p).take (l.length - p) = l.drop p
  rw [List.take_of_length_le (by rw [List.length_drop]; exact Nat.le_refl _)]
theorem edge_suc {n p : Nat} : edge n 0 (some ((p : Int) + 1)) = min (p + 1) n := by
  show (if ((p : Int) + 1) < 0 then (((p : Int) + 1) + (n : Int)).toNat else min ((p : Int) + 1).toNat n) = _
  rw [if_neg (by omega)]
  omega
theorem cut_lo1 {l : List Nat} {p : Nat} : cut l (some ((p : Int) + 1)) none = l.drop (p + 1) := by
  unfold cut
  rw [edge_suc]
  show (l.drop (min (p + 1) l.length)).take (l.length - _) = _
  rw [List.take_of_length_le (by rw [List.length_drop]; exact Nat.le_refl _)]
  by_cases h : p + 1 ≤ l.length
  · rw [show min (p + 1) l.length = p + 1 by omega]
  · rw [List.drop_eq_nil_of_le (by omega), List.drop_eq_nil_of_le (by omega)]
theorem Tx_repr (a : Int) : Str.ofString a.repr = Tx (intL a) := Tx_int a
section
variable {d : Nat} {l : List Nat} {S : Sto}
theorem c_write {q : Rat} {k : Nat} (h : szq k q) (hk : k < 1920) (hl : (intL q.num).length + (TL.numL q.den).length ≤ 600) : callN F (d + 1) n_write_fraction [fr q] S = .ok (.str (Tx (frL q))) S := by
  have l1 := log_of h.1 hk
  have l2 := log_of h.2 hk
  rw [callN_of (fd := ⟨1, 1, b_write_fraction⟩) rfl rfl]
  refine run_ret ?_ rfl
  unfold fr pr frL
  by_cases h1 : q.den = 1
  · rw [if_pos h1]
    have h1' : ((q.den : Nat) : Int) = 1 := by omega
    simp [st_write_fraction_0, st_write_fraction_1, b_write_fraction, bd_ok, bd_exc, st_ok, st_exc, xss_cons, xss_nil, seq_next, seq_ret, seq_brk, seq_cont, seq_exc, eqV_int, xst, ev, evT, evs, evo, evc, evi, itemAt, MP.placeOf, bindT, bindTs, unslot, hold, unhold, subR, freeze, ix_tup, ix_lst, ix_r, cm_eq, cm_ne, cm_lt, cm_le, cm_gt, cm_ge, cm_isn, cm_nisn, cm_isb, cm_inn, cm_nin, op_ad, op_sb, op_ml, op_dv, op_md, op_pw, op_sl, op_as, op_at, op_mt, op_al, bi_abs, bi_int, bi_intb, bi_lent, bi_lenl, bi_lenr, bi_lens, bi_listt, bi_listl, bi_tupt, bi_tupl, bi_tupr, bi_gcd, bi_max, bi_min, bi_str, bi_sum, bi_all, bi_any, tr_non, tr_bl, tr_int, tr_tup, tr_lst, ty_nt, ty_tt, ty_ti, ty_ii, ty_it, ty_is, sl_tup, sl_lst, sq_tup, sq_lst, ls_lst, th_lst, wk_tup, wk_lst, opt_some, eqV_non, h1', l1, Tx_repr]
  · rw [if_neg h1]
    have h1' : ¬ ((q.den : Nat) : Int) = 1 := by omega
    have fp : fparts [.int q.num, .str "/", .int (q.den : Nat)] = some (Tx (intL q.num ++ 47 :: TL.numL q.den)) := by
      have e : Str.ofString (toString ((q.den : Nat) : Int)) = Tx (TL.numL q.den) := by rw [Tx_int, intL_nat]
      simp only [fparts]
      rw [if_pos l1, if_pos l2, e, Tx_int, lit_slash, Tx_nil]
      simp only [Option.map_some, Tx_app]
      simp
    have hl' : (Tx (intL q.num ++ 47 :: TL.numL q.den)).length ≤ lenMax := by rw [Tx_len]; simp; exact Nat.le_trans (by omega : _ ≤ 601) (by decide)
    simp [st_write_fraction_0, st_write_fraction_1, b_write_fraction, bd_ok, bd_exc, st_ok, st_exc, xss_cons, xss_nil, seq_next, seq_ret, seq_brk, seq_cont, seq_exc, eqV_int, xst, ev, evT, evs, evo, evc, evi, itemAt, MP.placeOf, bindT, bindTs, unslot, hold, unhold, subR, freeze, ix_tup, ix_lst, ix_r, cm_eq, cm_ne, cm_lt, cm_le, cm_gt, cm_ge, cm_isn, cm_nisn, cm_isb, cm_inn, cm_nin, op_ad, op_sb, op_ml, op_dv, op_md, op_pw, op_sl, op_as, op_at, op_mt, op_al, bi_abs, bi_int, bi_intb, bi_lent, bi_lenl, bi_lenr, bi_lens, bi_listt, bi_listl, bi_tupt, bi_tupl, bi_tupr, bi_gcd, bi_max, bi_min, bi_str, bi_sum, bi_all, bi_any, tr_non, tr_bl, tr_int, tr_tup, tr_lst, ty_nt, ty_tt, ty_ti, ty_ii, ty_it, ty_is, sl_tup, sl_lst, sq_tup, sq_lst, ls_lst, th_lst, wk_tup, wk_lst, opt_some, eqV_non, h1', fp, noExc, hl']
def letL : List Nat := [48, 49, 50, 51, 52, 53, 54, 55, 56, 57, 45, 47, 32, 43, 46, 97]
theorem lit_letters : ("0123456789-/ +.a" : Str) = Tx letL := by decide +kernel
theorem let_get : ∀ r : Nat, r < 16 → ∃ c, letL[r]? = some c ∧ c < 1114112 := by decide
theorem take_ok (h : okL l) (p : Nat) : okL (l.take p) := fun c m => h c (List.mem_of_mem_take m)
theorem drop_ok (h : okL l) (p : Nat) : okL (l.drop p) := fun c m => h c (List.mem_of_mem_drop m)
theorem c_changed {ns : List Int} {a i c : Int} (hl : l.length ≤ 600) (ho : okL l) (ha : 0 ≤ a) (hi : 0 ≤ i) : ∃ l' a' i' c', callN F (d + 4) n__law_changed [.ref 0, .str (Tx l)] (G ns a i c []) = .ok (.str (Tx l')) (G ns a' i' c' []) ∧ okL l' ∧ l'.length ≤ l.length + 1 ∧ 0 ≤ a' ∧ 0 ≤ i' := by
  have hL := len_ok hl
  obtain ⟨r, a1, i1, c1, e1, p1, q1, ha1, hi1⟩ := c_draw (d := d) (ns := ns) (i := i) (c := c) (m := (l.length : Int) + 1) (tl := []) ha hi (by omega)
  obtain ⟨p, rfl⟩ := Int.eq_ofNat_of_zero_le p1
  obtain ⟨r, a2, i2, c2, e2, p2, q2, ha2, hi2⟩ := c_draw (d := d) (ns := ns) (i := i1) (c := c1) (m := 16) (tl := []) ha1 hi1 (by decide)
  obtain ⟨w, rfl⟩ := Int.eq_ofNat_of_zero_le p2
  obtain ⟨r, a3, i3, c3, e3, p3, q3, ha3, hi3⟩ := c_draw (d := d) (ns := ns) (i := i2) (c := c2) (m := 3) (tl := []) ha2 hi2 (by decide)
  obtain ⟨x, hx, ox⟩ := let_get w (by omega)
  have hp : p ≤ l.length := by omega
  have ox : okL [x] := fun c m => by rw [List.mem_singleton.mp m]; exact ox
  have it : ixV (G ns a2 i2 c2 []) (.str (Tx letL)) (.int (w : Int)) = some (.str (Tx [x])) := by
    rw [ix_tx (by decide), item_nat, hx]; rfl
  have env : ∀ ss, xss (callN F (d + 3)) (G ns a i c []).cells.length (.cons st__law_changed_0 (.cons st__law_changed_1 (.cons st__law_changed_2 (.cons st__law_changed_3 ss)))) [some (.ref 0), some (.str (Tx l)), none, none, none, none] (G ns a i c []) =
      xss (callN F (d + 3)) (G ns a i c []).cells.length ss [some (.ref 0), some (.str (Tx l)), some (.str (Tx letL)), some (.int p), some (.str (Tx [x])), some (.int r)] (G ns a3 i3 c3 []) := by
    intro ss
    rw [xss_step (σ' := [some (.ref 0), some (.str (Tx l)), some (.str (Tx letL)), none, none, none]) (S' := G ns a i c []) (by simp [st__law_changed_0, bd_ok, bd_exc, st_ok, st_exc, xss_cons, xss_nil, seq_next, seq_ret, seq_brk, seq_cont, seq_exc, eqV_int, xst, ev, evT, evs, evo, evc, evi, itemAt, MP.placeOf, bindT, bindTs, unslot, hold, unhold, subR, freeze, ix_tup, ix_lst, ix_r, cm_eq, cm_ne, cm_lt, cm_le, cm_gt, cm_ge, cm_isn, cm_nisn, cm_isb, cm_inn, cm_nin, op_ad, op_sb, op_ml, op_dv, op_md, op_pw, op_sl, op_as, op_at, op_mt, op_al, bi_abs, bi_int, bi_intb, bi_lent, bi_lenl, bi_lenr, bi_lens, bi_listt, bi_listl, bi_tupt, bi_tupl, bi_tupr, bi_gcd, bi_max, bi_min, bi_str, bi_sum, bi_all, bi_any, tr_non, tr_bl, tr_int, tr_tup, tr_lst, ty_nt, ty_tt, ty_ti, ty_ii, ty_it, ty_is, sl_tup, sl_lst, sq_tup, sq_lst, ls_lst, th_lst, wk_tup, wk_lst, opt_some, eqV_non, lit_letters]),
      xss_step (σ' := [some (.ref 0), some (.str (Tx l)), some (.str (Tx letL)), some (.int p), none, none]) (S' := G ns a1 i1 c1 []) (by simp [st__law_changed_1, bd_ok, bd_exc, st_ok, st_exc, xss_cons, xss_nil, seq_next, seq_ret, seq_brk, seq_cont, seq_exc, eqV_int, xst, ev, evT, evs, evo, evc, evi, itemAt, MP.placeOf, bindT, bindTs, unslot, hold, unhold, subR, freeze, ix_tup, ix_lst, ix_r, cm_eq, cm_ne, cm_lt, cm_le, cm_gt, cm_ge, cm_isn, cm_nisn, cm_isb, cm_inn, cm_nin, op_ad, op_sb, op_ml, op_dv, op_md, op_pw, op_sl, op_as, op_at, op_mt, op_al, bi_abs, bi_int, bi_intb, bi_lent, bi_lenl, bi_lenr, bi_lens, bi_listt, bi_listl, bi_tupt, bi_tupl, bi_tupr, bi_gcd, bi_max, bi_min, bi_str, bi_sum, bi_all, bi_any, tr_non, tr_bl, tr_int, tr_tup, tr_lst, ty_nt, ty_tt, ty_ti, ty_ii, ty_it, ty_is, sl_tup, sl_lst, sq_tup, sq_lst, ls_lst, th_lst, wk_tup, wk_lst, opt_some, eqV_non, len_tx hL, e1]),
      xss_step (σ' := [some (.ref 0), some (.str (Tx l)), some (.str (Tx letL)), some (.int p), some (.str (Tx [x])), none]) (S' := G ns a2 i2 c2 []) (by simp [st__law_changed_2, bd_ok, bd_exc, st_ok, st_exc, xss_cons, xss_nil, seq_next, seq_ret, seq_brk, seq_cont, seq_exc, eqV_int, xst, ev, evT, evs, evo, evc, evi, itemAt, MP.placeOf, bindT, bindTs, unslot, hold, unhold, subR, freeze, ix_tup, ix_lst, ix_r, cm_eq, cm_ne, cm_lt, cm_le, cm_gt, cm_ge, cm_isn, cm_nisn, cm_isb, cm_inn, cm_nin, op_ad, op_sb, op_ml, op_dv, op_md, op_pw, op_sl, op_as, op_at, op_mt, op_al, bi_abs, bi_int, bi_intb, bi_lent, bi_lenl, bi_lenr, bi_lens, bi_listt, bi_listl, bi_tupt, bi_tupl, bi_tupr, bi_gcd, bi_max, bi_min, bi_str, bi_sum, bi_all, bi_any, tr_non, tr_bl, tr_int, tr_tup, tr_lst, ty_nt, ty_tt, ty_ti, ty_ii, ty_it, ty_is, sl_tup, sl_lst, sq_tup, sq_lst, ls_lst, th_lst, wk_tup, wk_lst, opt_some, eqV_non, e2, it]),
      xss_step (σ' := [some (.ref 0), some (.str (Tx l)), some (.str (Tx letL)), some (.int p), some (.str (Tx [x])), some (.int r)]) (S' := G ns a3 i3 c3 []) (by simp [st__law_changed_3, bd_ok, bd_exc, st_ok, st_exc, xss_cons, xss_nil, seq_next, seq_ret, seq_brk, seq_cont, seq_exc, eqV_int, xst, ev, evT, evs, evo, evc, evi, itemAt, MP.placeOf, bindT, bindTs, unslot, hold, unhold, subR, freeze, ix_tup, ix_lst, ix_r, cm_eq, cm_ne, cm_lt, cm_le, cm_gt, cm_ge, cm_isn, cm_nisn, cm_isb, cm_inn, cm_nin, op_ad, op_sb, op_ml, op_dv, op_md, op_pw, op_sl, op_as, op_at, op_mt, op_al, bi_abs, bi_int, bi_intb, bi_lent, bi_lenl, bi_lenr, bi_lens, bi_listt, bi_listl, bi_tupt, bi_tupl, bi_tupr, bi_gcd, bi_max, bi_min, bi_str, bi_sum, bi_all, bi_any, tr_non, tr_bl, tr_int, tr_tup, tr_lst, ty_nt, ty_tt, ty_ti, ty_ii, ty_it, ty_is, sl_tup, sl_lst, sq_tup, sq_lst, ls_lst, th_lst, wk_tup, wk_lst, opt_some, eqV_non, e3])]
  have run : ∀ l', xss (callN F (d + 3)) (G ns a i c []).cells.length (.cons st__law_changed_4 (.cons st__law_changed_5 (.cons st__law_changed_6 .nil))) [some (.ref 0), some (.str (Tx l)), some (.str (Tx letL)), some (.int p), some (.str (Tx [x])), some (.int r)] (G ns a3 i3 c3 []) = .ret (.str (Tx l')) (G ns a3 i3 c3 []) → callN F (d + 4) n__law_changed [.ref 0, .str (Tx l)] (G ns a i c []) = .ok (.str (Tx l')) (G ns a3 i3 c3 []) := by
    intro l' h
    rw [callN_of (fd := ⟨2, 6, b__law_changed⟩) rfl rfl]
    exact run_G0 ((env _).trans h) rfl
  have o1 := take_ok ho p
  have o2 := drop_ok ho p
  have o3 := drop_ok ho (p + 1)
  have n1 : (l.take p).length = p := by rw [List.length_take]; omega
  have n2 : (l.drop p).length = l.length - p := List.length_drop
  have n3 : (l.drop (p + 1)).length = l.length - (p + 1) := List.length_drop
  have hM : l.length + 10 ≤ lenMax := Nat.le_trans (by omega : _ ≤ 610) (by decide)
  have A1 : ∀ T, opV T .add (.str (Tx (l.take p))) (.str (Tx [x])) = some (.str (Tx (l.take p ++ [x]))) := fun T => ad_tx (by rw [n1]; simp only [List.length_cons, List.length_nil]; omega)
  have A2 : ∀ T, opV T .add (.str (Tx (l.take p ++ [x]))) (.str (Tx (l.drop p))) = some (.str (Tx ((l.take p ++ [x]) ++ l.drop p))) := fun T => ad_tx (by rw [List.length_append, n1, n2]; simp only [List.length_cons, List.length_nil]; omega)
  have A3 : ∀ T, opV T .add (.str (Tx (l.take p ++ [x]))) (.str (Tx (l.drop (p + 1)))) = some (.str (Tx ((l.take p ++ [x]) ++ l.drop (p + 1)))) := fun T => ad_tx (by rw [List.length_append, n1, n3]; simp only [List.length_cons, List.length_nil]; omega)
  have A4 : ∀ T, opV T .add (.str (Tx (l.take p))) (.str (Tx (l.drop (p + 1)))) = some (.str (Tx (l.take p ++ l.drop (p + 1)))) := fun T => ad_tx (by rw [n1, n3]; omega)
  by_cases h0 : r = 0
  · refine ⟨(l.take p ++ [x]) ++ l.drop p, a3, i3, c3, run _ ?_, (o1.app ox).app o2, ?_, ha3, hi3⟩
    · simp [st__law_changed_4, bd_ok, bd_exc, st_ok, st_exc, xss_cons, xss_nil, seq_next, seq_ret, seq_brk, seq_cont, seq_exc, eqV_int, xst, ev, evT, evs, evo, evc, evi, itemAt, MP.placeOf, bindT, bindTs, unslot, hold, unhold, subR, freeze, ix_tup, ix_lst, ix_r, cm_eq, cm_ne, cm_lt, cm_le, cm_gt, cm_ge, cm_isn, cm_nisn, cm_isb, cm_inn, cm_nin, op_ad, op_sb, op_ml, op_dv, op_md, op_pw, op_sl, op_as, op_at, op_mt, op_al, bi_abs, bi_int, bi_intb, bi_lent, bi_lenl, bi_lenr, bi_lens, bi_listt, bi_listl, bi_tupt, bi_tupl, bi_tupr, bi_gcd, bi_max, bi_min, bi_str, bi_sum, bi_all, bi_any, tr_non, tr_bl, tr_int, tr_tup, tr_lst, ty_nt, ty_tt, ty_ti, ty_ii, ty_it, ty_is, sl_tup, sl_lst, sq_tup, sq_lst, ls_lst, th_lst, wk_tup, wk_lst, opt_some, eqV_non, h0, sl_tx hL, cut_hi hp, cut_lo hp, A1, A2, -List.append_assoc]
    · simp only [List.length_append, n1, n2, List.length_cons, List.length_nil]; omega
  · by_cases h1 : r = 1
    · refine ⟨l.take p ++ l.drop (p + 1), a3, i3, c3, run _ ?_, o1.app o3, ?_, ha3, hi3⟩
      · simp [st__law_changed_4, st__law_changed_5, bd_ok, bd_exc, st_ok, st_exc, xss_cons, xss_nil, seq_next, seq_ret, seq_brk, seq_cont, seq_exc, eqV_int, xst, ev, evT, evs, evo, evc, evi, itemAt, MP.placeOf, bindT, bindTs, unslot, hold, unhold, subR, freeze, ix_tup, ix_lst, ix_r, cm_eq, cm_ne, cm_lt, cm_le, cm_gt, cm_ge, cm_isn, cm_nisn, cm_isb, cm_inn, cm_nin, op_ad, op_sb, op_ml, op_dv, op_md, op_pw, op_sl, op_as, op_at, op_mt, op_al, bi_abs, bi_int, bi_intb, bi_lent, bi_lenl, bi_lenr, bi_lens, bi_listt, bi_listl, bi_tupt, bi_tupl, bi_tupr, bi_gcd, bi_max, bi_min, bi_str, bi_sum, bi_all, bi_any, tr_non, tr_bl, tr_int, tr_tup, tr_lst, ty_nt, ty_tt, ty_ti, ty_ii, ty_it, ty_is, sl_tup, sl_lst, sq_tup, sq_lst, ls_lst, th_lst, wk_tup, wk_lst, opt_some, eqV_non, h1, sl_tx hL, cut_hi hp, cut_lo1, A4, -List.append_assoc]
      · simp only [List.length_append, n1, n3]; omega
    · refine ⟨(l.take p ++ [x]) ++ l.drop (p + 1), a3, i3, c3, run _ ?_, (o1.app ox).app o3, ?_, ha3, hi3⟩
      · simp [st__law_changed_4, st__law_changed_5, st__law_changed_6, bd_ok, bd_exc, st_ok, st_exc, xss_cons, xss_nil, seq_next, seq_ret, seq_brk, seq_cont, seq_exc, eqV_int, xst, ev, evT, evs, evo, evc, evi, itemAt, MP.placeOf, bindT, bindTs, unslot, hold, unhold, subR, freeze, ix_tup, ix_lst, ix_r, cm_eq, cm_ne, cm_lt, cm_le, cm_gt, cm_ge, cm_isn, cm_nisn, cm_isb, cm_inn, cm_nin, op_ad, op_sb, op_ml, op_dv, op_md, op_pw, op_sl, op_as, op_at, op_mt, op_al, bi_abs, bi_int, bi_intb, bi_lent, bi_lenl, bi_lenr, bi_lens, bi_listt, bi_listl, bi_tupt, bi_tupl, bi_tupr, bi_gcd, bi_max, bi_min, bi_str, bi_sum, bi_all, bi_any, tr_non, tr_bl, tr_int, tr_tup, tr_lst, ty_nt, ty_tt, ty_ti, ty_ii, ty_it, ty_is, sl_tup, sl_lst, sq_tup, sq_lst, ls_lst, th_lst, wk_tup, wk_lst, opt_some, eqV_non, h0, h1, sl_tx hL, cut_hi hp, cut_lo1, A1, A3, -List.append_assoc]
      · simp only [List.length_append, n1, n3, List.length_cons, List.length_nil]; omega
end
end K02
end
section
set_option Elab.async false
set_option linter.all false
set_option maxRecDepth 100000
set_option maxHeartbeats 1000000
namespace K02
open PySem MP
theorem rdV_std (r : Nat ⊕ (Int × Int)) : (rdV r).std = true ∧ (rdV r).dp ≤ 64 := by
  have w : PyData.strOk ("wrong" : Str) = true := by decide +kernel
  have g : PyData.strOk ("right" : Str) = true := by decide +kernel
  match r with
  | .inl p => exact ⟨by simp [rdV, PV.std, PV.stds, w], by simp [rdV, PV.dp, PV.dps]⟩
  | .inr (t, b) => exact ⟨by simp [rdV, PV.std, PV.stds, g, fr, pr], by simp [rdV, PV.dp, PV.dps, fr, pr]⟩
theorem eq_rdV {S : Sto} (r : Nat ⊕ (Int × Int)) : eqV S (rdV r) (rdV r) = some true := by
  obtain ⟨h, h'⟩ := rdV_std r
  rw [eqV_std h h h' h', decide_eq_true rfl]
theorem eq_wrong {S : Sto} {p : Nat} : eqV S (rdV (.inl p)) (.tup [.str "wrong", .int p]) = some true := eq_rdV (.inl p)
theorem eqV_fr {S : Sto} {q : Rat} : eqV S (fr q) (fr q) = some true := by
  unfold fr pr
  rw [eqV_pr]
  simp
theorem rd_nil : rdM [] = .inl 0 := by decide +kernel
theorem rd_minus : rdM [45] = .inl 1 := by decide +kernel
section
variable {d : Nat} {ns : List Int}
theorem turn {d : Nat} {σ0 σ2 σ3 σ4 σ5 σ6 x : Option PV} {l : List Nat} {a i c : Int} {b : Nat} (hl : l.length ≤ 36) (ho : okL l) (ha : 0 ≤ a) (hi : 0 ≤ i) : ∃ l' a' i' c', xss (callN F (d + 20)) b bk_law_0 [σ0, some (.ref 0), σ2, σ3, σ4, σ5, σ6, some (.str (Tx l)), x] (G ns a i c []) = .next [σ0, some (.ref 0), σ2, σ3, σ4, σ5, σ6, some (.str (Tx l')), x] (G ns a' i' c' []) ∧ okL l' ∧ l'.length ≤ l.length + 1 ∧ 0 ≤ a' ∧ 0 ≤ i' := by
  obtain ⟨l', a', i', c', e, h1, h2, h3, h4⟩ := c_changed (d := d + 16) (l := l) (ns := ns) (c := c) (by omega) ho ha hi
  refine ⟨l', a', i', c', ?_, h1, h2, h3, h4⟩
  have r1 := c_lread (d := d + 17) (l := l) (S := G ns a i c []) (by omega) ho
  have r2 := c_due (d := d + 18) (l := l) (S := G ns a i c []) (by omega) ho
  have e3 : ∀ T, eqV T (rdV (rdM l)) (rdV (rdM l)) = some true := fun T => eq_rdV _
  generalize rdV (rdM l) = v at r1 r2 e3
  unfold bk_law_0
  simp [bd_ok, bd_exc, st_ok, st_exc, xss_cons, xss_nil, seq_next, seq_ret, seq_brk, seq_cont, seq_exc, eqV_int, xst, ev, evT, evs, evo, evc, evi, itemAt, MP.placeOf, bindT, bindTs, unslot, hold, unhold, subR, freeze, ix_tup, ix_lst, ix_r, cm_eq, cm_ne, cm_lt, cm_le, cm_gt, cm_ge, cm_isn, cm_nisn, cm_isb, cm_inn, cm_nin, op_ad, op_sb, op_ml, op_dv, op_md, op_pw, op_sl, op_as, op_at, op_mt, op_al, bi_abs, bi_int, bi_intb, bi_lent, bi_lenl, bi_lenr, bi_lens, bi_listt, bi_listl, bi_tupt, bi_tupl, bi_tupr, bi_gcd, bi_max, bi_min, bi_str, bi_sum, bi_all, bi_any, tr_non, tr_bl, tr_int, tr_tup, tr_lst, ty_nt, ty_tt, ty_ti, ty_ii, ty_it, ty_is, sl_tup, sl_lst, sq_tup, sq_lst, ls_lst, th_lst, wk_tup, wk_lst, opt_some, eqV_non, r1, r2, e, e3]
theorem pick : ∀ r : Nat, r < 3 → ∃ size : Int, itemAt [PV.int 10, .int 1000, .int (10 ^ 12)] (r : Int) = some (.int size) ∧ 2 ≤ size ∧ size ≤ 10 ^ 12 := fun r h => by
  have : r = 0 ∨ r = 1 ∨ r = 2 := by omega
  rcases this with rfl | rfl | rfl
  · exact ⟨10, rfl, by decide, by decide⟩
  · exact ⟨1000, rfl, by decide, by decide⟩
  · exact ⟨10 ^ 12, rfl, by decide, by decide⟩
theorem main : ∃ S', callN F (d + 21) n_law [.lst (ns.map .int)] ⟨[], false⟩ = .ok (.bl true) S' := by
  rw [callN_of (fd := ⟨1, 9, b_law⟩) rfl rfl]
  generalize hsc : PV.lst (ns.map .int) = sc
  have R : ∃ S', xss (callN F (d + 20)) 0 b_law [some sc, none, none, none, none, none, none, none, none] ⟨[], false⟩ = .ret (.bl true) S' := by
    have s0 := c_state (d := d + 19) (ns := ns)
    rw [hsc] at s0
    obtain ⟨r, u1, i1, w1, e1, p1, q1, p2, p3⟩ := c_draw (d := d + 17) (ns := ns) (a := 0) (i := 0) (c := 1 + (ns.length : Int)) (m := 3) (tl := []) (by omega) (by omega) (by decide)
    obtain ⟨m, rfl⟩ := Int.eq_ofNat_of_zero_le p1
    obtain ⟨size, hs, s2, s12⟩ := pick m (by omega)
    obtain ⟨r, u2, i2, w2, e2, t1, t2, p4, p5⟩ := c_draw (d := d + 17) (ns := ns) (a := u1) (i := i1) (c := w1) (m := size) (tl := []) p2 p3 (by omega)
    obtain ⟨top, rfl⟩ := Int.eq_ofNat_of_zero_le t1
    obtain ⟨r, u3, i3, w3, e3, b1, b2, p6, p7⟩ := c_draw (d := d + 17) (ns := ns) (a := u2) (i := i2) (c := w2) (m := size - 1) (tl := []) p4 p5 (by omega)
    obtain ⟨bt, rfl⟩ := Int.eq_ofNat_of_zero_le b1
    obtain ⟨g, u4, i4, w4, e4, g1, g2, p8, p9⟩ := c_draw (d := d + 17) (ns := ns) (a := u3) (i := i3) (c := w3) (m := 2) (tl := []) p6 p7 (by decide)
    have ht : (top : Int) < 10 ^ 12 := by omega
    have hb : (bt : Int) + 1 < 10 ^ 12 := by omega
    obtain ⟨t, htd⟩ : ∃ t : Int, t = if g = 1 then -(top : Int) else top := ⟨_, rfl⟩
    have hta : t.natAbs < 10 ^ 12 := by
      rw [htd]
      split <;> omega
    have hbz : (1 : Int) + (bt : Int) ≠ 0 := by omega
    have zt : sz 40 t := Nat.lt_trans hta (by decide)
    have zb : sz 40 ((1 : Int) + (bt : Int)) := Nat.lt_trans (show ((1 : Int) + (bt : Int)).natAbs < 10 ^ 12 by omega) (by decide)
    have zq := szq_divInt hbz zt zb
    have mk := fun T => r_make (d := d + 19) (S := T) (t := t) hbz
    generalize Rat.divInt t (1 + (bt : Int)) = q at zq mk
    have ln : (intL q.num).length ≤ 14 := intL_len (k := 13) (by decide) (Nat.lt_trans zq.1 (by decide))
    have ld : (TL.numL q.den).length ≤ 13 := TL.numL_len (by decide) (Nat.lt_trans (show q.den < 2 ^ 40 from zq.2) (by decide))
    have l1 := log_of zq.1 (by decide)
    have l2 := log_of zq.2 (by decide)
    have lq : (frL q).length ≤ 600 := by
      unfold frL
      split
      · omega
      · simp only [List.length_append, List.length_cons]; omega
    have wr := fun T => c_write (d := d + 19) (S := T) zq (by decide) (by omega)
    have rdq := fun T => c_read (d := d + 18) (S := T) lq (frL_ok q)
    rw [rd_frL] at rdq
    simp only [Rat.num_divInt_den] at rdq
    have q1 : ∀ T, ixV T (fr q) (.int 1) = some (.int (q.den : Nat)) := fun T => rfl
    have q0 : ∀ T, ixV T (fr q) (.int 0) = some (.int q.num) := fun T => rfl
    have efr : ∀ T, eqV T (fr q) (fr q) = some true := fun T => eqV_fr
    have etx : ∀ T, eqV T (.str (Tx (frL q))) (.str (Tx (frL q))) = some true := fun T => by rw [eq_tx (frL_ok q) (frL_ok q), decide_eq_true rfl]
    have s5 : ∀ T, xst (callN F (d + 20)) 0 st_law_5 [some sc, some (.ref 0), some (.int size), some (.int top), some (.int (1 + (bt : Int))), some (fr q), none, none, none] T = .next [some sc, some (.ref 0), some (.int size), some (.int top), some (.int (1 + (bt : Int))), some (fr q), some (.str (Tx (frL q))), none, none] T := by
      intro T
      unfold frL
      by_cases h1 : q.den = 1
      · rw [if_pos h1]
        have h1' : ((q.den : Nat) : Int) = 1 := by omega
        simp [st_law_5, bd_ok, bd_exc, st_ok, st_exc, xss_cons, xss_nil, seq_next, seq_ret, seq_brk, seq_cont, seq_exc, eqV_int, xst, ev, evT, evs, evo, evc, evi, itemAt, MP.placeOf, bindT, bindTs, unslot, hold, unhold, subR, freeze, ix_tup, ix_lst, ix_r, cm_eq, cm_ne, cm_lt, cm_le, cm_gt, cm_ge, cm_isn, cm_nisn, cm_isb, cm_inn, cm_nin, op_ad, op_sb, op_ml, op_dv, op_md, op_pw, op_sl, op_as, op_at, op_mt, op_al, bi_abs, bi_int, bi_intb, bi_lent, bi_lenl, bi_lenr, bi_lens, bi_listt, bi_listl, bi_tupt, bi_tupl, bi_tupr, bi_gcd, bi_max, bi_min, bi_str, bi_sum, bi_all, bi_any, tr_non, tr_bl, tr_int, tr_tup, tr_lst, ty_nt, ty_tt, ty_ti, ty_ii, ty_it, ty_is, sl_tup, sl_lst, sq_tup, sq_lst, ls_lst, th_lst, wk_tup, wk_lst, opt_some, eqV_non, q1, q0, h1', l1, Tx_repr]
      · rw [if_neg h1]
        have h1' : ¬ ((q.den : Nat) : Int) = 1 := by omega
        have A1 : opV T .add (.str (Tx (intL q.num))) (.str (Tx [47])) = some (.str (Tx (intL q.num ++ [47]))) := ad_tx (Nat.le_trans (by simp; omega : _ ≤ 600) (by decide))
        have A2 : opV T .add (.str (Tx (intL q.num ++ [47]))) (.str (Tx (TL.numL q.den))) = some (.str (Tx ((intL q.num ++ [47]) ++ TL.numL q.den))) := ad_tx (Nat.le_trans (by simp; omega : _ ≤ 600) (by decide))
        have e : biV T .str [.int (q.den : Nat)] = some (.str (Tx (TL.numL q.den))) := by rw [str_tx l2, intL_nat]
        have e' : biV T .str [.int q.num] = some (.str (Tx (intL q.num))) := str_tx l1
        rw [show intL q.num ++ 47 :: TL.numL q.den = (intL q.num ++ [47]) ++ TL.numL q.den by simp]
        simp only [st_law_5, xst, ev, evT, evs, bd_ok, cm_eq, List.getElem?_cons_succ, List.getElem?_cons_zero, opt_some, q1, q0, eqV_int, h1', decide_false, e, e', lit_slash, A1, A2, st_ok, opt]
        rfl
    have hM : (600 : Nat) ≤ lenMax := by decide
    have lt : (intL (top : Int)).length ≤ 13 := intL_len (k := 12) (by decide) (by omega)
    have lb : (intL (1 + (bt : Int))).length ≤ 13 := intL_len (k := 12) (by decide) (by omega)
    obtain ⟨L0, hL0⟩ : ∃ L0, L0 = (intL (top : Int) ++ [47]) ++ intL (1 + (bt : Int)) := ⟨_, rfl⟩
    have oL0 : okL L0 := by
      rw [hL0]
      exact ((intL_ok _).app (fun c m => by rw [List.mem_singleton.mp m]; decide)).app (intL_ok _)
    have nL0 : L0.length ≤ 27 := by
      rw [hL0]
      simp only [List.length_append, List.length_cons, List.length_nil]
      omega
    have s7 : ∀ T, xst (callN F (d + 20)) 0 st_law_7 [some sc, some (.ref 0), some (.int size), some (.int top), some (.int (1 + (bt : Int))), some (fr q), some (.str (Tx (frL q))), none, none] T = .next [some sc, some (.ref 0), some (.int size), some (.int top), some (.int (1 + (bt : Int))), some (fr q), some (.str (Tx (frL q))), some (.str (Tx L0)), none] T := by
      intro T
      have e : biV T .str [.int (top : Int)] = some (.str (Tx (intL (top : Int)))) := str_tx (Nat.lt_of_le_of_lt (sz.log (k := 40) (Nat.lt_trans (show ((top : Int)).natAbs < 10 ^ 12 by omega) (by decide))) (by decide))
      have e' : biV T .str [.int (1 + (bt : Int))] = some (.str (Tx (intL (1 + (bt : Int))))) := str_tx (Nat.lt_of_le_of_lt zb.log (by decide))
      have A1 : opV T .add (.str (Tx (intL (top : Int)))) (.str (Tx [47])) = some (.str (Tx (intL (top : Int) ++ [47]))) := ad_tx (Nat.le_trans (by simp; omega : _ ≤ 600) (by decide))
      have A2 : opV T .add (.str (Tx (intL (top : Int) ++ [47]))) (.str (Tx (intL (1 + (bt : Int))))) = some (.str (Tx L0)) := by
        rw [hL0]
        exact ad_tx (Nat.le_trans (by simp; omega : _ ≤ 600) (by decide))
      simp only [st_law_7, xst, ev, evT, evs, bd_ok, List.getElem?_cons_succ, List.getElem?_cons_zero, opt_some, e, e', lit_slash, A1, A2, st_ok, opt]
      rfl
    have pk : powOk 10 12 = true := by decide
    have st04 : ∀ ss, xss (callN F (d + 20)) 0 (.cons st_law_0 (.cons st_law_1 (.cons st_law_2 (.cons st_law_3 (.cons st_law_4 ss))))) [some sc, none, none, none, none, none, none, none, none] ⟨[], false⟩ =
        xss (callN F (d + 20)) 0 ss [some sc, some (.ref 0), some (.int size), some (.int top), some (.int (1 + (bt : Int))), some (fr q), none, none, none] (G ns u4 i4 w4 []) := by
      intro ss
      rw [xss_step (σ' := [some sc, some (.ref 0), none, none, none, none, none, none, none]) (S' := G ns 0 0 (1 + (ns.length : Int)) []) (by simp [st_law_0, bd_ok, bd_exc, st_ok, st_exc, xss_cons, xss_nil, seq_next, seq_ret, seq_brk, seq_cont, seq_exc, eqV_int, xst, ev, evT, evs, evo, evc, evi, itemAt, MP.placeOf, bindT, bindTs, unslot, hold, unhold, subR, freeze, ix_tup, ix_lst, ix_r, cm_eq, cm_ne, cm_lt, cm_le, cm_gt, cm_ge, cm_isn, cm_nisn, cm_isb, cm_inn, cm_nin, op_ad, op_sb, op_ml, op_dv, op_md, op_pw, op_sl, op_as, op_at, op_mt, op_al, bi_abs, bi_int, bi_intb, bi_lent, bi_lenl, bi_lenr, bi_lens, bi_listt, bi_listl, bi_tupt, bi_tupl, bi_tupr, bi_gcd, bi_max, bi_min, bi_str, bi_sum, bi_all, bi_any, tr_non, tr_bl, tr_int, tr_tup, tr_lst, ty_nt, ty_tt, ty_ti, ty_ii, ty_it, ty_is, sl_tup, sl_lst, sq_tup, sq_lst, ls_lst, th_lst, wk_tup, wk_lst, opt_some, eqV_non, s0]),
        xss_step (σ' := [some sc, some (.ref 0), some (.int size), none, none, none, none, none, none]) (S' := G ns u1 i1 w1 []) (by
          have ix : ixV (G ns u1 i1 w1 []) (.lst [PV.int 10, .int 1000, .int (10 ^ 12)]) (.int (m : Int)) = some (.int size) := by rw [ix_lst]; exact hs
          simp only [st_law_1, xst, ev, evs, bd_ok, List.getElem?_cons_succ, List.getElem?_cons_zero, op_pw, pk, if_true, opt_some, e1]
          show ((opt (ixV (G ns u1 i1 w1 []) (.lst [PV.int 10, .int 1000, .int (10 ^ 12)]) (.int (m : Int))) _).st _ _) = _
          rw [ix]
          rfl),
        xss_step (σ' := [some sc, some (.ref 0), some (.int size), some (.int top), none, none, none, none, none]) (S' := G ns u2 i2 w2 []) (by simp [st_law_2, bd_ok, bd_exc, st_ok, st_exc, xss_cons, xss_nil, seq_next, seq_ret, seq_brk, seq_cont, seq_exc, eqV_int, xst, ev, evT, evs, evo, evc, evi, itemAt, MP.placeOf, bindT, bindTs, unslot, hold, unhold, subR, freeze, ix_tup, ix_lst, ix_r, cm_eq, cm_ne, cm_lt, cm_le, cm_gt, cm_ge, cm_isn, cm_nisn, cm_isb, cm_inn, cm_nin, op_ad, op_sb, op_ml, op_dv, op_md, op_pw, op_sl, op_as, op_at, op_mt, op_al, bi_abs, bi_int, bi_intb, bi_lent, bi_lenl, bi_lenr, bi_lens, bi_listt, bi_listl, bi_tupt, bi_tupl, bi_tupr, bi_gcd, bi_max, bi_min, bi_str, bi_sum, bi_all, bi_any, tr_non, tr_bl, tr_int, tr_tup, tr_lst, ty_nt, ty_tt, ty_ti, ty_ii, ty_it, ty_is, sl_tup, sl_lst, sq_tup, sq_lst, ls_lst, th_lst, wk_tup, wk_lst, opt_some, eqV_non, e2]),
        xss_step (σ' := [some sc, some (.ref 0), some (.int size), some (.int top), some (.int (1 + (bt : Int))), none, none, none, none]) (S' := G ns u3 i3 w3 []) (by simp [st_law_3, bd_ok, bd_exc, st_ok, st_exc, xss_cons, xss_nil, seq_next, seq_ret, seq_brk, seq_cont, seq_exc, eqV_int, xst, ev, evT, evs, evo, evc, evi, itemAt, MP.placeOf, bindT, bindTs, unslot, hold, unhold, subR, freeze, ix_tup, ix_lst, ix_r, cm_eq, cm_ne, cm_lt, cm_le, cm_gt, cm_ge, cm_isn, cm_nisn, cm_isb, cm_inn, cm_nin, op_ad, op_sb, op_ml, op_dv, op_md, op_pw, op_sl, op_as, op_at, op_mt, op_al, bi_abs, bi_int, bi_intb, bi_lent, bi_lenl, bi_lenr, bi_lens, bi_listt, bi_listl, bi_tupt, bi_tupl, bi_tupr, bi_gcd, bi_max, bi_min, bi_str, bi_sum, bi_all, bi_any, tr_non, tr_bl, tr_int, tr_tup, tr_lst, ty_nt, ty_tt, ty_ti, ty_ii, ty_it, ty_is, sl_tup, sl_lst, sq_tup, sq_lst, ls_lst, th_lst, wk_tup, wk_lst, opt_some, eqV_non, e3]),
        xss_step (σ' := [some sc, some (.ref 0), some (.int size), some (.int top), some (.int (1 + (bt : Int))), some (fr q), none, none, none]) (S' := G ns u4 i4 w4 []) (by
          by_cases hg : g = 1
          · rw [htd, if_pos hg] at mk
            simp [st_law_4, bd_ok, bd_exc, st_ok, st_exc, xss_cons, xss_nil, seq_next, seq_ret, seq_brk, seq_cont, seq_exc, eqV_int, xst, ev, evT, evs, evo, evc, evi, itemAt, MP.placeOf, bindT, bindTs, unslot, hold, unhold, subR, freeze, ix_tup, ix_lst, ix_r, cm_eq, cm_ne, cm_lt, cm_le, cm_gt, cm_ge, cm_isn, cm_nisn, cm_isb, cm_inn, cm_nin, op_ad, op_sb, op_ml, op_dv, op_md, op_pw, op_sl, op_as, op_at, op_mt, op_al, bi_abs, bi_int, bi_intb, bi_lent, bi_lenl, bi_lenr, bi_lens, bi_listt, bi_listl, bi_tupt, bi_tupl, bi_tupr, bi_gcd, bi_max, bi_min, bi_str, bi_sum, bi_all, bi_any, tr_non, tr_bl, tr_int, tr_tup, tr_lst, ty_nt, ty_tt, ty_ti, ty_ii, ty_it, ty_is, sl_tup, sl_lst, sq_tup, sq_lst, ls_lst, th_lst, wk_tup, wk_lst, opt_some, eqV_non, e4, hg, mk]
          · rw [htd, if_neg hg] at mk
            simp [st_law_4, bd_ok, bd_exc, st_ok, st_exc, xss_cons, xss_nil, seq_next, seq_ret, seq_brk, seq_cont, seq_exc, eqV_int, xst, ev, evT, evs, evo, evc, evi, itemAt, MP.placeOf, bindT, bindTs, unslot, hold, unhold, subR, freeze, ix_tup, ix_lst, ix_r, cm_eq, cm_ne, cm_lt, cm_le, cm_gt, cm_ge, cm_isn, cm_nisn, cm_isb, cm_inn, cm_nin, op_ad, op_sb, op_ml, op_dv, op_md, op_pw, op_sl, op_as, op_at, op_mt, op_al, bi_abs, bi_int, bi_intb, bi_lent, bi_lenl, bi_lenr, bi_lens, bi_listt, bi_listl, bi_tupt, bi_tupl, bi_tupr, bi_gcd, bi_max, bi_min, bi_str, bi_sum, bi_all, bi_any, tr_non, tr_bl, tr_int, tr_tup, tr_lst, ty_nt, ty_tt, ty_ti, ty_ii, ty_it, ty_is, sl_tup, sl_lst, sq_tup, sq_lst, ls_lst, th_lst, wk_tup, wk_lst, opt_some, eqV_non, e4, hg, mk])]
    have s6 : ∀ T, xst (callN F (d + 20)) 0 st_law_6 [some sc, some (.ref 0), some (.int size), some (.int top), some (.int (1 + (bt : Int))), some (fr q), some (.str (Tx (frL q))), none, none] T = .next [some sc, some (.ref 0), some (.int size), some (.int top), some (.int (1 + (bt : Int))), some (fr q), some (.str (Tx (frL q))), none, none] T := by
      intro T
      simp [st_law_6, bd_ok, bd_exc, st_ok, st_exc, xss_cons, xss_nil, seq_next, seq_ret, seq_brk, seq_cont, seq_exc, eqV_int, xst, ev, evT, evs, evo, evc, evi, itemAt, MP.placeOf, bindT, bindTs, unslot, hold, unhold, subR, freeze, ix_tup, ix_lst, ix_r, cm_eq, cm_ne, cm_lt, cm_le, cm_gt, cm_ge, cm_isn, cm_nisn, cm_isb, cm_inn, cm_nin, op_ad, op_sb, op_ml, op_dv, op_md, op_pw, op_sl, op_as, op_at, op_mt, op_al, bi_abs, bi_int, bi_intb, bi_lent, bi_lenl, bi_lenr, bi_lens, bi_listt, bi_listl, bi_tupt, bi_tupl, bi_tupr, bi_gcd, bi_max, bi_min, bi_str, bi_sum, bi_all, bi_any, tr_non, tr_bl, tr_int, tr_tup, tr_lst, ty_nt, ty_tt, ty_ti, ty_ii, ty_it, ty_is, sl_tup, sl_lst, sq_tup, sq_lst, ls_lst, th_lst, wk_tup, wk_lst, opt_some, eqV_non, wr, rdq, efr, etx]
    generalize fr q = A at *
    generalize PV.str (Tx (frL q)) = X at *
    obtain ⟨σ1, S1, lp, L1, x, u5, i5, w5, hσ, hS, oL1, nL1, p10, p11⟩ := for_rng (C := callN F (d + 20)) (b := 0) (t := .name 8) (e := .cst (.int 3)) (p := bk_law_0) (n := 3) (P := fun i σ S' => ∃ l x a' i' c', σ = [some sc, some (.ref 0), some (.int size), some (.int top), some (.int (1 + (bt : Int))), some A, some X, some (.str (Tx l)), x] ∧ S' = G ns a' i' c' [] ∧ okL l ∧ l.length ≤ 27 + i ∧ 0 ≤ a' ∧ 0 ≤ i')
      (σ := [some sc, some (.ref 0), some (.int size), some (.int top), some (.int (1 + (bt : Int))), some A, some X, some (.str (Tx L0)), none]) (S := G ns u4 i4 w4 []) (by rw [ev]; rfl) (by omega) ⟨L0, none, u4, i4, w4, rfl, rfl, oL0, by omega, p8, p9⟩ (fun j σ S' hj ⟨l, x, a', i', c', e1, e2, ol, nl, h1, h2⟩ => by
        subst e1; subst e2
        obtain ⟨l', a2, i2, c2, e, o2, n2, h3, h4⟩ := turn (d := d) (b := 0) (σ0 := some sc) (σ2 := some (.int size)) (σ3 := some (.int top)) (σ4 := some (.int (1 + (bt : Int)))) (σ5 := some A) (σ6 := some X) (x := some (.int j)) (ns := ns) (c := c') (l := l) (by omega) ol h1 h2
        exact ⟨_, _, _, rfl, e, l', some (.int j), a2, i2, c2, rfl, rfl, o2, by omega, h3, h4⟩)
    subst hσ; subst hS
    have r1 := c_lread (d := d + 17) (l := L1) (S := G ns u5 i5 w5 []) (by omega) oL1
    have r2 := c_due (d := d + 18) (l := L1) (S := G ns u5 i5 w5 []) (by omega) oL1
    have r3 := c_lread (d := d + 17) (l := []) (S := G ns u5 i5 w5 []) (by simp) (fun c m => by cases m)
    have r4 := c_lread (d := d + 17) (l := [45]) (S := G ns u5 i5 w5 []) (by simp) (fun c m => by rw [List.mem_singleton.mp m]; decide)
    rw [rd_nil] at r3
    rw [rd_minus] at r4
    have k3 := eq_wrong (S := G ns u5 i5 w5 []) (p := 0)
    have k4 := eq_wrong (S := G ns u5 i5 w5 []) (p := 1)
    have k1 := eq_rdV (S := G ns u5 i5 w5 []) (rdM L1)
    generalize rdV (rdM L1) = v1 at r1 r2 k1
    generalize rdV (.inl 0) = v3 at r3 k3
    generalize rdV (.inl 1) = v4 at r4 k4
    have k3 : eqV (G ns u5 i5 w5 []) v3 (.tup [.str "wrong", .int 0]) = some true := k3
    have k4 : eqV (G ns u5 i5 w5 []) v4 (.tup [.str "wrong", .int 1]) = some true := k4
    refine ⟨G ns u5 i5 w5 [], ?_⟩
    unfold b_law
    rw [st04, xss_step (s5 _), xss_step (s6 _), xss_step (s7 _)]
    unfold st_law_8
    rw [xss_step lp]
    simp [st_law_9, bd_ok, bd_exc, st_ok, st_exc, xss_cons, xss_nil, seq_next, seq_ret, seq_brk, seq_cont, seq_exc, eqV_int, xst, ev, evT, evs, evo, evc, evi, itemAt, MP.placeOf, bindT, bindTs, unslot, hold, unhold, subR, freeze, ix_tup, ix_lst, ix_r, cm_eq, cm_ne, cm_lt, cm_le, cm_gt, cm_ge, cm_isn, cm_nisn, cm_isb, cm_inn, cm_nin, op_ad, op_sb, op_ml, op_dv, op_md, op_pw, op_sl, op_as, op_at, op_mt, op_al, bi_abs, bi_int, bi_intb, bi_lent, bi_lenl, bi_lenr, bi_lens, bi_listt, bi_listl, bi_tupt, bi_tupl, bi_tupr, bi_gcd, bi_max, bi_min, bi_str, bi_sum, bi_all, bi_any, tr_non, tr_bl, tr_int, tr_tup, tr_lst, ty_nt, ty_tt, ty_ti, ty_ii, ty_it, ty_is, sl_tup, sl_lst, sq_tup, sq_lst, ls_lst, th_lst, wk_tup, wk_lst, opt_some, eqV_non, lit_empty, lit_minus, r1, r2, r3, r4, k1, k3, k4]
  obtain ⟨S', hS'⟩ := R
  exact run_main (fd := ⟨1, 9, b_law⟩) (args := [sc]) (S := ⟨[], false⟩) hS'
end
abbrev depth : Nat := 40
theorem main_all (ns : List Int) (_ : ns.length ≤ 63) : ∃ S', callN F depth lawNo [.lst (ns.map .int)] ⟨[], false⟩ = .ok (.bl true) S' := main (d := 19)
end K02
end
set_option Elab.async false
set_option linter.all false
set_option maxRecDepth 100000
set_option maxHeartbeats 4000000
open PySem PySem.W PySem.Calls PyProof.Rows
theorem PySem.Challenge.cw_motionsheld_k02_fraction_texts_holds : PySem.Challenge.rw_motionsheld_k02_fraction_texts.Holds := by
  w_on; o_law
  refine HandSHeadRun.head_imp (r := K02.R) (q := view K02.R.prog K02.view) (H := K02.hk) (ob := K02.ob) (M := 40000) (loose := K02.loose) (d := HandSHeadRun.topDef K02.R.prog K02.lawAt) (kwd := []) K02.ob_eq K02.run
    (by kernel_rfl) (by kernel_rfl) (by kernel_rfl) (by rfl) (by first | assumption | decide +kernel) (by decide +kernel) ⟨rfl, rfl, rfl, rfl, rfl, by decide +kernel⟩ ?hw ?hc
  case hw => w_witness2
  case hc =>
    exact MP.law_walk (l := PySem.Challenge.rw_motionsheld_k02_fraction_texts) (T := K02.T) (D := K02.D) (XD := K02.XD) (n := 5) (li := K02.lawNo) (dd := K02.depth) (tl := K02.t_law) rfl (by kernel_rfl) ⟨rfl, by decide, by decide⟩ rfl K02.looks rfl rfl rfl (by decide +kernel) (by kernel_rfl) K02.bds K02.xins K02.bxs rfl rfl (by kernel_rfl) fun ns hl => K02.main_all ns hl

