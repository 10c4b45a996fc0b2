import PyProof.Rows.All
import PySem.Str
import PySem.PyData
import PyProof.P3Statements
import HandS.Text
import HandS.ForMost
import HandS.Exc
import HandS.ExcOwn
import HandS.TryOnly
import HandS.WordsExc
import HandS.Walk
import HandS.Zip
import HandS.Wide
import HandS.WideBits
import HandS.Gcd
import HandS.IsInst
import HandS.Style
import HandS.Flow
import HandS.Defaults
import HandS.More
import HandS.DictTup
import HandS.SetKeys
import HandS.SortInts
import HandS.TupAny
import HandS.TupMul
import HandS.TryMany
import HandS.FStr
import HandS.TupLe
import HandS.Deep
import PyProof.Rows.SeqMore
import HandS.Conv
import HandS.SortOrd
import KE.KDictSum
import HandS.DictSub
import PyProof.WalksMore
import HandS.ExcIs
import HandS.ExcInit
import KE.KExcIs
import HandS.Codes
import HandS.NoneIn
import KE.GoesZip
import KE.GoesMore
import HandS.Small
import HandS.HeadHook2
import HandS.HeadEnd
import HandS.Head3
import PyProof.EqLayable
import PySem.Challenge.RW_motionsheld_k06_polynomials
section
set_option linter.all false
/-! MP: a small language of pure values. Its runs are total functions; MPSound shows that the model's runs of the same text go alike. -/
namespace MP
open PySem (Str PyData)
/-- a value: a tuple is its parts; what may change is a number of the store -/
inductive PV where
  | non | bl (b : Bool) | int (i : Int) | str (x : Str) | tup (xs : List PV) | lst (xs : List PV) | obj (c : Nat) (fs : List PV) | ref (k : Nat)
mutual
def PV.beq : PV → PV → Bool
  | .non, .non => true
  | .bl a, .bl b => a == b
  | .int a, .int b => a == b
  | .str a, .str b => decide (a = b)
  | .tup a, .tup b => PV.beqs a b
  | .lst a, .lst b => PV.beqs a b
  | .obj c a, .obj d b => c == d && PV.beqs a b
  | .ref a, .ref b => a == b
  | _, _ => false
def PV.beqs : List PV → List PV → Bool
  | [], [] => true
  | a :: as, b :: bs => PV.beq a b && PV.beqs as bs
  | _, _ => false
end
mutual
theorem PV.beq_eq : ∀ {a b : PV}, PV.beq a b = true → a = b
  | .non, b, h => by cases b <;> simp_all [PV.beq]
  | .bl _, b, h => by cases b <;> simp_all [PV.beq]
  | .int _, b, h => by cases b <;> simp_all [PV.beq]
  | .str _, b, h => by cases b <;> simp_all [PV.beq]
  | .tup xs, b, h => by
    cases b with
    | tup ys => rw [PV.beqs_eq (show PV.beqs xs ys = true by simpa [PV.beq] using h)]
    | _ => simp [PV.beq] at h
  | .lst xs, b, h => by
    cases b with
    | lst ys => rw [PV.beqs_eq (show PV.beqs xs ys = true by simpa [PV.beq] using h)]
    | _ => simp [PV.beq] at h
  | .obj c xs, b, h => by
    cases b with
    | obj d ys =>
      have h' : c = d ∧ PV.beqs xs ys = true := by simpa [PV.beq] using h
      rw [PV.beqs_eq h'.2, h'.1]
    | _ => simp [PV.beq] at h
  | .ref _, b, h => by cases b <;> simp_all [PV.beq]
theorem PV.beqs_eq : ∀ {a b : List PV}, PV.beqs a b = true → a = b
  | [], [], _ => rfl
  | [], _ :: _, h => by simp [PV.beqs] at h
  | _ :: _, [], h => by simp [PV.beqs] at h
  | x :: xs, y :: ys, h => by
    have h' : PV.beq x y = true ∧ PV.beqs xs ys = true := by simpa [PV.beqs] using h
    rw [PV.beq_eq h'.1, PV.beqs_eq h'.2]
end
mutual
theorem PV.beq_refl : ∀ a : PV, PV.beq a a = true
  | .non => rfl
  | .bl _ => by simp [PV.beq]
  | .int _ => by simp [PV.beq]
  | .str _ => by simp [PV.beq]
  | .tup xs => by simp [PV.beq, PV.beqs_refl xs]
  | .lst xs => by simp [PV.beq, PV.beqs_refl xs]
  | .obj _ xs => by simp [PV.beq, PV.beqs_refl xs]
  | .ref _ => by simp [PV.beq]
theorem PV.beqs_refl : ∀ a : List PV, PV.beqs a a = true
  | [] => rfl
  | x :: xs => by simp [PV.beqs, PV.beq_refl x, PV.beqs_refl xs]
end
instance : DecidableEq PV := fun a b =>
  if h : PV.beq a b = true then .isTrue (PV.beq_eq h) else .isFalse fun e => h (e ▸ PV.beq_refl a)
abbrev Key := Sum Int Str
/-- a thing that may change (ro: a list that is only read) -/
inductive Cell where
  | lst (xs : List PV) | ro (xs : List PV) | dT (kvs : List (List Int × PV)) | dK (kvs : List (Key × PV)) | ins (c : Nat) (fs : List PV)
  deriving DecidableEq
mutual
def PV.pure : PV → Bool
  | .ref _ => false
  | .tup xs => PV.pures xs
  | .lst xs => PV.pures xs
  | .obj _ xs => PV.pures xs
  | _ => true
def PV.pures : List PV → Bool
  | [] => true
  | x :: xs => x.pure && PV.pures xs
end
mutual
def PV.und (n : Nat) : PV → Bool
  | .ref k => decide (k < n)
  | .tup xs => PV.unds n xs
  | .lst xs => PV.unds n xs
  | .obj _ xs => PV.unds n xs
  | _ => true
def PV.unds (n : Nat) : List PV → Bool
  | [] => true
  | x :: xs => x.und n && PV.unds n xs
end
def Cell.und (n : Nat) : Cell → Bool
  | .lst xs => PV.unds n xs
  | .ro xs => PV.unds n xs
  | .dT kvs => PV.unds n (kvs.map (·.2))
  | .dK kvs => PV.unds n (kvs.map (·.2))
  | .ins _ fs => PV.unds n fs
structure Sto where
  cells : List Cell
  dirty : Bool
def Sto.push (S : Sto) (c : Cell) : Sto := ⟨S.cells ++ [c], S.dirty⟩
/-- the cell k is written with a value (p: it is pure); b: what stood at the def's entry -/
def Sto.wr (S : Sto) (b k : Nat) (c : Cell) (p : Bool) : Sto := ⟨S.cells.set k c, S.dirty || (decide (k < b) && !p)⟩
def Sto.lst? (S : Sto) (k : Nat) : Option (List PV) := match S.cells[k]? with
  | some (.lst xs) => some xs
  | some (.ro xs) => some xs
  | _ => none
def Sto.len (S : Sto) : Nat := S.cells.length
inductive R (α : Type) where
  | ok (a : α) (S : Sto) | exc (c : Nat) (as : List PV) (S : Sto) | bad
def R.bd {α β : Type} (r : R α) (f : α → Sto → R β) : R β := match r with
  | .ok a S => f a S
  | .exc c as S => .exc c as S
  | .bad => .bad
abbrev Env := List (Option PV)
inductive RS where
  | next (σ : Env) (S : Sto) | ret (v : PV) (S : Sto) | brk (σ : Env) (S : Sto) | cont (σ : Env) (S : Sto) | exc (c : Nat) (as : List PV) (σ : Env) (S : Sto) | bad
/-- an expression's run within a statement -/
def R.st {α : Type} (r : R α) (σ : Env) (f : α → Sto → RS) : RS := match r with
  | .ok a S => f a S
  | .exc c as S => .exc c as σ S
  | .bad => .bad
/-! ### the text -/
inductive Op where | add | sub | mul | fdiv | mod | pow | shl
inductive Cm where | eq | ne | lt | le | gt | ge | isn | nisn | inn | nin
/-- built-in functions -/
inductive Bi where | abs | int | len | list | tuple | gcd | max2 | min2 | str | sum | sorted | all | any | bool | maxL | minL
/-- built-in types, for isinstance -/
inductive Ty where | int | bool | str | tup
mutual
/-- a target of names -/
inductive Tg where
  | name (i : Nat) | tup (ts : Tgs)
inductive Tgs where
  | nil | cons (t : Tg) (ts : Tgs)
end
mutual
inductive E where
  | var (i : Nat)
  | cst (v : PV)
  | tup (es : Es)
  | lst (es : Es)
  | bin (o : Op) (a b : E)
  | neg (a : E)
  | not (a : E)
  | and (a b : E)
  | or (a b : E)
  | cmp (o : Cm) (a b : E)
  | chain (o o' : Cm) (a b c : E)
  | ife (c a b : E)
  | ix (a b : E)
  | slc (a : E) (lo hi : Eo)
  | call (f : Nat) (es : Es)
  | bi (f : Bi) (es : Es)
  | isi (a : E) (t : Ty)
  | eat (i j : Nat)
  | eisi (i : Nat)
  | lc (t : Tg) (own : List Nat) (it : It) (c : Eo) (e : E)
  /-- a list that is made here and may be changed -/
  | new (e : E)
  /-- a list that is no longer changed -/
  | frz (e : E)
  /-- an attribute, by the classes that have it and its places there -/
  | att (e : E) (ps : List (Nat × Nat))
  /-- a method, by its def's number, of the classes cs -/
  | meth (f : Nat) (cs : List Nat) (e : E) (es : Es)
  /-- a new instance of the class c, f its __init__; fr: it does not change afterwards -/
  | mk (f c : Nat) (fr : Bool) (es : Es)
  | isr (e : E) (c : Nat)
  | dnew (t : Bool)
  | dget (d k x : E)
  | sdef (d k x : E)
  | disp (ks : List PV) (es : Es)
  | fstr (es : Es)
  | maxD (e d : E)
inductive Eo where
  | none | some (e : E)
inductive Es where
  | nil | cons (e : E) (es : Es)
/-- what a for walks -/
inductive It where
  | seq (e : E) | rng1 (e : E) | rng2 (a b : E) | rng3 (a b : E) | zip (a b : E) | enum (e : E)
end
/-- a target -/
inductive Tt where
  | of (t : Tg) | sub (a i : E) | att (a : E) (ps : List (Nat × Nat))
mutual
inductive St where
  | asg (t : Tt) (e : E)
  | par (i j : Nat) (a b : E)
  | aug (i : Nat) (o : Op) (e : E)
  | augA (a : E) (ps : List (Nat × Nat)) (e : E)
  | expr (e : E)
  | append (a e : E)
  | ifs (c : E) (a b : Ss)
  | fors (t : Tg) (it : It) (b : Ss)
  | whiles (c : E) (b : Ss)
  | ret (e : E)
  | retN
  | raise (c : Nat) (es : Es)
  | tryo (b : Ss) (c : Nat) (i : Option Nat) (h : Ss)
  | pass | brk | cont
inductive Ss where
  | nil | cons (s : St) (ss : Ss)
end
/-! ### operators -/
def lenMax : Nat := 16777216
/-- a product's size -/
def mulOk (a b : Int) : Bool := decide (a.natAbs < 2 ^ 64) || decide (b.natAbs < 2 ^ 64) || decide (a.natAbs.log2 + b.natAbs.log2 + 2 ≤ 134217728)
def shlOk (a b : Int) : Bool := decide (0 ≤ b) && decide ((a.natAbs.log2 : Int) + 1 + b ≤ 134217728)
def powOk (a b : Int) : Bool := decide (0 ≤ b) && decide (b ≤ 1000000) && decide (a.natAbs < 2 ^ 64)
def divOk (b : Int) : Bool := decide (b ≠ 0)
/-- the items of a list or tuple that stays or stands in the store -/
def seqOf (S : Sto) : PV → Option (List PV)
  | .tup xs => some xs
  | .lst xs => some xs
  | .ref k => S.lst? k
  | _ => none
def lstOf (S : Sto) : PV → Option (List PV)
  | .lst xs => some xs
  | .ref k => S.lst? k
  | _ => none
/-- an operator on values -/
def opV (S : Sto) (o : Op) (x y : PV) : Option PV := match o, x, y with
  | .add, .int a, .int b => some (.int (a + b))
  | .sub, .int a, .int b => some (.int (a - b))
  | .mul, .int a, .int b => if mulOk a b then some (.int (a * b)) else none
  | .fdiv, .int a, .int b => if divOk b then some (.int (a.fdiv b)) else none
  | .mod, .int a, .int b => if b = 0 then none else some (.int (a.fmod b))
  | .pow, .int a, .int b => if powOk a b then some (.int (a ^ b.toNat)) else none
  | .shl, .int a, .int b => if shlOk a b then some (.int (a * 2 ^ b.toNat)) else none
  | .add, .str a, .str b => if a.length + b.length ≤ lenMax then some (.str (a ++ b)) else none
  | .add, .tup a, .tup b => if a.length + b.length ≤ lenMax then some (.tup (a ++ b)) else none
  | .mul, .tup a, .int k => if !a.isEmpty && decide (2 ≤ k) && decide (k ≤ 1000) && decide (a.length ≤ 1000) then some (.tup (List.replicate k.toNat a).flatten) else none
  | .add, a, b => match lstOf S a, lstOf S b with
    | some xs, some ys => if xs.length + ys.length ≤ lenMax then some (.lst (xs ++ ys)) else none
    | _, _ => none
  | _, _, _ => none
mutual
def PV.toD : PV → Option PyData
  | .non => some .none
  | .bl b => some (.bool b)
  | .int i => some (.int i)
  | .str x => some (.str x)
  | .tup xs => (PV.toDs xs).map .tuple
  | .lst xs => (PV.toDs xs).map .list
  | .obj _ _ => none
  | .ref _ => none
def PV.toDs : List PV → Option (List PyData)
  | [] => some []
  | x :: xs => match x.toD, PV.toDs xs with
    | some d, some ds => some (d :: ds)
    | _, _ => none
end
def toDS (S : Sto) : PV → Option PyData
  | .ref k => match S.lst? k with
    | some xs => (PV.toDs xs).map .list
    | none => none
  | v => v.toD
def shaped (d : PyData) : Bool := d.canLay0 && decide (d.depth ≤ 64)
def eqV (S : Sto) (x y : PV) : Option Bool := match toDS S x, toDS S y with
  | some d, some e => if shaped d && shaped e then some (d.eqv e) else none
  | _, _ => none
/-- a flat value: neither a tuple nor a number of the store -/
def PV.flat : PV → Bool
  | .ref _ => false
  | .tup _ => false
  | .lst _ => false
  | .obj _ _ => false
  | _ => true
def PV.eqF : PV → PV → Bool
  | .non, .non => true
  | .bl a, .bl b => a == b
  | .bl a, .int b => (if a then 1 else 0) == b
  | .int a, .bl b => a == (if b then 1 else 0)
  | .int a, .int b => a == b
  | .str a, .str b => a == b
  | _, _ => false
/-- `in` over a list of data of any depth -/
def inDeep (S : Sto) (x y : PV) : Option Bool := match toDS S x, toDS S y with
  | some d, some (.list ds) => if shaped d && shaped (.list ds) then some (ds.any fun z => z.eqv d) else none
  | _, _ => none
def inSeq (S : Sto) (x y : PV) : Option Bool := match y with
  | .str z => match x with
    | .str z1 => match z1.cps.toList with
      | [c] => some (decide (c ∈ z.cps.toList))
      | _ => none
    | _ => none
  | _ => match seqOf S y with
    | some xs => if x.flat && xs.all PV.flat then some (xs.any fun z => z.eqF x) else inDeep S x y
    | none => none
def intsOf : List PV → Option (List Int)
  | [] => some []
  | .int i :: xs => (intsOf xs).map (i :: ·)
  | _ => none
def blsOf : List PV → Option (List Bool)
  | [] => some []
  | .bl i :: xs => (blsOf xs).map (i :: ·)
  | _ => none
/-- the order of rows of ints -/
def lexI : List Int → List Int → Bool
  | [], [] => false
  | [], _ :: _ => true
  | _ :: _, [] => false
  | a :: as, b :: bs => if a = b then lexI as bs else decide (a < b)
def cmI (f : Int → Int → Bool) : PV → PV → Option Bool
  | .int a, .int b => some (f a b)
  | _, _ => none
def cmL : PV → PV → Option Bool
  | .int a, .int b => some (decide (a < b))
  | .tup xs, .tup ys => match intsOf xs, intsOf ys with
    | some as, some bs => some (lexI as bs)
    | _, _ => none
  | _, _ => none
def isV (x y : PV) : Option Bool := match y with
  | .non => some (decide (x = .non))
  | .bl d => match x with
    | .bl c => some (decide (c = d))
    | _ => none
  | _ => none
def cmV (S : Sto) (o : Cm) (x y : PV) : Option Bool := match o with
  | .eq => eqV S x y
  | .ne => (eqV S x y).map (!·)
  | .lt => cmL x y
  | .le => cmI (fun a b => decide (a ≤ b)) x y
  | .gt => cmI (fun a b => decide (b < a)) x y
  | .ge => cmI (fun a b => decide (b ≤ a)) x y
  | .isn => isV x y
  | .nisn => (isV x y).map (!·)
  | .inn => inSeq S x y
  | .nin => (inSeq S x y).map (!·)
def truV (S : Sto) : PV → Option Bool
  | .non => some false
  | .bl b => some b
  | .int i => some (i != 0)
  | .str x => if x.length ≤ lenMax then some (x.length != 0) else none
  | .tup xs => some (!xs.isEmpty)
  | .lst xs => some (!xs.isEmpty)
  | .obj _ _ => none
  | .ref k => match S.cells[k]? with
    | some (.lst xs) => some (!xs.isEmpty)
    | some (.ro xs) => some (!xs.isEmpty)
    | _ => none
/-- the place that an index tells in a row of so many things -/
def placeOf (len : Nat) (i : Int) : Option Nat :=
  if 0 ≤ i then (if i < len then some i.toNat else none) else if -(len : Int) ≤ i then some (i + len).toNat else none
def itemAt {α : Type} (xs : List α) (i : Int) : Option α := (placeOf xs.length i).bind fun j => xs[j]?
/-- a key of a dict -/
def keyOf : PV → Option Key
  | .int i => some (.inl i)
  | .str x => some (.inr x)
  | _ => none
def valK {κ : Type} [DecidableEq κ] (kvs : List (κ × PV)) (k : κ) : Option PV := (kvs.find? fun kv => decide (kv.1 = k)).map (·.2)
/-- in its place, or at the end -/
def putK {κ : Type} [DecidableEq κ] (kvs : List (κ × PV)) (k : κ) (v : PV) : List (κ × PV) :=
  if (kvs.any fun kv => decide (kv.1 = k)) = true then kvs.map (fun kv => if kv.1 = k then (kv.1, v) else kv) else kvs ++ [(k, v)]
/-- what a dict holds: none if it cannot be asked -/
def dAsk (S : Sto) (k : Nat) (y : PV) : Option (Option PV) := match S.cells[k]? with
  | some (.dK kvs) => (keyOf y).map fun q => valK kvs q
  | some (.dT kvs) => match y with
    | .tup ys => (intsOf ys).map fun q => valK kvs q
    | _ => none
  | _ => none
def dPut (S : Sto) (k : Nat) (y v : PV) : Option Cell := match S.cells[k]? with
  | some (.dK kvs) => if kvs.length < lenMax then (keyOf y).map fun q => .dK (putK kvs q v) else none
  | some (.dT kvs) => match y with
    | .tup ys => if kvs.length < lenMax then (intsOf ys).map fun q => .dT (putK kvs q v) else none
    | _ => none
  | _ => none
def ixV (S : Sto) (x y : PV) : Option PV := match x, y with
  | .tup xs, .int i => itemAt xs i
  | .lst xs, .int i => itemAt xs i
  | .str z, .int i => if z.length ≤ lenMax then (itemAt z.cps.toList i).map fun c => .str ⟨#[c]⟩ else none
  | .ref k, y => match S.lst? k, y with
    | some xs, .int i => itemAt xs i
    | none, y => (dAsk S k y).bind id
    | _, _ => none
  | _, _ => none
/-- where a slice begins or ends -/
def edge (len d : Nat) : Option Int → Nat
  | none => d
  | some v => if v < 0 then (v + (len : Int)).toNat else min v.toNat len
def cut {α : Type} (xs : List α) (lo hi : Option Int) : List α := (xs.drop (edge xs.length 0 lo)).take (edge xs.length xs.length hi - edge xs.length 0 lo)
def slV (S : Sto) (x : PV) (lo hi : Option Int) : Option PV := match x with
  | .tup xs => some (.tup (cut xs lo hi))
  | .lst xs => some (.lst (cut xs lo hi))
  | .ref k => (S.lst? k).map fun xs => .lst (cut xs lo hi)
  | .str z => if z.length ≤ lenMax then some (.str ⟨(cut z.cps.toList lo hi).toArray⟩) else none
  | _ => none
def isTy : PV → Ty → Option Bool
  | .non, _ => some false
  | .bl _, .bool => some true
  | .bl _, .int => some true
  | .bl _, _ => some false
  | .int _, .int => some true
  | .int _, _ => some false
  | .str _, .str => some true
  | .str _, _ => some false
  | .tup _, .tup => some true
  | .tup _, _ => some false
  | _, _ => none
/-- rows of ints, none of them empty -/
def rowsOf : List PV → Option (List (List Int))
  | [] => some []
  | .tup ys :: xs => match intsOf ys, rowsOf xs with
    | some y, some r => if y.isEmpty then none else some (y :: r)
    | _, _ => none
  | _ => none
/-- x put behind what is not above it -/
def insL {α : Type} (lt : α → α → Bool) (x : α) : List α → List α
  | [] => [x]
  | y :: ys => if lt x y then x :: y :: ys else y :: insL lt x ys
def sortL {α : Type} (lt : α → α → Bool) (xs : List α) : List α := xs.foldl (fun acc x => insL lt x acc) []
def rowPV (r : List Int) : PV := .tup (r.map .int)
/-- sorted: rows of ints, or ints -/
def sortV (xs : List PV) : Option (List PV) := match intsOf xs with
  | some ns => some ((sortL (fun a b => decide (a < b)) ns).map .int)
  | none => (rowsOf xs).map fun rs => (sortL lexI rs).map rowPV
def biV (S : Sto) (f : Bi) (xs : List PV) : Option PV := match f, xs with
  | .abs, [.int i] => some (.int (if i < 0 then -i else i))
  | .int, [.int i] => some (.int i)
  | .int, [.bl b] => some (.int (if b then 1 else 0))
  | .int, [.str z] => if z.length ≤ 640 then (PySem.intText? z).map .int else none
  | .len, [.tup ys] => some (.int ys.length)
  | .len, [.str z] => if z.length ≤ lenMax then some (.int z.length) else none
  | .len, [v] => (lstOf S v).map fun ys => .int ys.length
  | .list, [.ref k] => match S.cells[k]? with
    | some (.lst ys) => some (.lst ys)
    | some (.ro ys) => some (.lst ys)
    | some (.dT kvs) => some (.lst (kvs.map fun p => rowPV p.1))
    | _ => none
  | .list, [v] => (seqOf S v).map .lst
  | .tuple, [v] => (seqOf S v).map .tup
  | .gcd, [.int a, .int b] => some (.int ((Nat.gcd a.natAbs b.natAbs : Nat) : Int))
  | .max2, [.int a, .int b] => some (.int (if b > a then b else a))
  | .min2, [.int a, .int b] => some (.int (if b < a then b else a))
  | .str, [.int a] => if a.natAbs.log2 < 1920 then some (.str (toString a)) else none
  | .sum, [v] => ((seqOf S v).bind intsOf).map fun ns => .int ns.sum
  | .all, [v] => ((lstOf S v).bind blsOf).map fun ns => .bl (ns.all id)
  | .any, [v] => ((lstOf S v).bind blsOf).map fun ns => .bl (ns.any id)
  | .sorted, [.ref k] => match S.cells[k]? with
    | some (.dT kvs) => if (kvs.map (·.1)).any (·.isEmpty) then none else some (.lst ((sortL lexI (kvs.map (·.1))).map rowPV))
    | some (.lst ys) => (sortV ys).map .lst
    | some (.ro ys) => (sortV ys).map .lst
    | _ => none
  | .sorted, [.lst ys] => (sortV ys).map .lst
  | _, _ => none
/-- max(dict with int keys, default=..) -/
def maxDV (S : Sto) (x d : PV) : Option PV := match x with
  | .ref k => match S.cells[k]? with
    | some (.dK kvs) => match intsOf (kvs.map fun p => match p.1 with
        | .inl i => PV.int i
        | .inr z => PV.str z) with
      | some [] => some d
      | some (i :: is) => some (.int (is.foldl max i))
      | none => none
    | _ => none
  | .lst xs => match intsOf xs with
    | some [] => some d
    | some (i :: is) => some (.int (is.foldl max i))
    | none => none
  | _ => none
def attV (S : Sto) (v : PV) (ps : List (Nat × Nat)) : Option PV := match v with
  | .obj c fs => (ps.lookup c).bind fun p => fs[p]?
  | .ref k => match S.cells[k]? with
    | some (.ins c fs) => (ps.lookup c).bind fun p => fs[p]?
    | _ => none
  | _ => none
/-- an instance's class -/
def clsV (S : Sto) (v : PV) : Option Nat := match v with
  | .obj c _ => some c
  | .ref k => match S.cells[k]? with
    | some (.ins c _) => some c
    | _ => none
  | _ => none
/-- an attribute is stored: in its place, or as the next one -/
def putA (fs : List PV) (p : Nat) (v : PV) : Option (List PV) := if p < fs.length then some (fs.set p v) else if p = fs.length then some (fs ++ [v]) else none
/-- what is walked: the items; the lists that must stand as they are meanwhile -/
abbrev Walk := List PV × List (Nat × List PV)
def stands (S : Sto) (g : List (Nat × List PV)) : Bool := g.all fun p => decide (S.lst? p.1 = some p.2)
def walkV (S : Sto) (v : PV) : Option Walk := match v with
  | .tup xs => some (xs, [])
  | .lst xs => some (xs, [])
  | .ref k => (S.lst? k).map fun xs => (xs, [(k, xs)])
  | _ => none
def small (i : Int) : Bool := decide (-(2 ^ 62) ≤ i) && decide (i < 2 ^ 62)
def rngL (a : Int) (n : Nat) : List PV := (List.range n).map fun (i : Nat) => .int (a + (i : Int))
def rngD (a : Int) (n : Nat) : List PV := (List.range n).map fun (i : Nat) => .int (a - (i : Int))
def enumL : Nat → List PV → List PV
  | _, [] => []
  | i, x :: xs => .tup [.int (i : Int), x] :: enumL (i + 1) xs
def pairs (xs ys : List PV) : List PV := (xs.zip ys).map fun r => .tup [r.1, r.2]
def isTup : PV → Bool
  | .tup _ => true
  | _ => false
def zipV (S : Sto) (v u : PV) : Option Walk := match walkV S v, walkV S u with
  | some w, some w' => some (pairs w.1 w'.1, w.2 ++ w'.2)
  | _, _ => none
def enumV (S : Sto) (v : PV) : Option Walk := match isTup v, walkV S v with
  | false, some w => some (enumL 0 w.1, w.2)
  | _, _ => none
mutual
def bindT : Tg → PV → Env → Option Env
  | .name i, v, σ => some (σ.set i (some v))
  | .tup ts, .tup xs, σ => bindTs ts xs σ
  | .tup ts, .lst xs, σ => bindTs ts xs σ
  | .tup _, _, _ => none
def bindTs : Tgs → List PV → Env → Option Env
  | .nil, [], σ => some σ
  | .cons t ts, x :: xs, σ => match bindT t x σ with
    | some σ' => bindTs ts xs σ'
    | none => none
  | _, _, _ => none
end
def wipe (σ : Env) : List Nat → Env
  | [] => σ
  | v :: vs => (wipe σ vs).set v none
def opt {α : Type} (o : Option α) (S : Sto) : R α := match o with
  | some a => .ok a S
  | none => .bad
/-- a list comprehension's turns -/
def lcLoop (g : Sto → Bool) (bind : PV → Option Env) (test : Env → Sto → R Bool) (elt : Env → Sto → R PV) : List PV → List PV → Sto → R (List PV)
  | [], acc, S => if g S then .ok acc S else .bad
  | x :: xs, acc, S => if g S then (match bind x with
    | none => .bad
    | some σ => (test σ S).bd fun c S1 => match c with
      | true => (elt σ S1).bd fun y S2 => if acc.length < lenMax then lcLoop g bind test elt xs (acc ++ [y]) S2 else .bad
      | false => lcLoop g bind test elt xs acc S1) else .bad
def noExc {α : Type} (r : R α) : R α := match r with
  | .exc _ _ _ => .bad
  | r => r
/-- the parts of an f-string -/
def fparts : List PV → Option Str
  | [] => some Str.empty
  | .str x :: r => (fparts r).map (x ++ ·)
  | .int i :: r => if i.natAbs.log2 < 1920 then (fparts r).map (Str.ofString (toString i) ++ ·) else none
  | _ => none
def dispK : List PV → List PV → Option (List (Key × PV))
  | [], [] => some []
  | k :: ks, v :: vs => match keyOf k, dispK ks vs with
    | some q, some r => if r.all fun p => decide (p.1 ≠ q) then some ((q, v) :: r) else none
    | _, _ => none
  | _, _ => none
def thaw (v : PV) (S : Sto) : R PV := match v with
  | .lst xs => .ok (.ref S.len) (S.push (.lst xs))
  | _ => .bad
def freeze (v : PV) (S : Sto) : R PV := match v with
  | .ref k => match S.cells[k]? with
    | some (.lst xs) => .ok (.lst xs) ⟨S.cells.set k (.ro xs), S.dirty⟩
    | _ => .bad
  | _ => .bad
/-- behind __init__: k the instance's number -/
def made (k : Nat) (fr : Bool) (v : PV) (S : Sto) : R PV := match v with
  | .non => if fr then (match S.cells[k]? with
      | some (.ins c fs) => if PV.pures fs && !S.dirty && decide (S.cells.length = k + 1) then .ok (.obj c fs) ⟨S.cells.take k, S.dirty⟩ else .bad
      | _ => .bad) else .ok (.ref k) S
  | _ => .bad
def dictAt (v : PV) (S : Sto) : R Nat := match v with
  | .ref j => match S.cells[j]? with
    | some (.dT _) => .ok j S
    | some (.dK _) => .ok j S
    | _ => .bad
  | _ => .bad
def sdefR (S : Sto) (b : Nat) (j : Nat) (k x : PV) : R PV := match dAsk S j k with
  | some (some v) => .ok v S
  | some none => match dPut S j k x with
    | some c => .ok x (S.wr b j c x.pure)
    | none => .bad
  | none => .bad
section
variable (C : Nat → List PV → Sto → R PV) (b : Nat)
mutual
def ev : E → Env → Sto → R PV
  | .var i, σ, S => match σ[i]? with
    | some (some v) => .ok v S
    | _ => .bad
  | .cst v, _, S => .ok v S
  | .tup es, σ, S => (evs es σ S).bd fun vs S1 => .ok (.tup vs) S1
  | .lst es, σ, S => (evs es σ S).bd fun vs S1 => .ok (.lst vs) S1
  | .bin o x y, σ, S => (ev x σ S).bd fun v S1 => (ev y σ S1).bd fun u S2 => opt (opV S2 o v u) S2
  | .neg x, σ, S => (ev x σ S).bd fun v S1 => match v with
    | .int i => .ok (.int (-i)) S1
    | _ => .bad
  | .not x, σ, S => (ev x σ S).bd fun v S1 => (opt (truV S1 v) S1).bd fun c S2 => .ok (.bl (!c)) S2
  | .and x y, σ, S => (ev x σ S).bd fun v S1 => match v with
    | .bl true => ev y σ S1
    | .bl false => .ok (.bl false) S1
    | _ => .bad
  | .or x y, σ, S => (ev x σ S).bd fun v S1 => match v with
    | .bl true => .ok (.bl true) S1
    | .bl false => ev y σ S1
    | _ => .bad
  | .cmp o x y, σ, S => (ev x σ S).bd fun v S1 => (ev y σ S1).bd fun u S2 => (opt (cmV S2 o v u) S2).bd fun c S3 => .ok (.bl c) S3
  | .chain o o' x y z, σ, S => (ev x σ S).bd fun v S1 => (ev y σ S1).bd fun u S2 => (opt (cmV S2 o v u) S2).bd fun c S3 => match c with
    | true => (ev z σ S3).bd fun w S4 => (opt (cmV S4 o' u w) S4).bd fun d S5 => .ok (.bl d) S5
    | false => .ok (.bl false) S3
  | .ife c x y, σ, S => (evT c σ S).bd fun d S1 => match d with
    | true => ev x σ S1
    | false => ev y σ S1
  | .ix x y, σ, S => (ev x σ S).bd fun v S1 => (ev y σ S1).bd fun u S2 => opt (ixV S2 v u) S2
  | .slc x lo hi, σ, S => (ev x σ S).bd fun v S1 => (evo lo σ S1).bd fun l S2 => (evo hi σ S2).bd fun h S3 => opt (slV S3 v l h) S3
  | .call f es, σ, S => (evs es σ S).bd fun vs S1 => C f vs S1
  | .bi f es, σ, S => (evs es σ S).bd fun vs S1 => opt (biV S1 f vs) S1
  | .isi x t, σ, S => (ev x σ S).bd fun v S1 => (opt (isTy v t) S1).bd fun c S2 => .ok (.bl c) S2
  | .eat i j, σ, S => match σ[i]? with
    | some (some (.tup (_ :: as))) => opt as[j]? S
    | _ => .bad
  | .eisi i, σ, S => match σ[i]? with
    | some (some (.tup (_ :: _))) => .ok (.bl true) S
    | _ => .bad
  | .lc t own it c e, σ, S => (evi it σ S).bd fun w S1 => noExc ((lcLoop (fun S => stands S w.2) (fun x => bindT t x (wipe σ own)) (evc c) (ev e) w.1 [] S1).bd fun ys S2 => .ok (.lst ys) S2)
  | .new e, σ, S => (ev e σ S).bd thaw
  | .frz e, σ, S => (ev e σ S).bd freeze
  | .att e ps, σ, S => (ev e σ S).bd fun v S1 => opt (attV S1 v ps) S1
  | .meth f cs e es, σ, S => (ev e σ S).bd fun v S1 => if ((clsV S1 v).any fun c => cs.contains c) then (evs es σ S1).bd fun vs S2 => C f (v :: vs) S2 else .bad
  | .mk f c fr es, σ, S => (evs es σ S).bd fun vs S1 => (C f (.ref S1.len :: vs) (S1.push (.ins c []))).bd fun v S2 => made S1.len fr v S2
  | .isr e c, σ, S => (ev e σ S).bd fun v S1 => (opt (clsV S1 v) S1).bd fun d S2 => .ok (.bl (decide (d = c))) S2
  | .dnew t, _, S => .ok (.ref S.len) (S.push (if t then .dT [] else .dK []))
  | .dget d k x, σ, S => (ev d σ S).bd fun v S1 => (dictAt v S1).bd fun j S1 => (ev k σ S1).bd fun y S2 => (ev x σ S2).bd fun z S3 => (opt (dAsk S3 j y) S3).bd fun o S4 => .ok (o.getD z) S4
  | .sdef d k x, σ, S => (ev d σ S).bd fun v S1 => (dictAt v S1).bd fun j S1 => (ev k σ S1).bd fun y S2 => (ev x σ S2).bd fun z S3 => sdefR S3 b j y z
  | .disp ks es, σ, S => (evs es σ S).bd fun vs S1 => (opt (dispK ks vs) S1).bd fun kvs S2 => .ok (.ref S2.len) (S2.push (.dK kvs))
  | .fstr es, σ, S => (noExc (evs es σ S)).bd fun vs S1 => (opt (fparts vs) S1).bd fun z S2 => if z.length ≤ lenMax then .ok (.str z) S2 else .bad
  | .maxD e d, σ, S => (ev e σ S).bd fun v S1 => (ev d σ S1).bd fun u S2 => opt (maxDV S2 v u) S2
def evT : E → Env → Sto → R Bool
  | .not x, σ, S => (evT x σ S).bd fun c S1 => .ok (!c) S1
  | .and x y, σ, S => (evT x σ S).bd fun c S1 => match c with
    | true => evT y σ S1
    | false => .ok false S1
  | .or x y, σ, S => (evT x σ S).bd fun c S1 => match c with
    | true => .ok true S1
    | false => evT y σ S1
  | .cmp o x y, σ, S => (ev x σ S).bd fun v S1 => (ev y σ S1).bd fun u S2 => opt (cmV S2 o v u) S2
  | .chain o o' x y z, σ, S => (ev x σ S).bd fun v S1 => (ev y σ S1).bd fun u S2 => (opt (cmV S2 o v u) S2).bd fun c S3 => match c with
    | true => (ev z σ S3).bd fun w S4 => opt (cmV S4 o' u w) S4
    | false => .ok false S3
  | .var i, σ, S => match σ[i]? with
    | some (some v) => opt (truV S v) S
    | _ => .bad
  | .ix x y, σ, S => (ev x σ S).bd fun v S1 => (ev y σ S1).bd fun u S2 => (opt (ixV S2 v u) S2).bd fun z S3 => opt (truV S3 z) S3
  | .call f es, σ, S => ((evs es σ S).bd fun vs S1 => C f vs S1).bd fun z S3 => opt (truV S3 z) S3
  | .bi f es, σ, S => ((evs es σ S).bd fun vs S1 => opt (biV S1 f vs) S1).bd fun z S3 => opt (truV S3 z) S3
  | .isi x t, σ, S => (ev x σ S).bd fun v S1 => opt (isTy v t) S1
  | .eisi i, σ, S => match σ[i]? with
    | some (some (.tup (_ :: _))) => .ok true S
    | _ => .bad
  | .att e ps, σ, S => ((ev e σ S).bd fun v S1 => opt (attV S1 v ps) S1).bd fun z S3 => opt (truV S3 z) S3
  | .isr e c, σ, S => (ev e σ S).bd fun v S1 => (opt (clsV S1 v) S1).bd fun d S2 => .ok (decide (d = c)) S2
  | .meth f cs e es, σ, S => ((ev e σ S).bd fun v S1 => if ((clsV S1 v).any fun c => cs.contains c) then (evs es σ S1).bd fun vs S2 => C f (v :: vs) S2 else .bad).bd fun z S3 => opt (truV S3 z) S3
  | _, _, _ => .bad
def evs : Es → Env → Sto → R (List PV)
  | .nil, _, S => .ok [] S
  | .cons e es, σ, S => (ev e σ S).bd fun v S1 => (evs es σ S1).bd fun vs S2 => .ok (v :: vs) S2
def evo : Eo → Env → Sto → R (Option Int)
  | .none, _, S => .ok none S
  | .some e, σ, S => (ev e σ S).bd fun v S1 => match v with
    | .int i => .ok (some i) S1
    | _ => .bad
def evc : Eo → Env → Sto → R Bool
  | .none, _, S => .ok true S
  | .some e, σ, S => evT e σ S
def evi : It → Env → Sto → R Walk
  | .seq e, σ, S => (ev e σ S).bd fun v S1 => opt (walkV S1 v) S1
  | .rng1 e, σ, S => (ev e σ S).bd fun v S1 => match v with
    | .int n => if small n then .ok (rngL 0 n.toNat, []) S1 else .bad
    | _ => .bad
  | .rng2 x y, σ, S => (ev x σ S).bd fun v S1 => (ev y σ S1).bd fun u S2 => match v, u with
    | .int a, .int c => if small a && small c then .ok (rngL a (c - a).toNat, []) S2 else .bad
    | _, _ => .bad
  | .rng3 x y, σ, S => (ev x σ S).bd fun v S1 => (ev y σ S1).bd fun u S2 => match v, u with
    | .int a, .int c => if small a && small c then .ok (rngD a (a - c).toNat, []) S2 else .bad
    | _, _ => .bad
  | .zip x y, σ, S => (ev x σ S).bd fun v S1 => (ev y σ S1).bd fun u S2 => opt (zipV S2 v u) S2
  | .enum e, σ, S => (ev e σ S).bd fun v S1 => opt (enumV S1 v) S1
end
/-- a for's turns -/
def forLoop (g : Sto → Bool) (bind : PV → Env → Option Env) (body : Env → Sto → RS) : List PV → Env → Sto → RS
  | [], σ, S => if g S then .next σ S else .bad
  | x :: xs, σ, S => if g S then (match bind x σ with
    | none => .bad
    | some σ1 => match body σ1 S with
      | .next σ2 S2 => forLoop g bind body xs σ2 S2
      | .cont σ2 S2 => forLoop g bind body xs σ2 S2
      | .brk σ2 S2 => .next σ2 S2
      | r => r) else .bad
def whileLoop (test : Env → Sto → R Bool) (body : Env → Sto → RS) : Nat → Env → Sto → RS
  | 0, _, _ => .bad
  | n + 1, σ, S => (test σ S).st σ fun c S1 => match c with
    | false => .next σ S1
    | true => match body σ S1 with
      | .next σ2 S2 => whileLoop test body n σ2 S2
      | .cont σ2 S2 => whileLoop test body n σ2 S2
      | .brk σ2 S2 => .next σ2 S2
      | r => r
def RS.seq (r : RS) (f : Env → Sto → RS) : RS := match r with
  | .next σ S => f σ S
  | r => r
def fuel : Nat := 2 ^ 40
/-- an except clause: the exception's class and what it holds stand in the slot -/
def hold (c : Nat) (as : List PV) (σ : Env) : Option Nat → Env
  | some k => σ.set k (some (.tup (.int (c : Int) :: as)))
  | none => σ
def holdOk (σ : Env) : Option Nat → Bool
  | some k => decide (k < σ.length)
  | none => true
def unhold (σ : Env) : Option Nat → Env
  | some k => σ.set k none
  | none => σ
def unslot (i : Option Nat) : RS → RS
  | .next σ S => .next (unhold σ i) S
  | .ret v S => .ret v S
  | .brk σ S => .brk (unhold σ i) S
  | .cont σ S => .cont (unhold σ i) S
  | _ => .bad
def caught (c : Nat) (i : Option Nat) (h : Env → Sto → RS) : RS → RS
  | .exc d as σ S => if d = c then (if holdOk σ i then unslot i (h (hold c as σ i) S) else .bad) else .exc d as σ S
  | r => r
/-- a[k] = v -/
def subR (σ : Env) (o k v : PV) (S : Sto) : RS := match o with
  | .ref a => match S.cells[a]? with
    | some (.lst xs) => match k with
      | .int n => match placeOf xs.length n with
        | some j => .next σ (S.wr b a (.lst (xs.set j v)) v.pure)
        | none => .bad
      | _ => .bad
    | _ => match dPut S a k v with
      | some c => .next σ (S.wr b a c v.pure)
      | none => .bad
  | _ => .bad
/-- o.f = v -/
def attR (σ : Env) (o : PV) (ps : List (Nat × Nat)) (v : PV) (S : Sto) : RS := match o with
  | .ref a => match S.cells[a]? with
    | some (.ins c fs) => match (ps.lookup c).bind fun p => putA fs p v with
      | some gs => .next σ (S.wr b a (.ins c gs) v.pure)
      | none => .bad
    | _ => .bad
  | _ => .bad
mutual
def xst : St → Env → Sto → RS
  | .asg (.of t) e, σ, S => (ev C b e σ S).st σ fun v S1 => match bindT t v σ with
    | some σ1 => .next σ1 S1
    | none => .bad
  | .asg (.sub x i) e, σ, S => (ev C b e σ S).st σ fun v S1 => (ev C b x σ S1).st σ fun o S2 => (ev C b i σ S2).st σ fun k S3 => subR b σ o k v S3
  | .asg (.att x ps) e, σ, S => (ev C b e σ S).st σ fun v S1 => (ev C b x σ S1).st σ fun o S2 => attR b σ o ps v S2
  | .par i j x y, σ, S => (ev C b x σ S).st σ fun v S1 => (ev C b y σ S1).st σ fun u S2 => .next ((σ.set i (some v)).set j (some u)) S2
  | .aug i o e, σ, S => match σ[i]? with
    | some (some x) => (ev C b e σ S).st σ fun v S1 => match o, x, v with
      | .add, .int a, .int c => .next (σ.set i (some (.int (a + c)))) S1
      | _, _, _ => .bad
    | _ => .bad
  | .augA x ps e, σ, S => (ev C b x σ S).st σ fun o S1 => (opt (attV S1 o ps) S1).st σ fun u S2 => (ev C b e σ S2).st σ fun v S3 => match u, v with
    | .int a, .int c => attR b σ o ps (.int (a + c)) S3
    | _, _ => .bad
  | .expr e, σ, S => (ev C b e σ S).st σ fun _ S1 => .next σ S1
  | .append x e, σ, S => (ev C b x σ S).st σ fun o S1 => match o with
    | .ref a => match S1.cells[a]? with
      | some (.lst _) => (ev C b e σ S1).st σ fun v S2 => match S2.cells[a]? with
        | some (.lst xs) => if xs.length < lenMax then .next σ (S2.wr b a (.lst (xs ++ [v])) v.pure) else .bad
        | _ => .bad
      | _ => .bad
    | _ => .bad
  | .ifs c p q, σ, S => (evT C b c σ S).st σ fun d S1 => match d with
    | true => xss p σ S1
    | false => xss q σ S1
  | .fors t it p, σ, S => (evi C b it σ S).st σ fun w S1 => forLoop (fun S => stands S w.2) (bindT t) (xss p) w.1 σ S1
  | .whiles c p, σ, S => whileLoop (evT C b c) (xss p) fuel σ S
  | .ret e, σ, S => (ev C b e σ S).st σ fun v S1 => .ret v S1
  | .retN, _, S => .ret .non S
  | .raise c es, σ, S => (evs C b es σ S).st σ fun vs S1 => .exc c vs σ S1
  | .tryo p c i h, σ, S => caught c i (xss h) (xss p σ S)
  | .pass, σ, S => .next σ S
  | .brk, σ, S => .brk σ S
  | .cont, σ, S => .cont σ S
def xss : Ss → Env → Sto → RS
  | .nil, σ, S => .next σ S
  | .cons s ss, σ, S => match xst s σ S with
    | .next σ1 S1 => xss ss σ1 S1
    | r => r
end
end
/-- a def: how many parameters, how many names, its body -/
structure FDef where
  np : Nat
  nn : Nat
  body : Ss
/-- leaving a def: what it made is gone, unless it may be told of -/
def fin (S : Sto) (v : PV) (S1 : Sto) : R PV := if v.pure && !S1.dirty then .ok v ⟨S1.cells.take S.cells.length, S.dirty⟩ else .ok v ⟨S1.cells, S.dirty || S1.dirty⟩
def runF (C : Nat → List PV → Sto → R PV) (fd : FDef) (args : List PV) (S : Sto) : R PV :=
  match xss C S.cells.length fd.body (args.map some ++ List.replicate (fd.nn - fd.np) none) ⟨S.cells, false⟩ with
  | .next _ S1 => fin S .non S1
  | .ret v S1 => fin S v S1
  | .exc c as _ S1 => if PV.pures as && !S1.dirty then .exc c as ⟨S1.cells.take S.cells.length, S.dirty⟩ else .bad
  | _ => .bad
def callN (T : List FDef) : Nat → Nat → List PV → Sto → R PV
  | 0, _, _, _ => .bad
  | d + 1, f, args, S => match T[f]? with
    | some fd => if args.length = fd.np then runF (callN T d) fd args S else .bad
    | none => .bad
end MP
end
section
set_option Elab.async false
set_option linter.all false
set_option maxRecDepth 100000
/-! MPSound1: how a value of MP stands in the model's heap; what a run of MP promises. -/
namespace MP
open PySem L2
/-- the text's classes of records: where they stand, the names of their attributes -/
class RT where
  rc : Nat → Addr
  rf : Nat → List Str
variable [RT]
/-- a list that is only read -/
def RoL (K : PySem.W.Frag) (H : Hp) (a : Addr) (vs : List V) : Prop :=
  (∃ o, H a = some (.frz o (.lst vs))) ∨ ∃ (o : Obj) (its : Array Value) (n : Nat), K.lookup a = some o ∧ o.cls = .type "list" ∧ o.dict = none ∧ o.data = .seq its n ∧ its.size ≤ sizeLine ∧ Vals vs its.toList
theorem RoL.sq {K : PySem.W.Frag} {H : Hp} {a : Addr} {vs : List V} (h : RoL K H a vs) : SqL K H a vs := by
  rcases h with h | h
  · exact .inl (.inr h)
  · exact .inr h
/-! ### values in the heap -/
mutual
inductive RelP (K : PySem.W.Frag) (ρ : List Addr) (H : Hp) : PV → V → Prop
  | non : RelP K ρ H .non .non
  | bl (b : Bool) : RelP K ρ H (.bl b) (.bl b)
  | int (i : Int) : RelP K ρ H (.int i) (.int i)
  | str (x : Str) : RelP K ρ H (.str x) (.str x)
  | tup {a : Addr} {xs : List PV} {vs : List V} : SqT K H a vs → RelPs K ρ H xs vs → RelP K ρ H (.tup xs) (.ref a)
  | lst {a : Addr} {xs : List PV} {vs : List V} : RoL K H a vs → RelPs K ρ H xs vs → RelP K ρ H (.lst xs) (.ref a)
  | obj {a dx : Addr} {o : Obj} {c : Nat} {fs : List PV} {vs : List V} : H a = some (.frz o (.ins (RT.rc c) dx ((RT.rf c).zip vs))) → RelPs K ρ H fs vs → RelP K ρ H (.obj c fs) (.ref a)
  | ref {k : Nat} {a : Addr} : ρ[k]? = some a → RelP K ρ H (.ref k) (.ref a)
inductive RelPs (K : PySem.W.Frag) (ρ : List Addr) (H : Hp) : List PV → List V → Prop
  | nil : RelPs K ρ H [] []
  | cons {x : PV} {v : V} {xs : List PV} {vs : List V} : RelP K ρ H x v → RelPs K ρ H xs vs → RelPs K ρ H (x :: xs) (v :: vs)
end
/-- what is never lost -/
structure Keep (H H' : Hp) : Prop where
  tup : ∀ a xs, H a = some (.tup xs) → H' a = some (.tup xs)
  frz : ∀ a o u, H a = some (.frz o u) → H' a = some (.frz o u)
  xd : ∀ a fs, H a = some (.xd fs) → H' a = some (.xd fs)
theorem Keep.refl (H : Hp) : Keep H H := ⟨fun _ _ h => h, fun _ _ _ h => h, fun _ _ h => h⟩
theorem Keep.trans {H H1 H2 : Hp} (a : Keep H H1) (b : Keep H1 H2) : Keep H H2 :=
  ⟨fun x y h => b.tup x y (a.tup x y h), fun x y z h => b.frz x y z (a.frz x y z h), fun x y h => b.xd x y (a.xd x y h)⟩
theorem Keep.new {H : Hp} {p : Addr} {o : HO} (h : H p = none) : Keep H (upd H p o) :=
  ⟨fun a xs e => by rw [upd_ne (ne_of_none e h)]; exact e, fun a u v e => by rw [upd_ne (ne_of_none e h)]; exact e, fun a fs e => by rw [upd_ne (ne_of_none e h)]; exact e⟩
/-- what may be written: no tuple, nothing locked, no exception's dict -/
def Wr : HO → Prop
  | .tup _ => False
  | .frz _ _ => False
  | .xd _ => False
  | _ => True
theorem Keep.wr {H : Hp} {p : Addr} {u o : HO} (h : H p = some u) (hu : Wr u) : Keep H (upd H p o) :=
  ⟨fun a xs e => by rw [upd_ne (ne_of e h (by intro z; subst z; exact hu))]; exact e, fun a u v e => by rw [upd_ne (ne_of e h (by intro z; subst z; exact hu))]; exact e, fun a fs e => by rw [upd_ne (ne_of e h (by intro z; subst z; exact hu))]; exact e⟩
theorem Keep.wlst {H : Hp} {p : Addr} {ys : List V} {o : HO} (h : H p = some (.lst ys)) : Keep H (upd H p o) := .wr h trivial
section
variable {K : PySem.W.Frag} {ρ ρ' : List Addr} {H H' : Hp}
theorem Keep.sqT (k : Keep H H') {a : Addr} {xs : List V} (h : SqT K H a xs) : SqT K H' a xs := by
  rcases h with (h | ⟨o, h⟩) | h
  · exact .inl (.inl (k.tup _ _ h))
  · exact .inl (.inr ⟨o, k.frz _ _ _ h⟩)
  · exact .inr h
theorem pre_get {ρ ρ' : List Addr} (p : ρ <+: ρ') {k : Nat} {a : Addr} (h : ρ[k]? = some a) : ρ'[k]? = some a := by
  obtain ⟨t, rfl⟩ := p
  rw [List.getElem?_append_left (List.getElem?_eq_some_iff.mp h).1]
  exact h
theorem Keep.roL (k : Keep H H') {a : Addr} {xs : List V} (h : RoL K H a xs) : RoL K H' a xs := by
  rcases h with ⟨o, h⟩ | h
  · exact .inl ⟨o, k.frz _ _ _ h⟩
  · exact .inr h
mutual
theorem RelP.mono (k : Keep H H') (p : ρ <+: ρ') : ∀ {x : PV} {v : V}, RelP K ρ H x v → RelP K ρ' H' x v
  | _, _, .non => .non
  | _, _, .bl b => .bl b
  | _, _, .int i => .int i
  | _, _, .str x => .str x
  | _, _, .tup h hs => .tup (k.sqT h) (RelPs.mono k p hs)
  | _, _, .lst h hs => .lst (k.roL h) (RelPs.mono k p hs)
  | _, _, .obj h hs => .obj (k.frz _ _ _ h) (RelPs.mono k p hs)
  | _, _, .ref h => .ref (pre_get p h)
theorem RelPs.mono (k : Keep H H') (p : ρ <+: ρ') : ∀ {xs : List PV} {vs : List V}, RelPs K ρ H xs vs → RelPs K ρ' H' xs vs
  | _, _, .nil => .nil
  | _, _, .cons h hs => .cons (RelP.mono k p h) (RelPs.mono k p hs)
end
mutual
/-- a value without numbers of the store from n on -/
theorem RelP.cut {n : Nat} (hn : ρ.take n <+: ρ') : ∀ {x : PV} {v : V}, x.und n = true → RelP K ρ H x v → RelP K ρ' H x v
  | _, _, _, .non => .non
  | _, _, _, .bl b => .bl b
  | _, _, _, .int i => .int i
  | _, _, _, .str x => .str x
  | _, _, e, .tup h hs => .tup h (RelPs.cut hn (by simpa [PV.und] using e) hs)
  | _, _, e, .lst h hs => .lst h (RelPs.cut hn (by simpa [PV.und] using e) hs)
  | _, _, e, .obj h hs => .obj h (RelPs.cut hn (by simpa [PV.und] using e) hs)
  | .ref k, _, e, .ref h => .ref (pre_get hn (by
      have e' : k < n := by simpa [PV.und] using e
      rw [List.getElem?_take_of_lt e']; exact h))
theorem RelPs.cut {n : Nat} (hn : ρ.take n <+: ρ') : ∀ {xs : List PV} {vs : List V}, PV.unds n xs = true → RelPs K ρ H xs vs → RelPs K ρ' H xs vs
  | _, _, _, .nil => .nil
  | _, _, e, .cons h hs => by
    have e' := Bool.and_eq_true_iff.mp (by simpa [PV.unds] using e)
    exact .cons (RelP.cut hn e'.1 h) (RelPs.cut hn e'.2 hs)
end
mutual
theorem PV.und_of_pure {n : Nat} : ∀ {x : PV}, x.pure = true → x.und n = true
  | .non, _ => rfl
  | .bl _, _ => rfl
  | .int _, _ => rfl
  | .str _, _ => rfl
  | .tup xs, h => by simpa [PV.und] using PV.unds_of_pures (show PV.pures xs = true by simpa [PV.pure] using h)
  | .lst xs, h => by simpa [PV.und] using PV.unds_of_pures (show PV.pures xs = true by simpa [PV.pure] using h)
  | .obj _ xs, h => by simpa [PV.und] using PV.unds_of_pures (show PV.pures xs = true by simpa [PV.pure] using h)
  | .ref _, h => by simp [PV.pure] at h
theorem PV.unds_of_pures {n : Nat} : ∀ {xs : List PV}, PV.pures xs = true → PV.unds n xs = true
  | [], _ => rfl
  | x :: xs, h => by
    have h' := Bool.and_eq_true_iff.mp (by simpa [PV.pures] using h)
    simp [PV.unds, PV.und_of_pure h'.1, PV.unds_of_pures h'.2]
end
mutual
theorem PV.und_mono {n m : Nat} (h : n ≤ m) : ∀ {x : PV}, x.und n = true → x.und m = true
  | .non, _ => rfl
  | .bl _, _ => rfl
  | .int _, _ => rfl
  | .str _, _ => rfl
  | .tup xs, e => by simpa [PV.und] using PV.unds_mono h (show PV.unds n xs = true by simpa [PV.und] using e)
  | .lst xs, e => by simpa [PV.und] using PV.unds_mono h (show PV.unds n xs = true by simpa [PV.und] using e)
  | .obj _ xs, e => by simpa [PV.und] using PV.unds_mono h (show PV.unds n xs = true by simpa [PV.und] using e)
  | .ref k, e => by
    have e' : k < n := by simpa [PV.und] using e
    simp [PV.und]; omega
theorem PV.unds_mono {n m : Nat} (h : n ≤ m) : ∀ {xs : List PV}, PV.unds n xs = true → PV.unds m xs = true
  | [], _ => rfl
  | x :: xs, e => by
    have e' := Bool.and_eq_true_iff.mp (by simpa [PV.unds] using e)
    simp [PV.unds, PV.und_mono h e'.1, PV.unds_mono h e'.2]
end
mutual
theorem RelP.und : ∀ {x : PV} {v : V}, RelP K ρ H x v → x.und ρ.length = true
  | _, _, .non => rfl
  | _, _, .bl _ => rfl
  | _, _, .int _ => rfl
  | _, _, .str _ => rfl
  | _, _, .tup _ hs => by simpa [PV.und] using RelPs.und hs
  | _, _, .lst _ hs => by simpa [PV.und] using RelPs.und hs
  | _, _, .obj _ hs => by simpa [PV.und] using RelPs.und hs
  | _, _, .ref h => by simpa [PV.und] using (List.getElem?_eq_some_iff.mp h).1
theorem RelPs.und : ∀ {xs : List PV} {vs : List V}, RelPs K ρ H xs vs → PV.unds ρ.length xs = true
  | _, _, .nil => rfl
  | _, _, .cons h hs => by simp [PV.unds, RelP.und h, RelPs.und hs]
end
theorem RelP.pure_any {x : PV} {v : V} (h : x.pure = true) (r : RelP K ρ H x v) : RelP K ρ' H x v :=
  RelP.cut (n := 0) (by simp) (PV.und_of_pure h) r
theorem RelPs.pure_any {x : List PV} {v : List V} (h : PV.pures x = true) (r : RelPs K ρ H x v) : RelPs K ρ' H x v :=
  RelPs.cut (n := 0) (by simp) (PV.unds_of_pures h) r
theorem RelPs.length : ∀ {xs : List PV} {vs : List V}, RelPs K ρ H xs vs → xs.length = vs.length
  | _, _, .nil => rfl
  | _, _, .cons _ t => congrArg (· + 1) (RelPs.length t)
theorem RelPs.get : ∀ {xs : List PV} {vs : List V} {i : Nat} {x : PV}, RelPs K ρ H xs vs → xs[i]? = some x → ∃ v, vs[i]? = some v ∧ RelP K ρ H x v
  | _, _, _, _, .nil, e => by simp at e
  | _, _, 0, _, .cons r _, e => by simp at e; subst e; exact ⟨_, rfl, r⟩
  | _, _, i + 1, x, .cons _ t, e => by
    obtain ⟨v, h1, h2⟩ := RelPs.get (i := i) (x := x) t (by simpa using e)
    exact ⟨v, by simpa using h1, h2⟩
theorem RelPs.set {x : PV} {v : V} (r : RelP K ρ H x v) : ∀ {xs : List PV} {vs : List V} (i : Nat), RelPs K ρ H xs vs → RelPs K ρ H (xs.set i x) (vs.set i v)
  | _, _, _, .nil => .nil
  | _, _, 0, .cons _ t => .cons r t
  | _, _, i + 1, .cons q t => .cons q (RelPs.set r i t)
theorem RelPs.app : ∀ {xs ys : List PV} {vs ws : List V}, RelPs K ρ H xs vs → RelPs K ρ H ys ws → RelPs K ρ H (xs ++ ys) (vs ++ ws)
  | _, _, _, _, .nil, s => s
  | _, _, _, _, .cons r t, s => .cons r (RelPs.app t s)
theorem RelPs.take : ∀ {xs : List PV} {vs : List V} (n : Nat), RelPs K ρ H xs vs → RelPs K ρ H (xs.take n) (vs.take n)
  | _, _, 0, _ => .nil
  | _, _, _ + 1, .nil => .nil
  | _, _, n + 1, .cons r t => .cons r (RelPs.take n t)
theorem RelPs.drop : ∀ {xs : List PV} {vs : List V} (n : Nat), RelPs K ρ H xs vs → RelPs K ρ H (xs.drop n) (vs.drop n)
  | _, _, 0, r => r
  | _, _, _ + 1, .nil => .nil
  | _, _, n + 1, .cons _ t => RelPs.drop n t
theorem RelPs.one {x : PV} {vs : List V} (h : RelPs K ρ H [x] vs) : ∃ v, vs = [v] ∧ RelP K ρ H x v := by
  cases h with
  | cons r t => cases t; exact ⟨_, rfl, r⟩
theorem RelPs.two {x y : PV} {vs : List V} (h : RelPs K ρ H [x, y] vs) : ∃ v w, vs = [v, w] ∧ RelP K ρ H x v ∧ RelP K ρ H y w := by
  cases h with
  | cons r t => obtain ⟨w, rfl, q⟩ := t.one; exact ⟨_, _, rfl, r, q⟩
theorem RelP.of_int {i : Int} {v : V} (h : RelP K ρ H (.int i) v) : v = .int i := by cases h; rfl
theorem RelP.of_bl {i : Bool} {v : V} (h : RelP K ρ H (.bl i) v) : v = .bl i := by cases h; rfl
theorem RelP.of_str {i : Str} {v : V} (h : RelP K ρ H (.str i) v) : v = .str i := by cases h; rfl
theorem RelP.of_non {v : V} (h : RelP K ρ H .non v) : v = .non := by cases h; rfl
theorem RelP.of_tup {xs : List PV} {v : V} (h : RelP K ρ H (.tup xs) v) : ∃ a vs, v = .ref a ∧ SqT K H a vs ∧ RelPs K ρ H xs vs := by cases h; exact ⟨_, _, rfl, by assumption, by assumption⟩
theorem RelP.of_lst {xs : List PV} {v : V} (h : RelP K ρ H (.lst xs) v) : ∃ a vs, v = .ref a ∧ RoL K H a vs ∧ RelPs K ρ H xs vs := by cases h; exact ⟨_, _, rfl, by assumption, by assumption⟩
theorem RelP.of_obj {c : Nat} {fs : List PV} {v : V} (h : RelP K ρ H (.obj c fs) v) : ∃ a dx o vs, v = .ref a ∧ H a = some (.frz o (.ins (RT.rc c) dx ((RT.rf c).zip vs))) ∧ RelPs K ρ H fs vs := by cases h; exact ⟨_, _, _, _, rfl, by assumption, by assumption⟩
theorem RelP.of_ref {k : Nat} {v : V} (h : RelP K ρ H (.ref k) v) : ∃ a, v = .ref a ∧ ρ[k]? = some a := by cases h; exact ⟨_, rfl, by assumption⟩
theorem RelP.is_non {x : PV} {v : V} (h : RelP K ρ H x v) : decide (v = .non) = decide (x = .non) := by
  cases h <;> simp
end
/-! ### the store in the heap -/
/-- one entry of a dict whose keys are rows of ints -/
def entI (x : List Int × Addr × Value) : DictEntry := ⟨PySem.reduceHash (PySem.Builtin.Tuple.tupleHashOf (x.1.map hashInt)), .ref x.2.1, x.2.2⟩
theorem entI_eq (P : Program) (w : World) : entryOfKey (tupleKind (intKind P w)) = entI := rfl
/-- a dict whose keys are rows of ints, as its object is -/
def dTO (a : Addr) (xs : List (List Int × Addr × Value)) : HO := .ext fun h => ∃ o es ep, h.get? a = some o ∧ o.ExactDict ∧ o.data = .dict es ep ∧ es.toList = xs.map entI ∧ (xs.map (·.1)).Nodup
/-- the entries' values -/
structure DtOk (K : PySem.W.Frag) (ρ : List Addr) (H : Hp) (kvs : List (List Int × PV)) (xs : List (List Int × Addr × Value)) : Prop where
  rel : Paired (fun (p : List Int × PV) (q : List Int × Addr × Value) => p.1 = q.1 ∧ SqT K H q.2.1 (p.1.map V.int) ∧ ∃ v, RelP K ρ H p.2 v ∧ RelV v q.2.2) kvs xs
def CellOk (K : PySem.W.Frag) (ρ : List Addr) (H : Hp) (a : Addr) : Cell → Prop
  | .lst xs => ∃ vs, RelPs K ρ H xs vs ∧ H a = some (.lst vs)
  | .ro xs => ∃ vs, RelPs K ρ H xs vs ∧ ∃ o, H a = some (.frz o (.lst vs))
  | .dT kvs => ∃ xs, DtOk K ρ H kvs xs ∧ xs.length ≤ sizeLine ∧ (a == sysModules) = false ∧ H a = some (dTO a xs)
  | .dK kvs => ∃ ws : List (Key × V), Paired (fun p q => p.1 = q.1 ∧ RelP K ρ H p.2 q.2) kvs ws ∧ H a = some (.dK ws)
  | .ins c fs => ∃ dx vs, RelPs K ρ H fs vs ∧ fs.length ≤ (RT.rf c).length ∧ H a = some (.ins (RT.rc c) dx ((RT.rf c).zip vs))
def Cell.isRo : Cell → Bool
  | .ro _ => true
  | _ => false
structure StOk (K : PySem.W.Frag) (b : Nat) (ρ : List Addr) (S : Sto) (H : Hp) : Prop where
  len : ρ.length = S.cells.length
  cell : ∀ (k : Nat) (c : Cell) (a : Addr), S.cells[k]? = some c → ρ[k]? = some a → CellOk K ρ H a c
  inj : ∀ (j k : Nat) (a : Addr) (c d : Cell), ρ[j]? = some a → ρ[k]? = some a → S.cells[j]? = some c → S.cells[k]? = some d → c.isRo = false → d.isRo = false → j = k
  base : b ≤ S.cells.length
def okU (n : Nat) (cells : List Cell) : Prop := ∀ (k : Nat) (c : Cell), k < n → cells[k]? = some c → c.und n = true
structure Grow (b : Nat) (ρ ρ' : List Addr) (S S' : Sto) (H H' : Hp) : Prop where
  keep : Keep H H'
  pre : ρ <+: ρ'
  len : S.cells.length ≤ S'.cells.length
  frame : ∀ a o, H a = some o → a ∉ ρ → H' a = some o ∧ a ∉ ρ'
  und : S'.dirty = false → S.dirty = false ∧ ∀ n, n ≤ b → okU n S.cells → okU n S'.cells
section
variable {K : PySem.W.Frag} {b : Nat} {ρ ρ' ρ1 : List Addr} {S S' S1 : Sto} {H H' H1 : Hp}
theorem Grow.refl : Grow b ρ ρ S S H H := ⟨.refl _, List.prefix_refl _, Nat.le_refl _, fun _ _ e n => ⟨e, n⟩, fun h => ⟨h, fun _ _ h => h⟩⟩
theorem Grow.trans (x : Grow b ρ ρ1 S S1 H H1) (y : Grow b ρ1 ρ' S1 S' H1 H') : Grow b ρ ρ' S S' H H' :=
  ⟨x.keep.trans y.keep, x.pre.trans y.pre, Nat.le_trans x.len y.len, fun a o e n => let ⟨e1, n1⟩ := x.frame a o e n; y.frame a o e1 n1, fun h => by
    obtain ⟨h1, h2⟩ := y.und h
    obtain ⟨h3, h4⟩ := x.und h1
    exact ⟨h3, fun n hn u => h2 n hn (h4 n hn u)⟩⟩
theorem Grow.less {c : Nat} (x : Grow c ρ ρ' S S' H H') (h : b ≤ c) : Grow b ρ ρ' S S' H H' :=
  ⟨x.keep, x.pre, x.len, x.frame, fun e => ⟨(x.und e).1, fun n hn => (x.und e).2 n (Nat.le_trans hn h)⟩⟩
theorem StOk.lt (so : StOk K b ρ S H) {k : Nat} {c : Cell} (h : S.cells[k]? = some c) : ∃ a, ρ[k]? = some a := by
  have h1 := (List.getElem?_eq_some_iff.mp h).1
  rw [← so.len] at h1
  exact ⟨ρ[k], by simp [h1]⟩
theorem StOk.sql (so : StOk K b ρ S H) {k : Nat} {xs : List PV} (h : S.lst? k = some xs) {a : Addr} (e : ρ[k]? = some a) : ∃ vs, RelPs K ρ H xs vs ∧ SqL K H a vs := by
  unfold Sto.lst? at h
  cases q : S.cells[k]? with
  | none => rw [q] at h; cases h
  | some c =>
    rw [q] at h
    have co := so.cell k c a q e
    cases c with
    | lst ys => cases h; obtain ⟨vs, r, z⟩ := co; exact ⟨vs, r, SqL.of z⟩
    | ro ys => cases h; obtain ⟨vs, r, z⟩ := co; exact ⟨vs, r, .inl (.inr z)⟩
    | _ => cases h
theorem StOk.lst (so : StOk K b ρ S H) {k : Nat} {xs : List PV} (h : S.cells[k]? = some (.lst xs)) {a : Addr} (e : ρ[k]? = some a) : ∃ vs, RelPs K ρ H xs vs ∧ H a = some (.lst vs) := so.cell k _ a h e
theorem DtOk.keep {kvs : List (List Int × PV)} {xs : List (List Int × Addr × Value)} (d : DtOk K ρ H kvs xs) (k : Keep H H') (p : ρ <+: ρ') : DtOk K ρ' H' kvs xs :=
  ⟨Paired.mapP d.rel fun _ _ z => ⟨z.1, k.sqT z.2.1, let ⟨v, r, q⟩ := z.2.2; ⟨v, r.mono k p, q⟩⟩⟩
theorem CellOk.keep {a : Addr} {c : Cell} (co : CellOk K ρ H a c) (k : Keep H H') (p : ρ <+: ρ') (h : c.isRo = false → ∀ o, Wr o → H a = some o → H' a = some o) : CellOk K ρ' H' a c := by
  cases c with
  | lst xs => obtain ⟨vs, r, z⟩ := co; exact ⟨vs, r.mono k p, h rfl _ trivial z⟩
  | ro xs => obtain ⟨vs, r, o, z⟩ := co; exact ⟨vs, r.mono k p, o, k.frz _ _ _ z⟩
  | dT kvs => obtain ⟨xs, r, z1, z2, z⟩ := co; exact ⟨xs, r.keep k p, z1, z2, h rfl _ trivial z⟩
  | dK kvs => obtain ⟨ws, r, z⟩ := co; exact ⟨ws, Paired.mapP r fun _ _ z => ⟨z.1, z.2.mono k p⟩, h rfl _ trivial z⟩
  | ins c fs => obtain ⟨dx, vs, r, l, z⟩ := co; exact ⟨dx, vs, r.mono k p, l, h rfl _ trivial z⟩
/-- a cell that may change stands at a thing that may be written -/
theorem CellOk.wr {a : Addr} {c : Cell} (co : CellOk K ρ H a c) (h : c.isRo = false) : ∃ o, H a = some o ∧ Wr o := by
  cases c with
  | lst xs => obtain ⟨vs, r, z⟩ := co; exact ⟨_, z, trivial⟩
  | ro xs => cases h
  | dT kvs => obtain ⟨xs, r, z1, z2, z⟩ := co; exact ⟨_, z, trivial⟩
  | dK kvs => obtain ⟨ws, r, z⟩ := co; exact ⟨_, z, trivial⟩
  | ins c fs => obtain ⟨dx, vs, r, l, z⟩ := co; exact ⟨_, z, trivial⟩
/-- every cell stands at something -/
theorem CellOk.some {a : Addr} {c : Cell} (co : CellOk K ρ H a c) : H a ≠ none := by
  cases c with
  | lst xs => obtain ⟨vs, r, z⟩ := co; rw [z]; simp
  | ro xs => obtain ⟨vs, r, o, z⟩ := co; rw [z]; simp
  | dT kvs => obtain ⟨xs, r, z1, z2, z⟩ := co; rw [z]; simp
  | dK kvs => obtain ⟨ws, r, z⟩ := co; rw [z]; simp
  | ins c fs => obtain ⟨dx, vs, r, l, z⟩ := co; rw [z]; simp
theorem StOk.nin (so : StOk K b ρ S H) {a : Addr} (h : H a = none) : a ∉ ρ := fun m => by
  obtain ⟨k, hk⟩ := List.mem_iff_getElem?.mp m
  have hkl := (List.getElem?_eq_some_iff.mp hk).1
  have hkc : k < S.cells.length := by rw [← so.len]; exact hkl
  exact (so.cell k (S.cells[k]) a (by simp [hkc]) hk).some h
/-- a new object that no number tells of -/
theorem StOk.alloc (so : StOk K b ρ S H) {p : Addr} {o : HO} (h : H p = none) : StOk K b ρ S (upd H p o) :=
  ⟨so.len, fun k c a q e => (so.cell k c a q e).keep (.new h) (List.prefix_refl _) fun _ vs _ z => by rw [upd_ne (ne_of_none z h)]; exact z, so.inj, so.base⟩
theorem Grow.alloc {p : Addr} {o : HO} (h : H p = none) : Grow b ρ ρ S S H (upd H p o) := ⟨.new h, List.prefix_refl _, Nat.le_refl _, fun a u e n => ⟨by rw [upd_ne (ne_of_none e h)]; exact e, n⟩, fun h => ⟨h, fun _ _ h => h⟩⟩
theorem get_snoc {α : Type} {xs : List α} {x y : α} {k : Nat} (h : (xs ++ [x])[k]? = some y) : xs[k]? = some y ∨ (k = xs.length ∧ y = x) := by
  by_cases hk : k < xs.length
  · rw [List.getElem?_append_left hk] at h; exact .inl h
  · rw [List.getElem?_append_right (by omega)] at h
    have h2 := (List.getElem?_eq_some_iff.mp h).1
    have h3 : k - xs.length = 0 := by simp at h2; omega
    rw [h3] at h
    exact .inr ⟨by omega, by simpa using h.symm⟩
/-- a new cell -/
theorem StOk.pushC (so : StOk K b ρ S H) {p : Addr} {c : Cell} {o : HO} (h : H p = none) (hc : CellOk K (ρ ++ [p]) (upd H p o) p c) : StOk K b (ρ ++ [p]) (S.push c) (upd H p o) := by
  have kp : Keep H (upd H p o) := .new h
  have pp : ρ <+: ρ ++ [p] := List.prefix_append _ _
  have old : ∀ (j : Nat) (a : Addr) (c : Cell), ρ[j]? = some a → S.cells[j]? = some c → c.isRo = false → a ≠ p := fun j a c e q hc z => by
    obtain ⟨u, w, _⟩ := (so.cell j c a q e).wr hc
    rw [z, h] at w; cases w
  have L := so.len
  have gc : ∀ {k : Nat} {d : Cell}, (S.push c).cells[k]? = some d → (k < S.cells.length ∧ S.cells[k]? = some d) ∨ (k = S.cells.length ∧ d = c) := fun {k d} q => by
    rcases get_snoc (show (S.cells ++ [c])[k]? = some d from q) with q | q
    · exact .inl ⟨(List.getElem?_eq_some_iff.mp q).1, q⟩
    · exact .inr q
  have ga : ∀ {k : Nat} {a : Addr}, (ρ ++ [p])[k]? = some a → (k < S.cells.length ∧ ρ[k]? = some a) ∨ (k = S.cells.length ∧ a = p) := fun {k a} e => by
    rcases get_snoc e with e | ⟨e, f⟩
    · have := (List.getElem?_eq_some_iff.mp e).1
      exact .inl ⟨by omega, e⟩
    · exact .inr ⟨by omega, f⟩
  refine ⟨by simp [Sto.push, so.len], fun k d a q e => ?_, fun j k a d d' e1 e2 q1 q2 n1 n2 => ?_, by have := so.base; simp [Sto.push]; omega⟩
  · rcases gc q with ⟨l1, q⟩ | ⟨l1, hd⟩ <;> rcases ga e with ⟨l2, e⟩ | ⟨l2, ha⟩
    · refine (so.cell k d a q e).keep kp pp fun _ u _ z => ?_
      rw [upd_ne (ne_of_none z h)]; exact z
    · omega
    · omega
    · rw [hd, ha]; exact hc
  · rcases gc q1 with ⟨l1, q1⟩ | ⟨l1, hd1⟩ <;> rcases gc q2 with ⟨l2, q2⟩ | ⟨l2, hd2⟩
    · rcases ga e1 with ⟨m1, e1⟩ | ⟨m1, _⟩
      · rcases ga e2 with ⟨m2, e2⟩ | ⟨m2, _⟩
        · exact so.inj j k a d d' e1 e2 q1 q2 n1 n2
        · omega
      · omega
    · rcases ga e1 with ⟨m1, f1⟩ | ⟨m1, _⟩
      · rcases ga e2 with ⟨m2, _⟩ | ⟨_, f2⟩
        · omega
        · exact absurd f2 (old j a d f1 q1 n1)
      · omega
    · rcases ga e2 with ⟨m2, f2⟩ | ⟨m2, _⟩
      · rcases ga e1 with ⟨m1, _⟩ | ⟨_, f1⟩
        · omega
        · exact absurd f1 (old k a d' f2 q2 n2)
      · omega
    · omega
/-- a new list -/
theorem StOk.push (so : StOk K b ρ S H) {p : Addr} {xs : List PV} {vs : List V} (h : H p = none) (r : RelPs K ρ H xs vs) : StOk K b (ρ ++ [p]) (S.push (.lst xs)) (upd H p (.lst vs)) :=
  so.pushC h ⟨vs, r.mono (.new h) (List.prefix_append _ _), upd_same⟩
theorem Grow.push {p : Addr} {c : Cell} {o : HO} (hb : b ≤ S.cells.length) (h : H p = none) : Grow b ρ (ρ ++ [p]) S (S.push c) H (upd H p o) :=
  ⟨.new h, List.prefix_append _ _, by simp [Sto.push], fun a u e n => ⟨by rw [upd_ne (ne_of_none e h)]; exact e, fun m => (List.mem_append.mp m).elim n fun z => ne_of_none e h (List.mem_singleton.mp z)⟩, fun e => ⟨e, fun n hn u k d hk q => by
    rw [show (S.push c).cells = S.cells ++ [c] from rfl, List.getElem?_append_left (by omega)] at q
    exact u k d hk q⟩⟩
/-- a cell is written -/
theorem StOk.writeC (so : StOk K b ρ S H) {k : Nat} {a : Addr} {c d : Cell} {o : HO} {p : Bool} (hk : S.cells[k]? = some c) (nc : c.isRo = false) (e : ρ[k]? = some a) (kp : Keep H (upd H a o)) (hd : CellOk K ρ (upd H a o) a d) : StOk K b ρ (S.wr b k d p) (upd H a o) := by
  have hkl := (List.getElem?_eq_some_iff.mp hk).1
  have get : ∀ {j : Nat} {c : Cell}, (S.cells.set k d)[j]? = some c → (j = k ∧ c = d) ∨ (j ≠ k ∧ S.cells[j]? = some c) := fun {j c} q => by
    by_cases hj : k = j
    · subst hj
      rw [List.getElem?_set_self hkl] at q
      cases q; exact .inl ⟨rfl, rfl⟩
    · rw [List.getElem?_set_ne hj] at q
      exact .inr ⟨fun z => hj z.symm, q⟩
  have get' : ∀ {j : Nat} {c : Cell}, (S.cells.set k d)[j]? = some c → c.isRo = false → ∃ c', S.cells[j]? = some c' ∧ c'.isRo = false := fun {j c} q hc => by
    rcases get q with ⟨rfl, rfl⟩ | ⟨_, q⟩
    · exact ⟨_, hk, nc⟩
    · exact ⟨_, q, hc⟩
  refine ⟨by simp [Sto.wr, so.len], fun j c a' q e' => ?_, fun j i a' c d e1 e2 q1 q2 n1 n2 => ?_, by have := so.base; simp [Sto.wr]; omega⟩
  · rcases get (show (S.cells.set k d)[j]? = some c from q) with ⟨rfl, rfl⟩ | ⟨hj, q⟩
    · rw [e] at e'; cases e'
      exact hd
    · refine (so.cell j c a' q e').keep kp (List.prefix_refl _) fun nr u _ z => ?_
      rw [upd_ne fun (z' : a' = a) => hj (so.inj j k a c _ (by rw [← z']; exact e') e q hk nr nc)]
      exact z
  · obtain ⟨c', q1', n1'⟩ := get' (show (S.cells.set k _)[j]? = some c from q1) n1
    obtain ⟨d', q2', n2'⟩ := get' (show (S.cells.set k _)[i]? = some d from q2) n2
    exact so.inj j i a' c' d' e1 e2 q1' q2' n1' n2'
/-- a list is written -/
theorem StOk.write (so : StOk K b ρ S H) {k : Nat} {a : Addr} {ys xs : List PV} {vs : List V} {p : Bool} (hk : S.cells[k]? = some (.lst ys)) (e : ρ[k]? = some a) (r : RelPs K ρ H xs vs) : StOk K b ρ (S.wr b k (.lst xs) p) (upd H a (.lst vs)) := by
  obtain ⟨ws, _, hw⟩ := so.lst hk e
  exact so.writeC hk rfl e (.wlst hw) ⟨vs, r.mono (.wlst hw) (List.prefix_refl _), upd_same⟩
end
end MP
end
section
set_option Elab.async false
set_option linter.all false
set_option maxRecDepth 100000
/-! MPSound2: what a run promises; how promises are joined. -/
namespace MP
open PySem L2
variable [RT]
/-- a cell is written -/
theorem Grow.writeC {b : Nat} {ρ : List Addr} {S : Sto} {H : Hp} {k : Nat} {a : Addr} {c d : Cell} {o : HO} {v : PV} (hk : S.cells[k]? = some c) (ha : ρ[k]? = some a) (kp : Keep H (upd H a o))
    (hu : ∀ n, c.und n = true → v.und n = true → d.und n = true) : Grow b ρ ρ S (S.wr b k d v.pure) H (upd H a o) := by
  have hkl := (List.getElem?_eq_some_iff.mp hk).1
  refine ⟨kp, List.prefix_refl _, by simp [Sto.wr], fun q u e n => ⟨by rw [upd_ne fun z => n (by rw [z]; exact List.mem_of_getElem? ha)]; exact e, n⟩, fun e => ?_⟩
  have e' : S.dirty = false ∧ (decide (k < b) && !v.pure) = false := by simpa [Sto.wr] using e
  refine ⟨e'.1, fun n hn u j c' hj q => ?_⟩
  by_cases hjk : k = j
  · subst hjk
    rw [show (S.wr b k d v.pure).cells = S.cells.set k d from rfl, List.getElem?_set_self hkl] at q
    cases q
    have hkb : decide (k < b) = true := by simp; omega
    have pv : v.pure = true := by
      have := e'.2
      rw [hkb] at this
      simpa using this
    exact hu n (u k _ hj hk) (PV.und_of_pure pv)
  · rw [show (S.wr b k d v.pure).cells = S.cells.set k d from rfl, List.getElem?_set_ne hjk] at q
    exact u j c' hj q
theorem Grow.write {b : Nat} {ρ : List Addr} {S : Sto} {H : Hp} {k : Nat} {a : Addr} {ys xs : List PV} {vs ws : List V} {v : PV} (hk : S.cells[k]? = some (.lst ys)) (ha : ρ[k]? = some a) (hw : H a = some (.lst ws))
    (hu : ∀ n, PV.unds n ys = true → v.und n = true → PV.unds n xs = true) : Grow b ρ ρ S (S.wr b k (.lst xs) v.pure) H (upd H a (.lst vs)) :=
  .writeC hk ha (.wlst hw) fun n h1 h2 => by simpa [Cell.und] using hu n (by simpa [Cell.und] using h1) h2
/-! ### things that are locked -/
/-- what is wanted, or it is wanted once a thing is locked -/
def lk (Q : VK) : VK := fun v H => Q v H ∨ ∃ p u, H p = some u ∧ Mut (some u) ∧ ∀ o, Q v (upd H p (.frz o u))
theorem EP.unlk {X : Cx} {pins : List (Addr × Obj)} {σ : L2.St} {Q : VK} {u : Value} {s : Shared} (h : EP X pins σ (lk Q) u s) : EP X pins σ Q u s := by
  obtain ⟨v, H, I, r, q⟩ := h
  rcases q with q | ⟨p, w, e, mu, q⟩
  · exact ⟨v, H, I, r, q⟩
  · obtain ⟨o, J⟩ := I.lock e mu
    exact ⟨v, _, J, r, q o⟩
theorem PE.lock {X : Cx} {e : Expr} {t : TE} (h : PE X e t) : PE X e (fun σ H Q => t σ H (lk Q)) :=
  ⟨fun pins s σ H Q I q => thn (h.run pins s σ H _ I q) fun _ _ z => EP.unlk z⟩
/-- a list that is new and locked -/
theorem lock_new {b : Nat} {ρ : List Addr} {S : Sto} {H : Hp} {K : PySem.W.Frag} {Q : VK} {p : Addr} {xs : List PV} {vs : List V} (so : StOk K b ρ S H) (hp : H p = none) (r : RelPs K ρ H xs vs)
    (h : ∀ H' w, Grow b ρ ρ S S H H' → StOk K b ρ S H' → RelP K ρ H' (.lst xs) w → Q w H') : lk Q (.ref p) (upd H p (.lst vs)) := by
  refine .inr ⟨p, .lst vs, upd_same, trivial, fun o => ?_⟩
  rw [upd_upd]
  exact h _ _ (.alloc hp) (so.alloc hp) (.lst (.inl ⟨o, upd_same⟩) (r.mono (.new hp) (List.prefix_refl _)))
/-! ### exceptions -/
/-- the text's exception classes: where they stand, the names of their attributes -/
structure Exc where
  n : Nat
  at_ : Nat → Addr
  attrs : Nat → List Str
def ExcOk (K : PySem.W.Frag) (T : Exc) (ρ : List Addr) (H : Hp) (c : Nat) (as : List PV) (cls : Value) (d : Option Addr) : Prop :=
  c < T.n ∧ cls = .ref (T.at_ c) ∧ as.length = (T.attrs c).length ∧ ((T.attrs c = [] ∧ d = none) ∨ T.attrs c ≠ [] ∧ ∃ dd fs ws, d = some dd ∧ H dd = some (.xd fs) ∧ (∀ f, fs.lookup f = ((T.attrs c).zip ws).lookup f) ∧ RelPs K ρ H as ws)
theorem ExcOk.mono {K : PySem.W.Frag} {T : Exc} {ρ ρ' : List Addr} {H H' : Hp} {c : Nat} {as : List PV} {cls : Value} {d : Option Addr} (k : Keep H H') (p : ρ <+: ρ') (x : ExcOk K T ρ H c as cls d) : ExcOk K T ρ' H' c as cls d := by
  obtain ⟨h0, h1, h2, h3⟩ := x
  refine ⟨h0, h1, h2, h3.imp id fun ⟨n, dd, fs, ws, e, z, l, r⟩ => ⟨n, dd, fs, ws, e, k.xd _ _ z, l, r.mono k p⟩⟩
/-! ### the slots -/
/-- the exception that a suite holds: its slot, its address, its class's number, its class and dict -/
structure Held where
  i : Nat
  a : Addr
  c : Nat
  cls : Value
  d : Option Addr
structure EnvOk (K : PySem.W.Frag) (T : Exc) (ex : Option Held) (ρ : List Addr) (H : Hp) (σ : Env) (τ : L2.St) : Prop where
  len : σ.length = τ.length
  val : ∀ (i : Nat) (v : PV), σ[i]? = some (some v) → (∀ x, ex = some x → x.i ≠ i) → ∃ w, τ[i]? = some (some w) ∧ RelP K ρ H v w
  held : ∀ x, ex = some x → ∃ as, σ[x.i]? = some (some (.tup (.int x.c :: as))) ∧ τ[x.i]? = some (some (.ref x.a)) ∧ ExcOk K T ρ H x.c as x.cls x.d
theorem EnvOk.mono {K : PySem.W.Frag} {T : Exc} {ex : Option Held} {ρ ρ' : List Addr} {H H' : Hp} {σ : Env} {τ : L2.St} (e : EnvOk K T ex ρ H σ τ) (k : Keep H H') (p : ρ <+: ρ') : EnvOk K T ex ρ' H' σ τ :=
  ⟨e.len, fun i v h n => let ⟨w, h1, h2⟩ := e.val i v h n; ⟨w, h1, h2.mono k p⟩, fun x hx => let ⟨as, h1, h2, h3⟩ := e.held x hx; ⟨as, h1, h2, h3.mono k p⟩⟩
theorem EnvOk.grow {K : PySem.W.Frag} {T : Exc} {ex : Option Held} {b : Nat} {ρ ρ' : List Addr} {S S' : Sto} {H H' : Hp} {σ : Env} {τ : L2.St} (e : EnvOk K T ex ρ H σ τ) (g : Grow b ρ ρ' S S' H H') : EnvOk K T ex ρ' H' σ τ := e.mono g.keep g.pre
theorem EnvOk.setH {K : PySem.W.Frag} {T : Exc} {ex : Option Held} {ρ : List Addr} {H : Hp} {σ : Env} {τ : L2.St} {v : PV} {w : V} (e : EnvOk K T ex ρ H σ τ) (i : Nat) (r : RelP K ρ H v w) (hi : ∀ x, ex = some x → x.i ≠ i) : EnvOk K T ex ρ H (σ.set i (some v)) (τ.set i (some w)) := by
  refine ⟨by simp [e.len], fun j u h n => ?_, fun x hx => by
    have ne := hi x hx
    obtain ⟨as, h1, h2, h3⟩ := e.held x hx
    exact ⟨as, by rw [List.getElem?_set_ne (Ne.symm ne)]; exact h1, by rw [List.getElem?_set_ne (Ne.symm ne)]; exact h2, h3⟩⟩
  by_cases hj : i = j
  · subst hj
    by_cases hi : i < σ.length
    · rw [List.getElem?_set_self hi] at h
      cases h
      exact ⟨w, by rw [List.getElem?_set_self (by rw [← e.len]; exact hi)], r⟩
    · rw [List.getElem?_eq_none (by simpa using hi)] at h; cases h
  · rw [List.getElem?_set_ne hj] at h
    rw [List.getElem?_set_ne hj]
    exact e.val j u h n
theorem EnvOk.set {K : PySem.W.Frag} {T : Exc} {ρ : List Addr} {H : Hp} {σ : Env} {τ : L2.St} {v : PV} {w : V} (e : EnvOk K T none ρ H σ τ) (i : Nat) (r : RelP K ρ H v w) : EnvOk K T none ρ H (σ.set i (some v)) (τ.set i (some w)) := e.setH i r fun x hx => by cases hx
theorem EnvOk.unset {K : PySem.W.Frag} {T : Exc} {ρ : List Addr} {H : Hp} {σ : Env} {τ : L2.St} (e : EnvOk K T none ρ H σ τ) (i : Nat) : EnvOk K T none ρ H (σ.set i none) (τ.set i none) := by
  refine ⟨by simp [e.len], fun j u h n => ?_, fun x hx => by cases hx⟩
  by_cases hj : i = j
  · subst hj
    by_cases hi : i < σ.length
    · rw [List.getElem?_set_self hi] at h; cases h
    · rw [List.getElem?_eq_none (by simpa using hi)] at h; cases h
  · rw [List.getElem?_set_ne hj] at h
    rw [List.getElem?_set_ne hj]
    exact e.val j u h n
theorem EnvOk.wipe {K : PySem.W.Frag} {T : Exc} {ρ : List Addr} {H : Hp} {σ : Env} {τ : L2.St} (e : EnvOk K T none ρ H σ τ) : ∀ own : List Nat, EnvOk K T none ρ H (MP.wipe σ own) (L2.wipe τ own)
  | [] => e
  | v :: vs => (EnvOk.wipe e vs).unset v
/-! ### promises of runs -/
section
variable (K : PySem.W.Frag) (T : Exc) (b : Nat)
/-- rel: how a result lies -/
def At {α β : Type} (E : XK) (rel : List Addr → Hp → α → β → Prop) (ρ : List Addr) (S : Sto) (H : Hp) (res : R α) (Q : β → Hp → Prop) : Prop := match res with
  | .ok v S' => ∀ ρ' H' w, Grow b ρ ρ' S S' H H' → StOk K b ρ' S' H' → rel ρ' H' v w → Q w H'
  | .exc c as S' => ∀ ρ' H' cls d, Grow b ρ ρ' S S' H H' → StOk K b ρ' S' H' → ExcOk K T ρ' H' c as cls d → E cls d H'
  | .bad => False
def tG {α β : Type} (ex : Option Held) (W : WX) (rel : List Addr → Hp → α → β → Prop) (r : Env → Sto → R α) : L2.St → Hp → (β → Hp → Prop) → Prop := fun τ H Q =>
  ∃ ρ σ S, StOk K b ρ S H ∧ EnvOk K T ex ρ H σ τ ∧ At K T b (fun cls d H' => W cls d τ H') rel ρ S H (r σ S) Q
/-- how a walk lies: the items as the iterator gives them -/
structure WalkOk (ρ : List Addr) (H : Hp) (w : Walk) (J : L2.It) : Prop where
  ex : ∃ (n : Nat) (G : Hp → Prop) (Y : Nat → Hp → V → Hp → Prop), L2.Walk J n G Y ∧ w.1.length = n ∧
    (∀ ρ' S' H', Keep H H' → ρ <+: ρ' → StOk K b ρ' S' H' → stands S' w.2 = true → G H') ∧
    (∀ ρ' S' H' i x it H2, Keep H H' → ρ <+: ρ' → StOk K b ρ' S' H' → stands S' w.2 = true → w.1[i]? = some it → Y i H' x H2 → Grow b ρ' ρ' S' S' H' H2 ∧ StOk K b ρ' S' H2 ∧ RelP K ρ' H2 it x)
def relE : List Addr → Hp → PV → V → Prop := fun ρ H => RelP K ρ H
def relT : List Addr → Hp → Bool → Bool → Prop := fun _ _ a c => a = c
def relO : List Addr → Hp → Option Int → Option Int → Prop := fun _ _ a c => a = c
def relA : List Addr → Hp → List PV → List V → Prop := fun ρ H => RelPs K ρ H
def AtS (ex : Option Held) (W : WX) (D : Ends) (ρ : List Addr) (S : Sto) (H : Hp) (res : RS) : Prop := match res with
  | .next σ S' => ∀ ρ' H' τ, Grow b ρ ρ' S S' H H' → StOk K b ρ' S' H' → EnvOk K T ex ρ' H' σ τ → D.nx τ H'
  | .brk σ S' => ∀ ρ' H' τ, Grow b ρ ρ' S S' H H' → StOk K b ρ' S' H' → EnvOk K T ex ρ' H' σ τ → D.bk τ H'
  | .cont σ S' => ∀ ρ' H' τ, Grow b ρ ρ' S S' H H' → StOk K b ρ' S' H' → EnvOk K T ex ρ' H' σ τ → D.ct τ H'
  | .ret v S' => ∀ ρ' H' w, Grow b ρ ρ' S S' H H' → StOk K b ρ' S' H' → RelP K ρ' H' v w → D.rt w H'
  | .exc c as σ S' => ∀ ρ' H' τ cls d, Grow b ρ ρ' S S' H H' → StOk K b ρ' S' H' → EnvOk K T ex ρ' H' σ τ → ExcOk K T ρ' H' c as cls d → W cls d τ H'
  | .bad => False
def tS (ex : Option Held) (W : WX) (r : Env → Sto → RS) : TS := fun D τ H => ∃ ρ σ S, StOk K b ρ S H ∧ EnvOk K T ex ρ H σ τ ∧ AtS K T b ex W D ρ S H (r σ S)
end
section
variable {K : PySem.W.Frag} {T : Exc} {b : Nat} {E : XK} {α β γ δ : Type} {rel : List Addr → Hp → α → β → Prop} {rel2 : List Addr → Hp → γ → δ → Prop} {ρ ρ1 : List Addr} {S S1 : Sto} {H H1 : Hp}
theorem At.mono {res : R α} {Q Q' : β → Hp → Prop} (h : At K T b E rel ρ S H res Q) (hq : ∀ w H', Q w H' → Q' w H') : At K T b E rel ρ S H res Q' := by
  cases res with
  | ok v S' => exact fun ρ' H' w g s r => hq _ _ (h ρ' H' w g s r)
  | exc c as S' => exact h
  | bad => exact h
theorem At.grow {res : R α} {Q : β → Hp → Prop} (g : Grow b ρ ρ1 S S1 H H1) (h : At K T b E rel ρ S H res Q) : At K T b E rel ρ1 S1 H1 res Q := by
  cases res with
  | ok v S' => exact fun ρ' H' w g' s r => h ρ' H' w (g.trans g') s r
  | exc c as S' => exact fun ρ' H' cls d g' s r => h ρ' H' cls d (g.trans g') s r
  | bad => exact h
theorem At.less {c : Nat} {res : R α} {Q : β → Hp → Prop} (hb : b ≤ c) (hs : b ≤ S.cells.length) (h : At K T b E rel ρ S H res Q) : At K T c E rel ρ S H res Q := by
  have so : ∀ {ρ' : List Addr} {S' : Sto} {H' : Hp}, Grow c ρ ρ' S S' H H' → StOk K c ρ' S' H' → StOk K b ρ' S' H' := fun {ρ' S' H'} g s => ⟨s.len, s.cell, s.inj, Nat.le_trans hs g.len⟩
  cases res with
  | ok v S' => exact fun ρ' H' w g' s r => h ρ' H' w (g'.less hb) (so g' s) r
  | exc c as S' => exact fun ρ' H' cls d g' s r => h ρ' H' cls d (g'.less hb) (so g' s) r
  | bad => exact h
/-- one run behind another -/
theorem At.bd {r : R α} {f : α → Sto → R γ} {Q : δ → Hp → Prop} (h : At K T b E rel2 ρ S H (r.bd f) Q) :
    At K T b E rel ρ S H r (fun w H1 => ∃ ρ1 v S1, r = .ok v S1 ∧ Grow b ρ ρ1 S S1 H H1 ∧ StOk K b ρ1 S1 H1 ∧ rel ρ1 H1 v w ∧ At K T b E rel2 ρ1 S1 H1 (f v S1) Q) := by
  cases r with
  | ok v S' => exact fun ρ' H' w g s r => ⟨ρ', v, S', rfl, g, s, r, At.grow g (show At K T b E rel2 ρ S H (f v S') Q from h)⟩
  | exc c as S' => exact h
  | bad => exact h
theorem At.ok {v : α} {w : β} {Q : β → Hp → Prop} (so : StOk K b ρ S H) (h : At K T b E rel ρ S H (.ok v S) Q) (r : rel ρ H v w) : Q w H := h ρ H w .refl so r
theorem At.opt {o : Option α} {Q : β → Hp → Prop} (h : At K T b E rel ρ S H (MP.opt o S) Q) : ∃ v, o = some v ∧ At K T b E rel ρ S H (.ok v S) Q := by
  cases o with
  | none => exact h.elim
  | some v => exact ⟨v, rfl, h⟩
theorem AtS.grow {ex : Option Held} {W : WX} {D : Ends} {res : RS} (g : Grow b ρ ρ1 S S1 H H1) (h : AtS K T b ex W D ρ S H res) : AtS K T b ex W D ρ1 S1 H1 res := by
  cases res with
  | next σ S' => exact fun ρ' H' τ g' s e => h ρ' H' τ (g.trans g') s e
  | brk σ S' => exact fun ρ' H' τ g' s e => h ρ' H' τ (g.trans g') s e
  | cont σ S' => exact fun ρ' H' τ g' s e => h ρ' H' τ (g.trans g') s e
  | ret v S' => exact fun ρ' H' τ g' s e => h ρ' H' τ (g.trans g') s e
  | exc c as σ S' => exact fun ρ' H' τ cls d g' s e => h ρ' H' τ cls d (g.trans g') s e
  | bad => exact h
/-- an expression's run ahead of the rest of a statement -/
theorem AtS.st {ex : Option Held} {W : WX} {D : Ends} {r : R α} {σ : Env} {τ : L2.St} {f : α → Sto → RS} (eo : EnvOk K T ex ρ H σ τ) (h : AtS K T b ex W D ρ S H (r.st σ f)) :
    At K T b (fun cls d H' => W cls d τ H') rel ρ S H r (fun w H1 => ∃ ρ1 v S1, r = .ok v S1 ∧ Grow b ρ ρ1 S S1 H H1 ∧ StOk K b ρ1 S1 H1 ∧ EnvOk K T ex ρ1 H1 σ τ ∧ rel ρ1 H1 v w ∧ AtS K T b ex W D ρ1 S1 H1 (f v S1)) := by
  cases r with
  | ok v S' => exact fun ρ' H' w g s r => ⟨ρ', v, S', rfl, g, s, eo.grow g, r, AtS.grow g (show AtS K T b ex W D ρ S H (f v S') from h)⟩
  | exc c as S' => exact fun ρ' H' cls d g s x => h ρ' H' τ cls d g s (eo.grow g) x
  | bad => exact h
end
end MP
end
section
set_option Elab.async false
set_option linter.all false
set_option maxRecDepth 100000
/-! MPSound3: the operators. -/
namespace MP
open PySem PySem.Spec PyProof.Rows L2
theorem PE.weak {X : Cx} {e : Expr} {t t' : TE} (h : PE X e t) (w : ∀ σ H Q, t' σ H Q → t σ H Q) : PE X e t' := ⟨fun pins s σ H Q I q => h.run pins s σ H Q I (w σ H Q q)⟩
theorem PT.weak {X : Cx} {e : Expr} {t t' : TT} (h : PT X e t) (w : ∀ σ H Q, t' σ H Q → t σ H Q) : PT X e t' := ⟨fun pins s σ H Q I q => h.run pins s σ H Q I (w σ H Q q)⟩
theorem PW.weak {X : Cx} {e : Expr} {t t' : TT} (h : PW X e t) (w : ∀ σ H Q, t' σ H Q → t σ H Q) : PW X e t' := ⟨fun wh pins s σ H Q I q => h.run wh pins s σ H Q I (w σ H Q q)⟩
theorem PA.weak {X : Cx} {e : List Expr} {t t' : TA} (h : PA X e t) (w : ∀ σ H Q, t' σ H Q → t σ H Q) : PA X e t' := ⟨fun pos pins s σ H Q I q => h.run pos pins s σ H Q I (w σ H Q q)⟩
theorem PO.weak {X : Cx} {e : Option Expr} {t t' : TO} (h : PO X e t) (w : ∀ σ H Q, t' σ H Q → t σ H Q) : PO X e t' := ⟨fun pins s σ H Q I q => h.run pins s σ H Q I (w σ H Q q)⟩
theorem PS.weak {X : Cx} {e : Stmt} {t t' : TS} (h : PS X e t) (w : ∀ D σ H, t' D σ H → t D σ H) : PS X e t' := ⟨fun pins s σ H D I q => h.run pins s σ H D I (w D σ H q)⟩
theorem PSs.weak {X : Cx} {e : List Stmt} {t t' : TS} (h : PSs X e t) (w : ∀ D σ H, t' D σ H → t D σ H) : PSs X e t' := ⟨fun pins s σ H D I q => h.run pins s σ H D I (w D σ H q)⟩
theorem OpR.weak {X : Cx} {f : Value → Value → Sem Value} {r r' : R2} (h : OpR X f r) (w : ∀ x y H Q, r' x y H Q → r x y H Q) : OpR X f r' := fun pins s σ H x y v u Q I rx ry q => h pins s σ H x y v u Q I rx ry (w x y H Q q)
theorem line_eq : (sizeLine : Nat) = lenMax := by unfold lenMax; exact sizeLine_eq
theorem log_bits (x : Int) : Builtin.Int.intBits x ≤ x.natAbs.log2 + 1 := by
  unfold Builtin.Int.intBits
  split <;> omega
theorem bits64 {x : Int} (h : x.natAbs < 2 ^ 64) : Builtin.Int.intBits x ≤ 64 := intBits_le_64 (by omega) (by omega)
theorem mulOk_ok {i j : Int} (h : mulOk i j = true) : IntMulOk i j := by
  unfold mulOk at h
  rw [Bool.or_eq_true, Bool.or_eq_true] at h
  rcases h with (h | h) | h
  · exact .of_left (bits64 (of_decide_eq_true h))
  · exact .of_right (bits64 (of_decide_eq_true h))
  · refine CMulX.ok ?_
    have h1 := log_bits i
    have h2 := log_bits j
    have h3 := of_decide_eq_true h
    unfold CMulX
    omega
section
variable {X : Cx}
theorem op_mulM : OpR X (binaryOp .Mult) (rI (fun i j => mulOk i j = true) fun i j => .int (i * j)) := opI fun _ _ _ _ _ _ _ hc q => mul_int q (mulOk_ok hc)
/-- where very great numbers may be divided -/
structure WideX (X : Cx) : Prop where
  depth : X.A.depth + Builtin.pylongFrames < recursionLimit
  seer : X.base.NoSeer
  tree : X.prog.given.tree = none
  top : ∃ env l, X.stack = env :: l ∧ env.scope.isGenerator = false ∧ env.scope.isCoroutine = false ∧ env.builtins = builtinsNs ∧ env.globals = mainGlobals
theorem WideX.room (W : WideX X) {pins : List (Addr × Obj)} {σ : L2.St} {H : Hp} {s : Shared} (I : Inv X pins σ H s) : PySem.PylongRoom (model X.prog X.w) X.A s := by
  obtain ⟨env, l, f, g1, g2, g3, g4⟩ := W.top
  exact PySem.PylongRoom.of I.nolimit W.depth (PySem.SeerAt.of (W.seer.keeps I.bk) W.tree (I.ok.frames.trans (congrArg some f)) g1 g2 g3 g4)
theorem op_fdivM (W : WideX X) : OpR X (binaryOp .FloorDiv) (rI (fun _ j => divOk j = true) fun i j => .int (i.fdiv j)) := by
  intro pins s σ H x y v u Q I rx ry h
  obtain ⟨i, j, rfl, rfl, hc, q⟩ := h
  obtain ⟨t, rfl⟩ := rx
  obtain ⟨t', rfl⟩ := ry
  exact floordiv_int (of_decide_eq_true hc) ⟨.int (i.fdiv j), H, I.tok _, ⟨_, rfl⟩, q⟩ (.inr (W.room I))
/-- list + list, of lists that may be locked -/
def rCatS (K : PySem.W.Frag) : R2 := fun x y H Q => ∃ a b xs ys, x = .ref a ∧ y = .ref b ∧ SqL K H a xs ∧ SqL K H b ys ∧ xs.length + ys.length ≤ sizeLine ∧ ∀ p, H p = none → Q (.ref p) (upd H p (.lst (xs ++ ys)))
theorem op_catS : OpR X (binaryOp .Add) (rCatS X.K) := by
  intro pins s σ H x y v u Q I rx ry h
  obtain ⟨a, b, xs, ys, rfl, rfl, ha, hb, hz, q⟩ := h
  cases rx
  cases ry
  obtain ⟨its, r1, p1, _⟩ := I.list ha
  obtain ⟨its2, r2, p2, _⟩ := I.list hb
  have l1 := r1.length
  have l2 := r2.length
  obtain ⟨⟨c1, d1, t1, s1⟩, o1, e1, n1, f1⟩ := p1.isList
  obtain ⟨⟨c2, d2, t2, s2⟩, o2, e2, n2, f2⟩ := p2.isList
  simp only at e1 f1 e2 f2
  subst e1 f1 e2 f2
  refine concat_meets ⟨_, o1, rfl⟩ ⟨_, o2, rfl⟩ noFill_list_add seq_list_add PySem.F.slot_list_add PySem.F.entry_list_add (PySem.F.args_list_add_2 _ _) (list_addW a b its.toArray its2.toArray n1 n2 d1 d2 s1 s2 (by rw [List.size_toArray, List.size_toArray, ← l1, ← l2]; exact hz)) ⟨o1, o2, ?_⟩
  have ea : its.toArray ++ its2.toArray = (its ++ its2).toArray := by simp
  rw [ea]
  exact ⟨.ref _, _, I.lnew (t' := s.toks) (r1.append r2) (by rw [List.length_append]; exact hz), rfl, q _ I.fresh⟩
theorem op_powM : OpR X (binaryOp .Pow) (rI (fun i j => powOk i j = true) fun i j => .int (i ^ j.toNat)) := opI fun _ _ _ _ _ _ _ hc q => by
  have h := Bool.and_eq_true_iff.mp hc
  have h2 := Bool.and_eq_true_iff.mp h.1
  exact pow_int_small (of_decide_eq_true h2.1) (of_decide_eq_true h2.2) (of_decide_eq_true h.2) q
theorem op_shlM : OpR X (binaryOp .LShift) (rI (fun i j => shlOk i j = true) fun i j => .int (i * 2 ^ j.toNat)) := opI fun i _ _ _ _ _ _ hc q => by
  have h := Bool.and_eq_true_iff.mp hc
  have h2 := of_decide_eq_true h.2
  have h3 := log_bits i
  exact lshift_int (of_decide_eq_true h.1) (by omega) q
end
def opOf : Op → Operator
  | .add => .Add
  | .sub => .Sub
  | .mul => .Mult
  | .fdiv => .FloorDiv
  | .mod => .Mod
  | .pow => .Pow
  | .shl => .LShift
section
variable [RT] {b : Nat}
variable {ρ : List Addr} {S : Sto} {H : Hp}
/-- what is wanted of a result: a new list, not yet locked, or another thing -/
def ResV (K : PySem.W.Frag) (b : Nat) (ρ : List Addr) (S : Sto) (H : Hp) (z : PV) (Q : VK) : Prop :=
  (∃ xs, z = .lst xs ∧ ∀ p vs, H p = none → RelPs K ρ H xs vs → Q (.ref p) (upd H p (.lst vs))) ∨ ((∀ xs, z ≠ .lst xs) ∧ ∀ H' w, Grow b ρ ρ S S H H' → StOk K b ρ S H' → RelP K ρ H' z w → Q w H')
theorem ResV.val {K : PySem.W.Frag} {z : PV} {Q : VK} {w : V} (h : ResV K b ρ S H z Q) (so : StOk K b ρ S H) (n : ∀ xs, z ≠ .lst xs) (r : RelP K ρ H z w) : Q w H := by
  rcases h with ⟨xs, e, _⟩ | ⟨_, h⟩
  · exact absurd e (n xs)
  · exact h H w .refl so r
theorem ResV.gen {K : PySem.W.Frag} {z : PV} {Q : VK} {H' : Hp} {w : V} (h : ResV K b ρ S H z Q) (n : ∀ xs, z ≠ .lst xs) (g : Grow b ρ ρ S S H H') (so : StOk K b ρ S H') (r : RelP K ρ H' z w) : Q w H' := by
  rcases h with ⟨xs, e, _⟩ | ⟨_, h⟩
  · exact absurd e (n xs)
  · exact h H' w g so r
theorem ResV.new {K : PySem.W.Frag} {xs : List PV} {Q : VK} (h : ResV K b ρ S H (.lst xs) Q) {p : Addr} {vs : List V} (hp : H p = none) (r : RelPs K ρ H xs vs) : Q (.ref p) (upd H p (.lst vs)) := by
  rcases h with ⟨ys, e, h⟩ | ⟨n, _⟩
  · cases e; exact h p vs hp r
  · exact absurd rfl (n xs)
/-- what is wanted of a locked result -/
theorem ResV.of {K : PySem.W.Frag} {z : PV} {Q : VK} (so : StOk K b ρ S H) (h : ∀ H' w, Grow b ρ ρ S S H H' → StOk K b ρ S H' → RelP K ρ H' z w → Q w H') : ResV K b ρ S H z (lk Q) := by
  cases z with
  | lst xs => exact .inl ⟨xs, rfl, fun p vs hp r => lock_new so hp r h⟩
  | _ => exact .inr ⟨fun _ e => (by cases e), fun H' w g s r => .inl (h H' w g s r)⟩
/-- what is wanted of a list that may be changed -/
theorem ResV.thaw {K : PySem.W.Frag} {xs : List PV} {Q : VK} (so : StOk K b ρ S H) (h : ∀ p vs, H p = none → RelPs K ρ H xs vs → Q (.ref p) (upd H p (.lst vs))) : ResV K b ρ S H (.lst xs) Q := .inl ⟨xs, rfl, h⟩
def rB (K : PySem.W.Frag) (b : Nat) (o : Op) : R2 := fun x y H Q => ∃ ρ S v u z, StOk K b ρ S H ∧ RelP K ρ H v x ∧ RelP K ρ H u y ∧ opV S o v u = some z ∧ ResV K b ρ S H z Q
theorem StOk.new {K : PySem.W.Frag} {ρ : List Addr} {S : Sto} {H : Hp} {p : Addr} (so : StOk K b ρ S H) : (ρ ++ [p])[S.len]? = some p := by
  unfold Sto.len
  rw [← so.len, List.getElem?_append_right (Nat.le_refl _)]
  simp
theorem rel_ne {K : PySem.W.Frag} {ρ : List Addr} {H : Hp} {xs : List PV} {vs : List V} (r : RelPs K ρ H xs vs) : vs = [] ↔ xs = [] := by
  cases r <;> simp
theorem rep_rel {K : PySem.W.Frag} {ρ : List Addr} {H : Hp} {xs : List PV} {vs : List V} (r : RelPs K ρ H xs vs) : ∀ n : Nat, RelPs K ρ H (List.replicate n xs).flatten (List.replicate n vs).flatten
  | 0 => .nil
  | n + 1 => by
    rw [List.replicate_succ, List.replicate_succ, List.flatten_cons, List.flatten_cons]
    exact r.app (rep_rel r n)
theorem lst_of {K : PySem.W.Frag} {ρ : List Addr} {S : Sto} {H : Hp} {x : PV} {v : V} {xs : List PV} (so : StOk K b ρ S H) (r : RelP K ρ H x v) (e : lstOf S x = some xs) : ∃ a vs, v = .ref a ∧ SqL K H a vs ∧ RelPs K ρ H xs vs := by
  unfold lstOf at e
  split at e
  · cases e
    obtain ⟨a, vs, rfl, h, rs⟩ := r.of_lst
    exact ⟨a, vs, rfl, h.sq, rs⟩
  · obtain ⟨a, rfl, ea⟩ := r.of_ref
    obtain ⟨vs, rs, hs⟩ := so.sql e ea
    exact ⟨a, vs, rfl, hs, rs⟩
  · cases e
theorem binOp_ok {X : Cx} (W : WideX X) (o : Op) : OpR X (binaryOp (opOf o)) (rB X.K b o) := by
  intro pins s σ H x y vx vy Q I rx ry h
  obtain ⟨ρ, S, v, u, z, so, rv, ru, hz, hq⟩ := h
  have fin : ∀ {w : V}, (∀ xs, z ≠ .lst xs) → RelP X.K ρ H z w → Q w H := fun {w} n r => hq.val so n r
  unfold opV at hz
  split at hz
  · obtain rfl := rv.of_int; obtain rfl := ru.of_int; cases hz
    exact op_add pins s σ H _ _ vx vy Q I rx ry ⟨_, _, rfl, rfl, fin (fun _ e => by cases e) (.int _)⟩
  · obtain rfl := rv.of_int; obtain rfl := ru.of_int; cases hz
    exact op_sub pins s σ H _ _ vx vy Q I rx ry ⟨_, _, rfl, rfl, fin (fun _ e => by cases e) (.int _)⟩
  · obtain rfl := rv.of_int; obtain rfl := ru.of_int
    split at hz
    · rename_i hc; cases hz
      exact op_mulM pins s σ H _ _ vx vy Q I rx ry ⟨_, _, rfl, rfl, hc, fin (fun _ e => by cases e) (.int _)⟩
    · cases hz
  · obtain rfl := rv.of_int; obtain rfl := ru.of_int
    split at hz
    · rename_i hc; cases hz
      exact (op_fdivM W) pins s σ H _ _ vx vy Q I rx ry ⟨_, _, rfl, rfl, hc, fin (fun _ e => by cases e) (.int _)⟩
    · cases hz
  · obtain rfl := rv.of_int; obtain rfl := ru.of_int
    split at hz
    · cases hz
    · rename_i hc; cases hz
      exact op_modN pins s σ H _ _ vx vy Q I rx ry ⟨_, _, rfl, rfl, hc, fin (fun _ e => by cases e) (.int _)⟩
  · obtain rfl := rv.of_int; obtain rfl := ru.of_int
    split at hz
    · rename_i hc; cases hz
      exact op_powM pins s σ H _ _ vx vy Q I rx ry ⟨_, _, rfl, rfl, hc, fin (fun _ e => by cases e) (.int _)⟩
    · cases hz
  · obtain rfl := rv.of_int; obtain rfl := ru.of_int
    split at hz
    · rename_i hc; cases hz
      exact op_shlM pins s σ H _ _ vx vy Q I rx ry ⟨_, _, rfl, rfl, hc, fin (fun _ e => by cases e) (.int _)⟩
    · cases hz
  · obtain rfl := rv.of_str; obtain rfl := ru.of_str
    split at hz
    · rename_i hc; cases hz
      exact op_add_str pins s σ H _ _ vx vy Q I rx ry ⟨_, _, rfl, rfl, by rw [line_eq]; exact hc, fin (fun _ e => by cases e) (.str _)⟩
    · cases hz
  · obtain ⟨a1, xs, rfl, h1, h2⟩ := rv.of_tup
    obtain ⟨a2, ys, rfl, h3, h4⟩ := ru.of_tup
    split at hz
    · rename_i hc; cases hz
      refine op_catA pins s σ H _ _ vx vy Q I rx ry ⟨_, _, xs, ys, rfl, rfl, h1, h3, by rw [line_eq, ← h2.length, ← h4.length]; exact hc, ?_, ?_, ?_⟩
      · intro e
        have e' := (rel_ne h2).mp e
        subst e'
        exact fin (fun _ e => by cases e) (.tup h3 (by simpa using h4))
      · intro _ e
        have e' := (rel_ne h4).mp e
        subst e'
        exact fin (fun _ e => by cases e) (.tup h1 (by simpa using h2))
      · intro _ _ p hp
        exact hq.gen (fun _ e => by cases e) (.alloc hp) (so.alloc hp) (.tup (SqT.of upd_same) ((h2.app h4).mono (.new hp) (List.prefix_refl _)))
    · cases hz
  · obtain ⟨a1, xs, rfl, h1, h2⟩ := rv.of_tup
    obtain rfl := ru.of_int
    split at hz
    · rename_i hc; cases hz
      have hc' := Bool.and_eq_true_iff.mp hc
      have hc2 := Bool.and_eq_true_iff.mp hc'.1
      have hc3 := Bool.and_eq_true_iff.mp hc2.1
      refine op_repT pins s σ H _ _ vx vy Q I rx ry ⟨_, _, xs, rfl, rfl, h1, fun e => ?_, of_decide_eq_true hc3.2, of_decide_eq_true hc2.2, by rw [← h2.length]; exact of_decide_eq_true hc'.2, fun p hp => ?_⟩
      · have e' := (rel_ne h2).mp e
        rw [e'] at hc3
        simp at hc3
      · exact hq.gen (fun _ e => by cases e) (.alloc hp) (so.alloc hp) (.tup (SqT.of upd_same) ((rep_rel h2 _).mono (.new hp) (List.prefix_refl _)))
    · cases hz
  · split at hz
    · rename_i xs ys q1 q2
      obtain ⟨p1, vs, rfl, h1, r1⟩ := lst_of so rv q1
      obtain ⟨p2, ws, rfl, h2, r2⟩ := lst_of so ru q2
      split at hz
      · rename_i hc; cases hz
        exact op_catS pins s σ H _ _ vx vy Q I rx ry ⟨p1, p2, vs, ws, rfl, rfl, h1, h2, by rw [line_eq, ← r1.length, ← r2.length]; exact hc, fun p hp => hq.new hp (r1.app r2)⟩
      · cases hz
    · cases hz
  · cases hz
end
end MP
namespace MP
open PySem PySem.Spec PyProof.Rows L2
/-! ### comparisons -/
def cmOf : Cm → CmpOp
  | .eq => .Eq
  | .ne => .NotEq
  | .lt => .Lt
  | .le => .LtE
  | .gt => .Gt
  | .ge => .GtE
  | .isn => .Is
  | .nisn => .IsNot
  | .inn => .In
  | .nin => .NotIn
section
variable [RT] {b : Nat} {K : PySem.W.Frag} {ρ : List Addr} {S : Sto} {H : Hp}
mutual
theorem dp_of : ∀ {x : PV} {v : V} {d : PyData}, RelP K ρ H x v → x.toD = some d → Dp K H v d
  | _, _, _, .non, e => by cases e; exact .non
  | _, _, _, .bl b, e => by cases e; exact .bl b
  | _, _, _, .int i, e => by cases e; exact .int i
  | _, _, _, .str x, e => by cases e; exact .str x
  | .tup xs, _, d, .tup h hs, e => by
    cases q : PV.toDs xs with
    | none => simp [PV.toD, q] at e
    | some ds =>
      have e' : PyData.tuple ds = d := by simpa [PV.toD, q] using e
      subst e'
      exact .tup h (dps_of hs q)
  | .lst xs, _, d, .lst h hs, e => by
    cases q : PV.toDs xs with
    | none => simp [PV.toD, q] at e
    | some ds =>
      have e' : PyData.list ds = d := by simpa [PV.toD, q] using e
      subst e'
      exact .lst h.sq (dps_of hs q)
  | _, _, _, .obj _ _, e => by simp [PV.toD] at e
  | _, _, _, .ref _, e => by simp [PV.toD] at e
theorem dps_of : ∀ {xs : List PV} {vs : List V} {ds : List PyData}, RelPs K ρ H xs vs → PV.toDs xs = some ds → DpAll K H vs ds
  | _, _, _, .nil, e => by cases e; exact .nil
  | x :: xs, _, ds, .cons h hs, e => by
    cases q : x.toD with
    | none => simp [PV.toDs, q] at e
    | some d =>
      cases q2 : PV.toDs xs with
      | none => simp [PV.toDs, q, q2] at e
      | some es =>
        have e' : d :: es = ds := by simpa [PV.toDs, q, q2] using e
        subst e'
        exact .cons (dp_of h q) (dps_of hs q2)
end
theorem dpS_of (so : StOk K b ρ S H) {x : PV} {v : V} {d : PyData} (r : RelP K ρ H x v) (e : toDS S x = some d) : Dp K H v d := by
  unfold toDS at e
  split at e
  · obtain ⟨a, rfl, ea⟩ := r.of_ref
    split at e
    · rename_i xs q
      obtain ⟨vs, rs, hs⟩ := so.sql q ea
      cases q2 : PV.toDs xs with
      | none => rw [q2] at e; cases e
      | some ds =>
        rw [q2] at e; cases e
        exact .lst hs (dps_of rs q2)
    · cases e
  · exact dp_of r e
theorem flat_of {x : PV} {v : V} (r : RelP K ρ H x v) (f : x.flat = true) : flatV v = true := by
  cases r <;> first | rfl | cases f
theorem eqF_of {x y : PV} {v u : V} (r : RelP K ρ H x v) (q : RelP K ρ H y u) (f : x.flat = true) (g : y.flat = true) : x.eqF y = L2.eqV v u := by
  cases r <;> cases q <;> first | rfl | (exact absurd f (by decide)) | (exact absurd g (by decide)) | (simp [PV.flat] at f) | (simp [PV.flat] at g)
theorem flats_of : ∀ {xs : List PV} {vs : List V}, RelPs K ρ H xs vs → xs.all PV.flat = true → vs.all flatV = true
  | _, _, .nil, _ => rfl
  | _, _, .cons r t, f => by
    rw [List.all_cons, Bool.and_eq_true] at f
    rw [List.all_cons, flat_of r f.1, flats_of t f.2]
    rfl
theorem inF_of {y : PV} {u : V} (q : RelP K ρ H y u) (g : y.flat = true) : ∀ {xs : List PV} {vs : List V}, RelPs K ρ H xs vs → xs.all PV.flat = true → (xs.any fun z => z.eqF y) = inV u vs
  | _, _, .nil, _ => rfl
  | _, _, .cons r t, f => by
    rw [List.all_cons, Bool.and_eq_true] at f
    have ih := inF_of q g t f.2
    rw [List.any_cons, ih, eqF_of r q f.1 g]
    rfl
theorem seq_of (so : StOk K b ρ S H) {y : PV} {u : V} {xs : List PV} (r : RelP K ρ H y u) (e : seqOf S y = some xs) : ∃ a vs, u = .ref a ∧ RelPs K ρ H xs vs ∧ (SqL K H a vs ∨ SqT K H a vs) := by
  unfold seqOf at e
  split at e
  · cases e
    obtain ⟨a, vs, rfl, h, rs⟩ := r.of_tup
    exact ⟨a, vs, rfl, rs, .inr h⟩
  · cases e
    obtain ⟨a, vs, rfl, h, rs⟩ := r.of_lst
    exact ⟨a, vs, rfl, rs, .inl h.sq⟩
  · obtain ⟨a, rfl, ea⟩ := r.of_ref
    obtain ⟨vs, rs, hs⟩ := so.sql e ea
    exact ⟨a, vs, rfl, rs, .inl hs⟩
  · cases e
theorem ints_of : ∀ {xs : List PV} {vs : List V} {ns : List Int}, RelPs K ρ H xs vs → intsOf xs = some ns → vs = ns.map V.int
  | [], _, ns, .nil, e => by cases e; rfl
  | x :: xs, _, ns, .cons r t, e => by
    cases x with
    | int i =>
      cases q : intsOf xs with
      | none => simp [intsOf, q] at e
      | some ms =>
        have e' : i :: ms = ns := by simpa [intsOf, q] using e
        subst e'
        obtain rfl := r.of_int
        rw [ints_of t q]
        rfl
    | _ => simp [intsOf] at e
theorem lexI_eq : ∀ (as bs : List Int), lexI as bs = HT.lexLt as bs
  | [], [] => rfl
  | [], _ :: _ => rfl
  | _ :: _, [] => rfl
  | a :: as, b :: bs => by
    unfold lexI HT.lexLt
    rw [lexI_eq as bs]
def rC (K : PySem.W.Frag) (b : Nat) (o : Cm) : R2 := fun x y H Q => ∃ ρ S v u c, StOk K b ρ S H ∧ RelP K ρ H v x ∧ RelP K ρ H u y ∧ cmV S o v u = some c ∧ Q (.bl c) H
theorem cmOp_ok {X : Cx} (o : Cm) (hu' : X.A.units + 65 < cLine) : OpR X (compareOp (cmOf o)) (rC X.K b o) := by
  have hu : X.A.units + 64 < cLine := by omega
  intro pins s σ H x y vx vy Q I rx ry h
  obtain ⟨ρ, S, v, u, c, so, rv, ru, hc, q⟩ := h
  have int2 : ∀ {f : Int → Int → Bool}, cmI f v u = some c → ∃ i j, x = .int i ∧ y = .int j ∧ f i j = c := fun {f} e => by
    unfold cmI at e
    split at e
    · cases e
      exact ⟨_, _, rv.of_int, ru.of_int, rfl⟩
    · cases e
  have eqq : ∀ {d}, eqV S v u = some d → ∃ p e, Dp X.K H x p ∧ Dp X.K H y e ∧ SeqAt.shaped p = true ∧ SeqAt.shaped e = true ∧ PyData.eqv p e = d := fun {d} e => by
    unfold eqV at e
    split at e
    · rename_i p r q1 q2
      split at e
      · rename_i hs
        cases e
        have hs' := Bool.and_eq_true_iff.mp hs
        exact ⟨p, r, dpS_of so rv q1, dpS_of so ru q2, hs'.1, hs'.2, rfl⟩
      · cases e
    · cases e
  have isv : ∀ {d}, isV v u = some d → (y = .non ∧ d = decide (x = .non)) ∨ ∃ i j, x = .bl i ∧ y = .bl j ∧ d = decide (i = j) := fun {d} e => by
    unfold isV at e
    split at e
    · cases e; exact .inl ⟨ru.of_non, rv.is_non.symm⟩
    · split at e
      · cases e; exact .inr ⟨_, _, rv.of_bl, ru.of_bl, rfl⟩
      · cases e
    · cases e
  have inn : ∀ {d}, inSeq S v u = some d → (∃ p xs, y = .ref p ∧ (SqL X.K H p xs ∨ SqT X.K H p xs) ∧ flatV x = true ∧ xs.all flatV = true ∧ inV x xs = d) ∨ (∃ d' ds, Dp X.K H x d' ∧ Dp X.K H y (.list ds) ∧ SeqAt.shaped d' = true ∧ SeqAt.shaped (.list ds) = true ∧ (ds.any fun z => PyData.eqv z d') = d) ∨
      ∃ (k : Nat) (z : Str), x = .str ⟨#[k]⟩ ∧ y = .str z ∧ d = decide (k ∈ z.cps.toList) := fun {d} e => by
    unfold inSeq at e
    split at e
    · split at e
      · split at e
        · rename_i z _ z1 _ k hk
          cases e
          obtain rfl := rv.of_str
          obtain rfl := ru.of_str
          refine .inr (.inr ⟨k, z, ?_, rfl, rfl⟩)
          obtain ⟨cps⟩ := z1
          have hk' : cps = #[k] := by
            have h2 := congrArg List.toArray (show cps.toList = [k] from hk)
            simpa using h2
          rw [hk']
        · cases e
      · cases e
    · split at e
      · rename_i xs q1
        split at e
        · rename_i hs
          cases e
          have hs' := Bool.and_eq_true_iff.mp hs
          obtain ⟨a, vs, rfl, rs, hq⟩ := seq_of so ru q1
          exact .inl ⟨a, vs, rfl, hq, flat_of rv hs'.1, flats_of rs hs'.2, (inF_of rv hs'.1 rs hs'.2).symm⟩
        · unfold inDeep at e
          split at e
          · rename_i d' ds r1 r2
            split at e
            · rename_i hs
              cases e
              have hs' := Bool.and_eq_true_iff.mp hs
              exact .inr (.inl ⟨d', ds, dpS_of so rv r1, dpS_of so ru r2, hs'.1, hs'.2, rfl⟩)
            · cases e
          · cases e
      · cases e
  cases o with
  | eq =>
    obtain ⟨p, e, h1, h2, h3, h4, rfl⟩ := eqq hc
    exact op_eqD hu pins s σ H x y vx vy Q I rx ry ⟨p, e, h1, h2, h3, h4, q⟩
  | ne =>
    cases q1 : eqV S v u with
    | none => rw [show cmV S .ne v u = (eqV S v u).map (!·) from rfl, q1] at hc; cases hc
    | some d =>
      rw [show cmV S .ne v u = (eqV S v u).map (!·) from rfl, q1] at hc
      cases hc
      obtain ⟨p, e, h1, h2, h3, h4, rfl⟩ := eqq q1
      exact op_neD hu pins s σ H x y vx vy Q I rx ry ⟨p, e, h1, h2, h3, h4, q⟩
  | lt =>
    have hc : cmL v u = some c := hc
    unfold cmL at hc
    split at hc
    · cases hc
      obtain rfl := rv.of_int
      obtain rfl := ru.of_int
      exact op_lt pins s σ H _ _ vx vy Q I rx ry ⟨_, _, rfl, rfl, q⟩
    · split at hc
      · rename_i as bs q1 q2
        cases hc
        obtain ⟨a1, vs, rfl, h1, r1⟩ := rv.of_tup
        obtain ⟨a2, ws, rfl, h2, r2⟩ := ru.of_tup
        rw [ints_of r1 q1] at h1
        rw [ints_of r2 q2] at h2
        refine op_ltT (by omega) pins s σ H _ _ vx vy Q I rx ry ⟨a1, a2, as, bs, rfl, rfl, h1, h2, ?_⟩
        rw [lexI_eq] at q
        exact q
      · cases hc
    · cases hc
  | le =>
    obtain ⟨i, j, rfl, rfl, rfl⟩ := int2 (f := fun a b => decide (a ≤ b)) hc
    exact op_le pins s σ H _ _ vx vy Q I rx ry ⟨i, j, rfl, rfl, q⟩
  | gt =>
    obtain ⟨i, j, rfl, rfl, rfl⟩ := int2 (f := fun a b => decide (b < a)) hc
    exact op_gt pins s σ H _ _ vx vy Q I rx ry ⟨i, j, rfl, rfl, q⟩
  | ge =>
    obtain ⟨i, j, rfl, rfl, rfl⟩ := int2 (f := fun a b => decide (b ≤ a)) hc
    exact op_ge pins s σ H _ _ vx vy Q I rx ry ⟨i, j, rfl, rfl, q⟩
  | isn =>
    rcases isv hc with ⟨rfl, rfl⟩ | ⟨i, j, rfl, rfl, rfl⟩
    · exact op_isN pins s σ H x _ vx vy Q I rx ry ⟨rfl, q⟩
    · exact op_is_bl pins s σ H _ _ vx vy Q I rx ry ⟨_, _, rfl, rfl, q⟩
  | nisn =>
    cases q1 : isV v u with
    | none => rw [show cmV S .nisn v u = (isV v u).map (!·) from rfl, q1] at hc; cases hc
    | some d =>
      rw [show cmV S .nisn v u = (isV v u).map (!·) from rfl, q1] at hc
      cases hc
      rcases isv q1 with ⟨rfl, rfl⟩ | ⟨i, j, rfl, rfl, rfl⟩
      · exact op_notN pins s σ H x _ vx vy Q I rx ry ⟨rfl, q⟩
      · exact op_isnot_bl pins s σ H _ _ vx vy Q I rx ry ⟨_, _, rfl, rfl, q⟩
  | inn =>
    rcases inn hc with ⟨p, xs, h1, h2, h3, h4, rfl⟩ | ⟨d', ds, h1, h2, h3, h4, rfl⟩ | ⟨k, z, h1, h2, rfl⟩
    rotate_left 2
    · exact op_in_sign pins s σ H x y vx vy Q I rx ry ⟨k, z, h1, h2, q⟩
    · exact op_in_seq pins s σ H x y vx vy Q I rx ry ⟨p, xs, h1, h2, h3, h4, q⟩
    · exact op_inD hu' pins s σ H x y vx vy Q I rx ry ⟨d', ds, h1, h2, h3, h4, q⟩
  | nin =>
    cases q1 : inSeq S v u with
    | none => rw [show cmV S .nin v u = (inSeq S v u).map (!·) from rfl, q1] at hc; cases hc
    | some d =>
      rw [show cmV S .nin v u = (inSeq S v u).map (!·) from rfl, q1] at hc
      cases hc
      rcases inn q1 with ⟨p, xs, h1, h2, h3, h4, rfl⟩ | ⟨d', ds, h1, h2, h3, h4, rfl⟩ | ⟨k, z, h1, h2, rfl⟩
      rotate_left 2
      · exact op_notIn_sign pins s σ H x y vx vy Q I rx ry ⟨k, z, h1, h2, q⟩
      · exact op_notIn_seq pins s σ H x y vx vy Q I rx ry ⟨p, xs, h1, h2, h3, h4, q⟩
      · exact op_notInD hu' pins s σ H x y vx vy Q I rx ry ⟨d', ds, h1, h2, h3, h4, q⟩
end
/-! ### truth, items, slices -/
section
variable [RT] {b : Nat} {K : PySem.W.Frag} {ρ : List Addr} {S : Sto} {H : Hp}
theorem tru_of (so : StOk K b ρ S H) {x : PV} {v : V} {c : Bool} (r : RelP K ρ H x v) (e : truV S x = some c) : TruV K v H c := by
  have ie : ∀ {xs : List PV} {vs : List V}, RelPs K ρ H xs vs → (!xs.isEmpty) = !vs.isEmpty := fun {xs vs} r => by cases r <;> rfl
  unfold truV at e
  split at e
  · cases e; obtain rfl := r.of_non; rfl
  · cases e; obtain rfl := r.of_bl; rfl
  · cases e; obtain rfl := r.of_int; rfl
  · obtain rfl := r.of_str
    split at e
    · rename_i hl
      cases e
      refine ⟨by rw [line_eq]; exact hl, ?_⟩
      rw [Bool.eq_iff_iff]
      simp
    · cases e
  · cases e
    obtain ⟨a, vs, rfl, h, rs⟩ := r.of_tup
    exact .inr (.inl ⟨vs, h, ie rs⟩)
  · cases e
    obtain ⟨a, vs, rfl, h, rs⟩ := r.of_lst
    exact .inl ⟨vs, h.sq, ie rs⟩
  · cases e
  · obtain ⟨a, rfl, ea⟩ := r.of_ref
    split at e
    · rename_i xs q
      cases e
      obtain ⟨vs, rs, hs⟩ := so.sql (show S.lst? _ = some xs by unfold Sto.lst?; rw [q]) ea
      exact .inl ⟨vs, hs, ie rs⟩
    · rename_i xs q
      cases e
      obtain ⟨vs, rs, hs⟩ := so.sql (show S.lst? _ = some xs by unfold Sto.lst?; rw [q]) ea
      exact .inl ⟨vs, hs, ie rs⟩
    · cases e
theorem atI_rel {xs : List PV} {vs : List V} {i : Int} {x : PV} (r : RelPs K ρ H xs vs) (e : MP.itemAt xs i = some x) : ∃ v, L2.atI vs i = some v ∧ RelP K ρ H x v := by
  unfold MP.itemAt at e
  cases q : MP.placeOf xs.length i with
  | none => rw [q] at e; cases e
  | some j =>
    rw [q] at e
    have e' : xs[j]? = some x := e
    obtain ⟨v, h1, h2⟩ := r.get e'
    refine ⟨v, ?_, h2⟩
    unfold L2.atI
    rw [← r.length, show L2.ixN xs.length i = some j from q]
    exact h1
theorem edge_eq (n d : Nat) (o : Option Int) : HT.sIx n d o = MP.edge n d o := by
  cases o <;> rfl
theorem cut_rel {xs : List PV} {vs : List V} (r : RelPs K ρ H xs vs) (lo hi : Option Int) : RelPs K ρ H (cut xs lo hi) (cutV vs lo hi) := by
  unfold cut cutV
  rw [← r.length]
  simp only [edge_eq]
  exact (r.drop _).take _
theorem cut_whole {α : Type} {xs : List α} {lo hi : Option Int} (h1 : MP.edge xs.length 0 lo = 0) (h2 : MP.edge xs.length xs.length hi = xs.length) : cut xs lo hi = xs := by
  unfold cut
  rw [h1, h2]
  simp
end
end MP
end
section
set_option Elab.async false
set_option linter.all false
set_option maxRecDepth 100000
/-! MPSoundD: rows of ints sorted; dicts whose keys are rows of ints. -/
namespace MP
open PySem PySem.Spec PyProof.Rows L2
/-! ### sorting -/
theorem lexI_irr : ∀ as : List Int, lexI as as = false
  | [] => rfl
  | a :: as => by rw [lexI, if_pos rfl]; exact lexI_irr as
theorem lexI_asym : ∀ {as bs : List Int}, lexI as bs = true → lexI bs as = false
  | [], [], h => by cases h
  | [], _ :: _, _ => rfl
  | _ :: _, [], h => by cases h
  | a :: as, b :: bs, h => by
    rw [lexI] at h ⊢
    by_cases e : a = b
    · rw [if_pos e] at h
      rw [if_pos e.symm]
      exact lexI_asym h
    · rw [if_neg e] at h
      rw [if_neg fun z => e z.symm]
      have h := of_decide_eq_true h
      exact decide_eq_false (by omega)
theorem lexI_neg : ∀ {as bs cs : List Int}, lexI as bs = false → lexI bs cs = false → lexI as cs = false
  | [], bs, cs, h1, h2 => by
    cases bs with
    | nil => exact h2
    | cons _ _ => cases h1
  | a :: as, bs, [], h1, h2 => by cases bs <;> rfl
  | a :: as, [], c :: cs, h1, h2 => by cases h2
  | a :: as, b :: bs, c :: cs, h1, h2 => by
    rw [lexI] at h1 h2 ⊢
    by_cases e : a = b
    · rw [if_pos e] at h1
      by_cases e2 : b = c
      · rw [if_pos e2] at h2
        rw [if_pos (e.trans e2)]
        exact lexI_neg h1 h2
      · rw [if_neg e2] at h2
        rw [if_neg fun z => e2 (e.symm.trans z), e]
        exact h2
    · rw [if_neg e] at h1
      have h1 := of_decide_eq_false h1
      by_cases e2 : b = c
      · rw [if_neg fun z => e (z.trans e2.symm)]
        exact decide_eq_false (by omega)
      · rw [if_neg e2] at h2
        have h2 := of_decide_eq_false h2
        rw [if_neg (by omega)]
        exact decide_eq_false (by omega)
theorem lexI_tot : ∀ {as bs : List Int}, lexI as bs = false → lexI bs as = false → as = bs
  | [], [], _, _ => rfl
  | [], _ :: _, h, _ => by cases h
  | _ :: _, [], _, h => by cases h
  | a :: as, b :: bs, h1, h2 => by
    rw [lexI] at h1 h2
    by_cases e : a = b
    · rw [if_pos e] at h1
      rw [if_pos e.symm] at h2
      rw [e, lexI_tot h1 h2]
    · rw [if_neg e] at h1
      rw [if_neg fun z => e z.symm] at h2
      have h1 := of_decide_eq_false h1
      have h2 := of_decide_eq_false h2
      omega
section
variable {α : Type} {lt : α → α → Bool}
/-- none behind is below one ahead -/
abbrev SrtB (lt : α → α → Bool) (l : List α) : Prop := l.Pairwise fun a b => lt b a = false
theorem insL_perm (x : α) : ∀ l : List α, (insL lt x l).Perm (x :: l)
  | [] => .refl _
  | y :: ys => by
    unfold insL
    split
    · exact .refl _
    · exact ((insL_perm x ys).cons y).trans (.swap x y ys)
theorem sortL_perm (l : List α) : (sortL lt l).Perm l := by
  have z : ∀ (l acc : List α), (l.foldl (fun acc x => insL lt x acc) acc).Perm (acc ++ l) := by
    intro l
    induction l with
    | nil => intro acc; simp
    | cons x l ih =>
      intro acc
      refine (ih _).trans ?_
      refine ((insL_perm x acc).append_right l).trans ?_
      exact (List.perm_middle (a := x) (l₁ := acc) (l₂ := l)).symm
  have y := z l []
  rw [List.nil_append] at y
  exact y
theorem insL_srt (asym : ∀ {a b}, lt a b = true → lt b a = false) (tr : ∀ {a b c}, lt a b = false → lt b c = false → lt a c = false) (x : α) : ∀ {l : List α}, SrtB lt l → SrtB lt (insL lt x l)
  | [], _ => by unfold insL; exact List.pairwise_singleton _ _
  | y :: ys, h => by
    have h' := List.pairwise_cons.mp h
    unfold insL
    split
    · rename_i hx
      refine List.pairwise_cons.mpr ⟨fun z hz => ?_, h⟩
      rcases List.mem_cons.mp hz with rfl | hz
      · exact asym hx
      · exact tr (h'.1 z hz) (asym hx)
    · rename_i hx
      have hx : lt x y = false := by simpa using hx
      refine List.pairwise_cons.mpr ⟨fun z hz => ?_, insL_srt asym tr x h'.2⟩
      rcases List.mem_cons.mp ((insL_perm x ys).mem_iff.mp hz) with rfl | hz
      · exact hx
      · exact h'.1 z hz
theorem sortL_srt (asym : ∀ {a b}, lt a b = true → lt b a = false) (tr : ∀ {a b c}, lt a b = false → lt b c = false → lt a c = false) (l : List α) : SrtB lt (sortL lt l) := by
  have z : ∀ (l acc : List α), SrtB lt acc → SrtB lt (l.foldl (fun acc x => insL lt x acc) acc) := by
    intro l
    induction l with
    | nil => intro acc h; exact h
    | cons x l ih => intro acc h; exact ih (insL lt x acc) (insL_srt (lt := lt) asym tr x h)
  exact z l [] .nil
theorem srt_unique (tot : ∀ {a b}, lt a b = false → lt b a = false → a = b) : ∀ {l m : List α}, l.Perm m → SrtB lt l → SrtB lt m → l = m
  | [], m, p, _, _ => (List.nil_perm.mp p).symm
  | a :: l, [], p, _, _ => by have := p.length_eq; simp at this
  | a :: l, b :: m, p, h1, h2 => by
    have h1' := List.pairwise_cons.mp h1
    have h2' := List.pairwise_cons.mp h2
    have e : a = b := by
      rcases List.mem_cons.mp (p.mem_iff.mp (List.mem_cons_self (a := a) (l := l))) with e | ha
      · exact e
      · rcases List.mem_cons.mp (p.mem_iff.mpr (List.mem_cons_self (a := b) (l := m))) with e | hb
        · exact e.symm
        · exact tot (h2'.1 a ha) (h1'.1 b hb)
    subst e
    rw [srt_unique tot (List.Perm.cons_inv p) h1'.2 h2'.2]
end
/-! ### rows in the heap -/
def intV : Value → Int
  | .int i _ => i
  | _ => 0
def rowOf (h : Heap) : Value → List Int
  | .ref a => match h.get? a with
    | some o => match o.data with
      | .seq its _ => its.toList.map intV
      | _ => []
    | none => []
  | _ => []
def IsRow (h : Heap) (v : Value) (r : List Int) : Prop := ∃ a o its n, v = .ref a ∧ h.get? a = some o ∧ o.cls = .type "tuple" ∧ o.data = .seq its n ∧ Vals (r.map V.int) its.toList
theorem vals_intV : ∀ {r : List Int} {us : List Value}, Vals (r.map V.int) us → us.map intV = r
  | [], _, .nil => rfl
  | i :: r, _, .cons h t => by
    obtain ⟨t', rfl⟩ := h
    rw [List.map_cons, vals_intV t]
    rfl
theorem IsRow.of {h : Heap} {v : Value} {r : List Int} (x : IsRow h v r) : rowOf h v = r := by
  obtain ⟨a, o, its, n, rfl, ho, _, hd, rv⟩ := x
  unfold rowOf
  simp only [ho, hd]
  exact vals_intV rv
theorem IsRow.keeps {h h' : Heap} {v : Value} {r : List Int} (x : IsRow h v r) (k : ∀ b o, h.get? b = some o → o.cls = .type "tuple" → h'.get? b = some o) : IsRow h' v r :=
  let ⟨a, o, its, n, e, ho, hc, r⟩ := x; ⟨a, o, its, n, e, k a o ho hc, hc, r⟩
section
variable {prog : Program} {w : World} {A : Around} {s : Shared}
theorem row_lex {fin : Bool} : ∀ {xs ys : List Int} {us ws : List Value} (i : Nat) (Q : Bool → Shared → Prop), Vals (xs.map V.int) us → Vals (ys.map V.int) ws → (fin = true ↔ xs.length < ys.length) → Q (lexI xs ys) s →
    PySem.W.KatLex prog w A true fin Q (us.zip ws) i s
  | [], [], _, _, i, Q, .nil, .nil, hf, q => by
    have : fin = false := by cases fin with
      | false => rfl
      | true => exact absurd (hf.mp rfl) (by simp)
    rw [this]
    exact PySem.W.kat_nil q
  | [], y :: ys, _, _, i, Q, .nil, .cons _ _, hf, q => by
    have : fin = true := hf.mpr (by simp)
    rw [this]
    exact PySem.W.kat_nil q
  | x :: xs, [], _, _, i, Q, .cons _ _, .nil, hf, q => by
    have : fin = false := by cases fin with
      | false => rfl
      | true => exact absurd (hf.mp rfl) (by simp)
    rw [this]
    exact PySem.W.kat_nil q
  | x :: xs, y :: ys, _, _, i, Q, .cons h1 t1, .cons h2 t2, hf, q => by
    obtain ⟨t, rfl⟩ := h1
    obtain ⟨u, rfl⟩ := h2
    rw [lexI] at q
    refine PySem.W.kat_cons (SeqAt.EqAt.int_int x t y u prog w _ _ ?_)
    refine PySem.W.kat_go (fun e => ?_) (fun e => ?_)
    · have e' : x = y := by simpa using e
      rw [if_pos e'] at q
      exact PySem.W.kat_yes (row_lex (i + 1) Q t1 t2 (by simpa using hf) q)
    · have e' : ¬ x = y := by simpa using e
      rw [if_neg e'] at q
      refine PySem.W.kat_no ?_
      cases hb : (true && i == 0) with
      | true => exact oneLt_int q
      | false => exact PySem.W.kat_one _ _ (PyProof.Rows.lt_int q)
theorem row_cmp {vs : List Value} (hp : ∀ v ∈ vs, ∃ r, IsRow s.heap v r) : SrtO.Cmp prog w A s (tuples' true) (fun p => p.1 ∈ vs) (SrtO.lt2 fun v u => lexI (rowOf s.heap v) (rowOf s.heap u)) := by
  intro p q hm hm'
  obtain ⟨r1, h1⟩ := hp _ hm
  obtain ⟨r2, h2⟩ := hp _ hm'
  show wpAny (model prog w) A (keyLt' (tuples' true) p.1 q.1) (fun r s' => s' = s ∧ r = lexI (rowOf s.heap p.1) (rowOf s.heap q.1)) (fun _ _ => False) s
  rw [h1.of, h2.of]
  obtain ⟨a, o, its, n, e, ho, hc, hd, rv⟩ := h1
  obtain ⟨a', o', its', n', e', ho', hc', hd', rv'⟩ := h2
  rw [e, e']
  refine PySem.W.kat_lt ho hd ho' hd' (row_lex 0 _ rv rv' ?_ ⟨rfl, rfl⟩)
  have l1 := rv.length
  have l2 := rv'.length
  simp only [List.length_map, Array.length_toList] at l1 l2
  rw [decide_eq_true_eq]
  omega
theorem rows_first {h : Heap} : ∀ {vs : List Value}, (∀ v ∈ vs, ∃ r, IsRow h v r ∧ r ≠ []) → ∃ fs : List Value, PySem.W.KatTups h vs fs ∧ fs.length = vs.length ∧ ∀ f ∈ fs, ∃ x t, f = Value.int x t
  | [], _ => ⟨[], PySem.W.KatTups.nil, rfl, fun _ hm => by simp at hm⟩
  | v :: vs, hp => by
    obtain ⟨fs, h1, h2, h3⟩ := rows_first (vs := vs) fun u hm => hp u (List.mem_cons_of_mem _ hm)
    obtain ⟨r, ⟨a, o, its, n, e, ho, hc, hd, rv⟩, hr⟩ := hp v List.mem_cons_self
    subst e
    cases r with
    | nil => exact absurd rfl hr
    | cons i r =>
      obtain ⟨u, e1, e2⟩ : ∃ u, its[0]? = some u ∧ RelV (.int i) u := by
        obtain ⟨u, e1, e2⟩ := rv.get (i := 0) (x := .int i) (by rfl)
        exact ⟨u, by rw [← Array.getElem?_toList]; exact e1, e2⟩
      obtain ⟨t, rfl⟩ := e2
      refine ⟨.int i t :: fs, PySem.W.KatTups.cons ho hc hd e1 h1, by rw [List.length_cons, List.length_cons, h2], fun f hm => ?_⟩
      rcases List.mem_cons.mp hm with rfl | hm
      · exact ⟨i, t, rfl⟩
      · exact h3 f hm
theorem rows_sortable {a : Addr} {vs : List Value} (h0 : 0 < vs.length) (hp : ∀ v ∈ vs, ∃ r, IsRow s.heap v r ∧ r ≠ []) (ha : ∀ o, s.heap.get? a = some o → o.cls ≠ .type "tuple") : SrtO.SortableO prog w A s a vs fun v u => lexI (rowOf s.heap v) (rowOf s.heap u) := by
  intro h' keep
  have kp : ∀ v ∈ vs, ∃ r, IsRow h' v r ∧ r ≠ [] := fun v hm => let ⟨r, x, n⟩ := hp v hm; ⟨r, x.keeps fun b o e c => keep b o (fun z => by subst z; exact ha o e c) e, n⟩
  have same : ∀ v ∈ vs, rowOf h' v = rowOf s.heap v := fun v hm => by
    obtain ⟨r, x, n⟩ := hp v hm
    rw [x.of, (x.keeps fun b o e c => keep b o (fun z => by subst z; exact ha o e c) e).of]
  obtain ⟨fs, h1, h2, h3⟩ := rows_first kp
  refine ⟨tuples' true, fun Q E hq => ?_, fun p q hm hm' => ?_⟩
  · refine PySem.W.kat_kind (T := .type "int") h1 (by omega) (fun f hm => ?_) (by rfl) ?_
    · obtain ⟨x, t, rfl⟩ := h3 f hm
      exact PySem.W.Looks.now
    · have e : (Value.type "int" != Value.type "tuple") = true := by first | decide +kernel | rfl | decide
      rw [e]
      exact hq
  · have z := row_cmp (prog := prog) (w := w) (A := A) (s := { s with heap := h' }) (fun v hv => let ⟨r, x, _⟩ := kp v hv; ⟨r, x⟩) p q hm hm'
    unfold SrtO.lt2 at z ⊢
    simp only [same p.1 hm, same q.1 hm'] at z
    exact z
theorem swo_row (h : Heap) : SrtO.Swo fun v u => lexI (rowOf h v) (rowOf h u) :=
  ⟨fun x y h => lexI_asym h, fun x y z h1 h2 => lexI_neg h2 h1⟩
end
end MP
end
section
set_option Elab.async false
set_option linter.all false
set_option maxRecDepth 100000
set_option maxHeartbeats 1000000
/-! MPSoundE: subscripts, slices, dicts, built-in functions. -/
namespace MP
open PySem PySem.Spec PyProof.Rows L2
section
variable [RT] {b : Nat} {K : PySem.W.Frag} {ρ : List Addr} {S : Sto} {H : Hp}
/-! ### dicts -/
def RelOP (K : PySem.W.Frag) (ρ : List Addr) (H : Hp) : Option PV → Option V → Prop
  | some z, some w => RelP K ρ H z w
  | none, none => True
  | _, _ => False
theorem key_rel {y : PV} {v : V} {k : Key} (r : RelP K ρ H y v) (e : keyOf y = some k) : v = kV k := by
  unfold keyOf at e
  split at e
  · cases e; exact r.of_int
  · cases e; exact r.of_str
  · cases e
theorem dk_val {κ : Type} [DecidableEq κ] {kvs : List (κ × PV)} {ws : List (κ × V)} (r : Paired (fun (p : κ × PV) (q : κ × V) => p.1 = q.1 ∧ RelP K ρ H p.2 q.2) kvs ws) (k : κ) : RelOP K ρ H (valK kvs k) (valV ws k) := by
  induction r with
  | nil => exact trivial
  | @cons p q ps qs h t ih =>
    unfold valK valV at *
    rw [List.find?_cons, List.find?_cons, ← h.1]
    by_cases e : p.1 = k
    · simp only [e, decide_true]
      exact h.2
    · simp only [e, decide_false]
      exact ih
theorem dk_put {κ : Type} [DecidableEq κ] {kvs : List (κ × PV)} {ws : List (κ × V)} (r : Paired (fun (p : κ × PV) (q : κ × V) => p.1 = q.1 ∧ RelP K ρ H p.2 q.2) kvs ws) (k : κ) {v : PV} {w : V} (rv : RelP K ρ H v w) :
    Paired (fun (p : κ × PV) (q : κ × V) => p.1 = q.1 ∧ RelP K ρ H p.2 q.2) (MP.putK kvs k v) (L2.putK ws k w) := by
  have any : (kvs.any fun kv => decide (kv.1 = k)) = (ws.any fun kv => decide (kv.1 = k)) := by
    induction r with
    | nil => rfl
    | @cons p q ps qs h t ih => rw [List.any_cons, List.any_cons, ih, h.1]
  unfold MP.putK L2.putK
  rw [any]
  split
  · rename_i hh
    clear any hh
    induction r with
    | nil => exact .nil
    | @cons p q ps qs h t ih =>
      rw [List.map_cons, List.map_cons]
      refine .cons ?_ ih
      rw [← h.1]
      split
      · exact ⟨rfl, rv⟩
      · exact h
  · exact Paired.snoc r ⟨rfl, rv⟩
theorem DtOk.keys {kvs : List (List Int × PV)} {xs : List (List Int × Addr × Value)} (d : DtOk K ρ H kvs xs) : ∀ x ∈ xs, SqT K H x.2.1 (x.1.map V.int) := by
  have r := d.rel
  clear d
  induction r with
  | nil => intro x hx; cases hx
  | @cons p q ps qs h t ih =>
    intro x hx
    rcases List.mem_cons.mp hx with rfl | hx
    · rw [← h.1]; exact h.2.1
    · exact ih x hx
/-- what is at a key: in the table, at the heap -/
def RelAt (K : PySem.W.Frag) (ρ : List Addr) (H : Hp) : Option PV → Option (Addr × Value) → Prop
  | some z, some p => ∃ w, RelP K ρ H z w ∧ RelV w p.2
  | none, none => True
  | _, _ => False
theorem DtOk.val {kvs : List (List Int × PV)} {xs : List (List Int × Addr × Value)} (d : DtOk K ρ H kvs xs) (k : List Int) : RelAt K ρ H (valK kvs k) (atKey xs k) := by
  have r := d.rel
  clear d
  induction r with
  | nil => exact trivial
  | @cons p q ps qs h t ih =>
    unfold valK atKey at *
    rw [List.find?_cons, List.find?_cons, ← h.1]
    by_cases e : p.1 = k
    · simp only [e, decide_true]
      exact h.2.2
    · simp only [e, decide_false]
      exact ih
theorem DtOk.put {kvs : List (List Int × PV)} {xs : List (List Int × Addr × Value)} (d : DtOk K ρ H kvs xs) {k : List Int} {c : Addr} {v : PV} {w : V} {u : Value} (hc : SqT K H c (k.map V.int)) (rv : RelP K ρ H v w) (ru : RelV w u) : DtOk K ρ H (MP.putK kvs k v) (storedH xs k c u) := by
  have z := d.val k
  have r := d.rel
  have any : (kvs.any fun kv => decide (kv.1 = k)) = (atKey xs k).isSome := by
    have e : (kvs.any fun kv => decide (kv.1 = k)) = (valK kvs k).isSome := by
      unfold valK
      rw [Option.isSome_map, List.isSome_find?]
    rw [e]
    cases h1 : valK kvs k <;> cases h2 : atKey xs k <;> rw [h1, h2] at z <;> first | rfl | exact z.elim
  refine ⟨?_⟩
  unfold MP.putK storedH
  rw [any]
  split
  · rename_i hh
    clear any z d hh
    induction r with
    | nil => exact .nil
    | @cons p q ps qs h t ih =>
      rw [List.map_cons, List.map_cons]
      refine .cons ?_ ih
      unfold putAt
      rw [← h.1]
      split
      · exact ⟨h.1 ▸ rfl, h.1 ▸ h.2.1, w, rv, ru⟩
      · exact h
  · exact Paired.snoc r ⟨rfl, hc, w, rv, ru⟩
end
section
variable [RT] {b : Nat} {ρ : List Addr} {S : Sto} {H : Hp} {X : Cx} {pins : List (Addr × Obj)} {σ : L2.St} {s : Shared} {A : Around} {E : Value → Shared → Prop}
theorem itemsI {P : Program} {w : World} : ∀ {ks : List Int} {us : List Value}, Vals (ks.map V.int) us → ItemsAre (intKind P w) ks us
  | [], _, .nil => .nil
  | k :: ks, _, .cons h t => by
    obtain ⟨tk, rfl⟩ := h
    exact .cons (show Value.isInt k (.int k tk) = true by simp [Value.isInt]) (itemsI t)
theorem key_is (I : L2.Inv X pins σ H s) {c : Addr} {ks : List Int} (h : SqT X.K H c (ks.map V.int)) : (tupleKind (intKind X.prog X.w)).is s.heap ks c := by
  obtain ⟨its, r, ⟨o, ho, hc, n, hd⟩, _⟩ := I.tuple h
  exact ⟨o, its.toArray, n, ho, hc, hd, by simpa using itemsI r⟩
theorem dt_at (I : L2.Inv X pins σ H s) {a : Addr} {xs : List (List Int × Addr × Value)} (e : H a = some (dTO a xs)) (hk : ∀ x ∈ xs, SqT X.K H x.2.1 (x.1.map V.int)) : s.heap.DictOfH (tupleKind (intKind X.prog X.w)) a xs := by
  obtain ⟨⟨o, es, ep, h1, h2, h3, h4, h5⟩, _⟩ := (show ObjOk X.prog X.w H s.heap a (dTO a xs) from I.hok a _ e)
  exact ⟨o, es, ep, h1, h2, h3, by rw [h4, ← entI_eq], fun x hx => key_is I (hk x hx), h5⟩
theorem dt_new {h : Heap} {H' : Hp} {P : Program} {w : World} {a : Addr} {xs : List (List Int × Addr × Value)} (d : h.DictOfH (tupleKind (intKind P w)) a xs) : ObjOk P w H' h a (dTO a xs) := by
  obtain ⟨o, es, ep, h1, h2, h3, h4, _, h5⟩ := d
  rw [entI_eq] at h4
  exact ⟨⟨o, es, ep, h1, h2, h3, h4, h5⟩, ⟨o, h1⟩, fun g1 g2 ⟨o, es, ep, h1, r⟩ k => ⟨o, es, ep, k o h1, r⟩⟩
/-- a dict that is asked -/
theorem ask_of (so : StOk X.K b ρ S H) {j : Nat} {y : PV} {vy : V} {o : Option PV} {a : Addr} (ea : ρ[j]? = some a) (r : RelP X.K ρ H y vy) (h : dAsk S j y = some o) :
    (∃ ws k, H a = some (.dK ws) ∧ vy = kV k ∧ RelOP X.K ρ H o (valV ws k)) ∨
    ∃ xs k c, H a = some (dTO a xs) ∧ (∀ x ∈ xs, SqT X.K H x.2.1 (x.1.map V.int)) ∧ (a == sysModules) = false ∧ vy = .ref c ∧ SqT X.K H c (k.map V.int) ∧ RelAt X.K ρ H o (atKey xs k) := by
  unfold dAsk at h
  split at h
  · rename_i kvs e
    obtain ⟨ws, rw', hw⟩ := so.cell j _ a e ea
    cases q : keyOf y with
    | none => rw [q] at h; cases h
    | some k =>
      rw [q] at h
      cases h
      exact .inl ⟨ws, k, hw, key_rel r q, dk_val rw' k⟩
  · rename_i kvs e
    obtain ⟨xs, d, z1, z2, hw⟩ := so.cell j _ a e ea
    split at h
    · rename_i ys
      cases q : intsOf ys with
      | none => rw [q] at h; cases h
      | some k =>
        rw [q] at h
        cases h
        obtain ⟨c, vs, rfl, hc, rs⟩ := r.of_tup
        rw [ints_of rs q] at hc
        exact .inr ⟨xs, k, c, hw, d.keys, z2, rfl, hc, d.val k⟩
    · cases h
  · cases h
theorem g_item {Q : Value → Shared → Prop} {y : PV} {vy : V} {u : Value} {z : PV} (hu : A.units + 1 < cLine) (I : L2.Inv X pins σ H s) (so : StOk X.K b ρ S H) {j : Nat} {a : Addr} (ea : ρ[j]? = some a) (r : RelP X.K ρ H y vy) (ry : RelV vy u) (h : dAsk S j y = some (some z))
    (q : ∀ w' s' w, L2.Inv X pins σ H s' → RelP X.K ρ H z w → RelV w w' → Q w' s') : s.TypeIs (.ref a) "dict" ∧ wpAny (model X.prog X.w) A (getItem (.ref a) u) Q E s := by
  rcases ask_of so ea r h with ⟨ws, k, hw, rfl, ro⟩ | ⟨xs, k, c, hw, hk, z2, rfl, hc, ro⟩
  · cases e : valV ws k with
    | none => rw [e] at ro; exact ro.elim
    | some w =>
      rw [e] at ro
      have g : DGet H a (kV k) (some w) := by rw [← e]; exact DGet.k hw
      exact ⟨dict_typeIs I g, d_getItem hu I g ry fun w' s' I' rw' => q w' s' w I' ro rw'⟩
  · cases (show u = Value.ref c from ry)
    have dd := dt_at I hw hk
    cases e : atKey xs k with
    | none => rw [e] at ro; exact ro.elim
    | some p =>
      rw [e] at ro
      obtain ⟨w, r1, r2⟩ := ro
      exact ⟨dd.typeIs, wpAny_getItem_heap (tupleKind_room_in1 hu) (key_is I hc) dd e (q _ _ w (I.tok _) r1 r2)⟩
theorem g_get {Q : Value → Shared → Prop} {y x : PV} {vy vx : V} {u t : Value} {o : Option PV} (hu : A.units + 1 < cLine) (I : L2.Inv X pins σ H s) (so : StOk X.K b ρ S H) {j : Nat} {a : Addr} (ea : ρ[j]? = some a) (r : RelP X.K ρ H y vy) (ry : RelV vy u) (rx : RelP X.K ρ H x vx) (rt : RelV vx t)
    (h : dAsk S j y = some o) (q : ∀ w' s' w, L2.Inv X pins σ H s' → RelP X.K ρ H (o.getD x) w → RelV w w' → Q w' s') : wpAny (model X.prog X.w) A (call (.builtin "dict.get") [.ref a, u, t]) Q E s := by
  rcases ask_of so ea r h with ⟨ws, k, hw, rfl, ro⟩ | ⟨xs, k, c, hw, hk, z2, rfl, hc, ro⟩
  · refine d_get2 hu I (DGet.k hw) ry rt fun w' s' I' rw' => ?_
    cases e : valV ws k with
    | none =>
      rw [e] at ro rw'
      cases o with
      | none => exact q _ _ vx I' rx rw'
      | some z => exact ro.elim
    | some w =>
      rw [e] at ro rw'
      cases o with
      | none => exact ro.elim
      | some z => exact q _ _ w I' ro rw'
  · cases (show u = Value.ref c from ry)
    have dd := dt_at I hw hk
    refine call_meetsIn PySem.F.slot_dict_get dd.typeIs PySem.F.entry_dict_get (PySem.F.args_dict_get_3 _ _ _) (meetsH_dict_get_default (tupleKind (intKind X.prog X.w)) a c z2 t) ⟨tupleKind_room_in1 hu, k, xs, key_is I hc, dd, ?_⟩
    cases e : atKey xs k with
    | none =>
      rw [e] at ro
      cases o with
      | none => exact q _ _ vx (I.tok _) rx rt
      | some z => exact ro.elim
    | some p =>
      rw [e] at ro
      cases o with
      | none => exact ro.elim
      | some z => obtain ⟨w, r1, r2⟩ := ro; exact q _ _ w (I.tok _) r1 r2
theorem put_len {κ : Type} [DecidableEq κ] (kvs : List (κ × PV)) (k : κ) (v : PV) : (MP.putK kvs k v).length ≤ kvs.length + 1 := by
  unfold MP.putK
  split
  · simp
  · simp
theorem und_putK {κ : Type} [DecidableEq κ] {n : Nat} {k : κ} {v : PV} (hv : v.und n = true) : ∀ {kvs : List (κ × PV)}, PV.unds n (kvs.map (·.2)) = true → PV.unds n ((MP.putK kvs k v).map (·.2)) = true := by
  intro kvs h
  unfold MP.putK
  split
  · rename_i hh
    clear hh
    induction kvs with
    | nil => rfl
    | cons p ps ih =>
      have h' := Bool.and_eq_true_iff.mp (by simpa [PV.unds] using h)
      rw [List.map_cons, List.map_cons, PV.unds, Bool.and_eq_true]
      refine ⟨?_, ih h'.2⟩
      split
      · exact hv
      · exact h'.1
  · rw [List.map_append]
    have app : ∀ {xs : List PV}, PV.unds n xs = true → PV.unds n (xs ++ [v]) = true := by
      intro xs
      induction xs with
      | nil => intro _; simp [PV.unds, hv]
      | cons x xs ih =>
        intro h
        have h' := Bool.and_eq_true_iff.mp (by simpa [PV.unds] using h)
        simp [PV.unds, h'.1, ih h'.2]
    exact app h
/-- a dict that is written: what stands then -/
theorem g_put {Q : Unit → Shared → Prop} {y v : PV} {vy vv : V} {u t : Value} {c : Cell} (hu : A.units + 1 < cLine) (I : L2.Inv X pins σ H s) (so : StOk X.K b ρ S H) {j : Nat} {a : Addr} (ea : ρ[j]? = some a) (r : RelP X.K ρ H y vy) (ry : RelV vy u) (rv : RelP X.K ρ H v vv) (rt : RelV vv t)
    (h : dPut S j y v = some c) (q : ∀ s' H', L2.Inv X pins σ H' s' → Grow b ρ ρ S (S.wr b j c v.pure) H H' → StOk X.K b ρ (S.wr b j c v.pure) H' → Keep H H' → Q () s') : wpAny (model X.prog X.w) A (setItem (.ref a) u t) Q E s := by
  unfold dPut at h
  split at h
  · rename_i kvs e
    obtain ⟨ws, rw', hw⟩ := so.cell j _ a e ea
    split at h
    · rename_i hl
      cases qk : keyOf y with
      | none => rw [qk] at h; cases h
      | some k =>
        rw [qk] at h
        cases h
        obtain rfl := key_rel r qk
        have kp : Keep H (upd H a (.dK (L2.putK ws k vv))) := .wr hw trivial
        refine d_setItem hu I (DPut.k hw (by rw [line_eq, ← Paired.length rw']; exact hl)) ry rt fun s' I' => q s' _ I' ?_ ?_ kp
        · exact .writeC e ea kp fun n h1 h2 => by
            simp only [Cell.und] at h1 ⊢
            exact und_putK h2 h1
        · exact so.writeC e rfl ea kp ⟨_, Paired.mapP (dk_put rw' k rv) fun _ _ z => ⟨z.1, z.2.mono kp (List.prefix_refl _)⟩, upd_same⟩
    · cases h
  · rename_i kvs e
    obtain ⟨xs, d, z1, z2, hw⟩ := so.cell j _ a e ea
    split at h
    · rename_i ys
      split at h
      · rename_i hl
        cases qk : intsOf ys with
        | none => rw [qk] at h; cases h
        | some k =>
          rw [qk] at h
          cases h
          obtain ⟨cc, vs, rfl, hc, rs⟩ := r.of_tup
          rw [ints_of rs qk] at hc
          cases (show u = Value.ref cc from ry)
          have dd := dt_at I hw d.keys
          have dp := d.put hc rv rt
          have kp : Keep H (upd H a (dTO a (storedH xs k cc t))) := .wr hw trivial
          have lx : (storedH xs k cc t).length ≤ sizeLine := by
            rw [← Paired.length dp.rel]
            have := put_len kvs k v
            rw [line_eq]
            omega
          refine wpAny_setItem_heap (hsz := z1) (tupleKind_room_in1 hu) (key_is I hc) dd fun h' dd' hs => q _ _ (d_write I (by rw [hw]; exact True.intro) hs (let ⟨o, _, _, ho, _⟩ := dd'; ⟨o, ho⟩) (dt_new dd')) ?_ ?_ kp
          · exact .writeC e ea kp fun n h1 h2 => by
              simp only [Cell.und] at h1 ⊢
              exact und_putK h2 h1
          · exact so.writeC e rfl ea kp ⟨_, dp.keep kp (List.prefix_refl _), lx, z2, upd_same⟩
      · cases h
    · cases h
  · cases h
/-! ### subscripts and slices -/
def rI' (K : PySem.W.Frag) (b : Nat) : R2 := fun x y H Q => ∃ ρ S v u z, StOk K b ρ S H ∧ RelP K ρ H v x ∧ RelP K ρ H u y ∧ ixV S v u = some z ∧ ∀ w, RelP K ρ H z w → Q w H
theorem ix_ok (hu : X.A.units + 65 < cLine) : IxR X (rI' X.K b) := by
  intro value slice pins s σ H x y vx vy Q I rx ry h hs
  obtain ⟨ρ, S, v, u, z, so, rv, ru, hz, q⟩ := h
  unfold ixV at hz
  split at hz
  · obtain ⟨a, vs, rfl, h, rs⟩ := rv.of_tup
    obtain rfl := ru.of_int
    obtain ⟨w, h1, h2⟩ := atI_rel rs hz
    exact ix_seq value slice pins s σ H _ _ vx vy Q I rx ry (.inr (.inl ⟨a, vs, _, w, rfl, rfl, h, h1, q w h2⟩)) hs
  · obtain ⟨a, vs, rfl, h, rs⟩ := rv.of_lst
    obtain rfl := ru.of_int
    obtain ⟨w, h1, h2⟩ := atI_rel rs hz
    exact ix_seq value slice pins s σ H _ _ vx vy Q I rx ry (.inl ⟨a, vs, _, w, rfl, rfl, h.sq, h1, q w h2⟩) hs
  · rename_i zz ii
    obtain rfl := rv.of_str
    obtain rfl := ru.of_int
    split at hz
    · rename_i hl
      cases e : MP.itemAt zz.cps.toList ii with
      | none => rw [e] at hz; cases hz
      | some c =>
        rw [e] at hz
        cases hz
        exact ix_seq value slice pins s σ H _ _ vx vy Q I rx ry (.inr (.inr ⟨zz, ii, c, rfl, rfl, by rw [line_eq]; exact hl, e, q _ (.str _)⟩)) hs
    · cases hz
  · obtain ⟨a, rfl, ea⟩ := rv.of_ref
    split at hz
    · rename_i e
      obtain rfl := ru.of_int
      obtain ⟨vs, rs, hsq⟩ := so.sql e ea
      obtain ⟨w, h1, h2⟩ := atI_rel rs hz
      exact ix_seq value slice pins s σ H _ _ vx vy Q I rx ry (.inl ⟨a, vs, _, w, rfl, rfl, hsq, h1, q w h2⟩) hs
    · obtain ⟨o, e, hz⟩ := Option.bind_eq_some_iff.mp hz
      obtain rfl : o = some z := hz
      cases rx
      obtain ⟨ty, g⟩ := g_item (A := X.A) (E := X.xe) (Q := EP X pins σ Q) (by omega) I so ea ru ry e fun w' s' w I' r1 r2 => ⟨w, H, I', r2, q w r1⟩
      exact tail_any ty PySem.F.slot_dict_getitem.lookup g hs
    · cases hz
  · cases hz
def rSl (K : PySem.W.Frag) (b : Nat) : V → Option Int → Option Int → Hp → VK → Prop := fun x lo hi H Q => ∃ ρ S v z, StOk K b ρ S H ∧ RelP K ρ H v x ∧ slV S v lo hi = some z ∧ ResV K b ρ S H z Q
theorem sl_ok {T : Exc} {X : Cx} : SlR X (rSl X.K b) := by
  intro pins s σ H x v vl vu lo hi sl Q I rx hs pl pu h
  obtain ⟨ρ, S, v', z, so, rv, hz, h⟩ := h
  have lst : ∀ {a : Addr} {vs : List V} {xs : List PV}, x = .ref a → SqL X.K H a vs → RelPs X.K ρ H xs vs → z = .lst (cut xs lo hi) → ∃ T id, typeLookup (.type T) "__getitem__" = pure (some (.builtin id)) ∧ s.TypeIs v T ∧ wpAny (model X.prog X.w) X.A (getItem v (.ref sl)) (EP X pins σ Q) X.xe s := fun {a vs xs} ex hv rs ez => by
    subst ex ez
    rcases h with ⟨ys, ey, h⟩ | ⟨hn, _⟩
    · cases ey
      exact sl_list pins s σ H _ v vl vu lo hi sl Q I rx hs pl pu ⟨a, vs, rfl, hv, fun p hp => h p _ hp (cut_rel rs lo hi)⟩
    · exact absurd rfl (hn _)
  unfold slV at hz
  split at hz
  · cases hz
    obtain ⟨a, vs, rfl, hv, rs⟩ := rv.of_tup
    rcases h with ⟨ys, ey, _⟩ | ⟨_, h⟩
    · cases ey
    · refine sl_tupA pins s σ H _ v vl vu lo hi sl Q I rx hs pl pu ⟨a, vs, rfl, hv, fun ⟨e1, e2⟩ => ?_, fun _ p hp => ?_⟩
      · rw [edge_eq, ← rs.length] at e1 e2
        rw [cut_whole e1 e2] at h
        exact h _ _ .refl so (.tup hv rs)
      · exact h _ _ (.alloc hp) (so.alloc hp) (.tup (SqT.of upd_same) ((cut_rel rs lo hi).mono (.new hp) (List.prefix_refl _)))
  · cases hz
    obtain ⟨a, vs, rfl, hv, rs⟩ := rv.of_lst
    exact lst rfl hv.sq rs rfl
  · obtain ⟨a, rfl, ea⟩ := rv.of_ref
    cases e : S.lst? _ with
    | none => rw [e] at hz; cases hz
    | some xs =>
      rw [e] at hz
      cases hz
      obtain ⟨vs, rs, hv⟩ := so.sql e ea
      exact lst rfl hv rs rfl
  · obtain rfl := rv.of_str
    split at hz
    · rename_i hl
      cases hz
      rcases h with ⟨ys, ey, _⟩ | ⟨_, h⟩
      · cases ey
      · refine sl_str pins s σ H _ v vl vu lo hi sl Q I rx hs pl pu ⟨_, rfl, by rw [line_eq]; exact hl, h _ _ .refl so ?_⟩
        unfold cutS
        simp only [edge_eq, cut, Array.length_toList]
        exact .str _
    · cases hz
  · cases hz
end
end MP
end
section
set_option Elab.async false
set_option linter.all false
set_option maxRecDepth 100000
set_option maxHeartbeats 1000000
/-! MPSoundF: built-in functions. -/
namespace MP
open PySem PySem.Spec PyProof.Rows L2
section
variable [RT] {b : Nat} {ρ : List Addr} {S : Sto} {H : Hp} {X : Cx} {pins : List (Addr × Obj)} {σ : L2.St} {s : Shared}
theorem is_row (I : L2.Inv X pins σ H s) {c : Addr} {r : List Int} (h : SqT X.K H c (r.map V.int)) : IsRow s.heap (.ref c) r := by
  obtain ⟨its, rv, ⟨o, ho, hc, n, hd⟩, _⟩ := I.tuple h
  exact ⟨c, o, its.toArray, n, rfl, ho, hc, hd, by simpa using rv⟩
def RowsAt (K : PySem.W.Frag) (H : Hp) : List (List Int) → List Addr → Prop := Paired fun r c => SqT K H c (r.map V.int)
theorem RowsAt.mem {K : PySem.W.Frag} {rs : List (List Int)} {cs : List Addr} (x : RowsAt K H rs cs) : ∀ c ∈ cs, ∃ r ∈ rs, SqT K H c (r.map V.int) := by
  unfold RowsAt at x
  induction x with
  | nil => intro c hc; cases hc
  | @cons p q ps qs h t ih =>
    intro c hc
    rcases List.mem_cons.mp hc with rfl | hc
    · exact ⟨p, List.mem_cons_self, h⟩
    · obtain ⟨r, h1, h2⟩ := ih c hc
      exact ⟨r, List.mem_cons_of_mem _ h1, h2⟩
/-- what the sorter gives, as rows -/
theorem rows_out (I : L2.Inv X pins σ H s) {rs : List (List Int)} {cs : List Addr} (x : RowsAt X.K H rs cs) {h₁ : Heap} (kp : ∀ b o, s.heap.get? b = some o → h₁.get? b = some o) {out : List Value} (h1 : SrtO.Srtd (fun v u => lexI (rowOf h₁ v) (rowOf h₁ u)) out) (hp : out.Perm (cs.map Value.ref)) :
    ∃ ds : List Addr, out = ds.map Value.ref ∧ RowsAt X.K H (sortL lexI rs) ds := by
  have row : ∀ {c : Addr} {r : List Int}, SqT X.K H c (r.map V.int) → rowOf h₁ (.ref c) = r := fun {c r} h => ((is_row I h).keeps fun b o e _ => kp b o e).of
  have all : ∀ v ∈ out, ∃ c, v = Value.ref c ∧ SqT X.K H c ((rowOf h₁ v).map V.int) := fun v hv => by
    obtain ⟨c, hc, rfl⟩ := List.mem_map.mp (hp.mem_iff.mp hv)
    obtain ⟨r, _, h⟩ := x.mem c hc
    exact ⟨c, rfl, by rw [row h]; exact h⟩
  have e1 : (cs.map Value.ref).map (rowOf h₁) = rs := by
    clear hp all h1
    unfold RowsAt at x
    induction x with
    | nil => rfl
    | @cons p q ps qs h t ih => rw [List.map_cons, List.map_cons, ih, row h]
  have pm : (out.map (rowOf h₁)).Perm rs := by
    have z := hp.map (rowOf h₁)
    rw [e1] at z
    exact z
  have so : SrtB lexI (out.map (rowOf h₁)) := List.pairwise_map.mpr h1
  have eq : out.map (rowOf h₁) = sortL lexI rs := srt_unique (fun h h' => lexI_tot h h') (pm.trans (sortL_perm rs).symm) so (sortL_srt (lt := lexI) (fun {a b} h => lexI_asym h) (fun {a b c} h h' => lexI_neg h h') rs)
  rw [← eq]
  clear eq so pm hp h1 e1
  induction out with
  | nil => exact ⟨[], rfl, .nil⟩
  | cons v out ih =>
    obtain ⟨ds, e, r⟩ := ih fun u hu => all u (List.mem_cons_of_mem _ hu)
    obtain ⟨c, e2, h⟩ := all v List.mem_cons_self
    refine ⟨c :: ds, by rw [List.map_cons, e, e2], ?_⟩
    rw [List.map_cons]
    exact Paired.cons h r
theorem rows_rel {K : PySem.W.Frag} : ∀ {rs : List (List Int)} {cs : List Addr}, RowsAt K H rs cs → RelPs K ρ H (rs.map rowPV) (cs.map V.ref)
  | _, _, .nil => .nil
  | _, _, .cons h t => .cons (.tup h (ints_rel _)) (rows_rel t)
where ints_rel : ∀ r : List Int, RelPs K ρ H (r.map PV.int) (r.map V.int)
  | [] => .nil
  | i :: r => .cons (.int i) (ints_rel r)
theorem rows_of {K : PySem.W.Frag} : ∀ {xs : List PV} {vs : List V} {rs : List (List Int)}, RelPs K ρ H xs vs → rowsOf xs = some rs → ∃ cs, vs = cs.map V.ref ∧ RowsAt K H rs cs ∧ ∀ r ∈ rs, r ≠ []
  | [], _, rs, .nil, e => by cases e; exact ⟨[], rfl, .nil, fun r hr => by cases hr⟩
  | x :: xs, _, rs, .cons r t, e => by
    cases x with
    | tup ys =>
      cases q : intsOf ys with
      | none => simp [rowsOf, q] at e
      | some y =>
        cases q2 : rowsOf xs with
        | none => simp [rowsOf, q, q2] at e
        | some rs2 =>
          simp only [rowsOf, q, q2] at e
          split at e
          · cases e
          · rename_i hy
            cases e
            obtain ⟨cs, rfl, h1, h2⟩ := rows_of t q2
            obtain ⟨c, vs, rfl, hc, rr⟩ := r.of_tup
            rw [ints_of rr q] at hc
            refine ⟨c :: cs, rfl, .cons hc h1, fun r hr => ?_⟩
            rcases List.mem_cons.mp hr with rfl | hr
            · intro z; subst z; exact hy rfl
            · exact h2 r hr
    | _ => simp [rowsOf] at e
theorem vals_refs' : ∀ {cs : List Addr} {us : List Value}, Vals (cs.map V.ref) us → us = cs.map Value.ref
  | [], _, .nil => rfl
  | c :: cs, _, .cons h t => by
    cases h
    rw [vals_refs' t, List.map_cons]
/-- sorted(xs), rows of ints -/
theorem sorted_rows {Q : VK} {E : Value → Shared → Prop} (I : L2.Inv X pins σ H s) {a : Addr} {rs : List (List Int)} {cs : List Addr} (hs : SqL X.K H a (cs.map V.ref)) (x : RowsAt X.K H rs cs) (hr : ∀ r ∈ rs, r ≠ [])
    (q : ∀ p ds, H p = none → RowsAt X.K H (sortL lexI rs) ds → Q (.ref p) (upd H p (.lst (ds.map V.ref)))) : wpAny (model X.prog X.w) X.A (call (.builtin "sorted") [.ref a]) (EP X pins σ Q) E s := by
  obtain ⟨its, rv, hl, hz⟩ := I.list hs
  obtain rfl := vals_refs' rv
  have rows : ∀ v ∈ cs.map Value.ref, ∃ r, IsRow s.heap v r ∧ r ≠ [] := fun v hv => by
    obtain ⟨c, hc, rfl⟩ := List.mem_map.mp hv
    obtain ⟨r, h1, h2⟩ := x.mem c hc
    exact ⟨r, is_row I h2, hr r h1⟩
  have hz' : (cs.map Value.ref).length ≤ sizeLine := by rw [List.length_map] at hz ⊢; exact hz
  refine SrtO.sorted_ord (swo_row s.heap) hl.isList hz' (fun h2 h₁ a' ha kk => ?_) fun out h1 h2 => ?_
  · have z := rows_sortable (prog := X.prog) (w := X.w) (A := X.A.in1.in1) (s := { s with heap := h₁ }) (a := a') (vs := cs.map Value.ref) (by omega) (fun v hv => by
      obtain ⟨r, y, n⟩ := rows v hv
      exact ⟨r, y.keeps fun b o e _ => (kk b o e).2, n⟩) fun o e => by
        have e' : some o = some (seqObj "list" (cs.map Value.ref).toArray 0) := e.symm.trans ha
        cases e'
        intro c
        exact absurd (Value.type.inj c) (by decide)
    have same : ∀ v ∈ cs.map Value.ref, rowOf h₁ v = rowOf s.heap v := fun v hv => by
      obtain ⟨r, y, n⟩ := rows v hv
      rw [y.of, (y.keeps fun b o e _ => (kk b o e).2).of]
    intro h' keep
    obtain ⟨κ, g1, g2⟩ := z h' keep
    refine ⟨κ, g1, fun p' q' hm hm' => ?_⟩
    have y := g2 p' q' hm hm'
    unfold SrtO.lt2 at y ⊢
    simp only [same p'.1 hm, same q'.1 hm'] at y
    exact y
  · obtain ⟨ds, e, xd⟩ := rows_out I x (h₁ := s.heap) (fun _ _ e => e) h1 h2.perm
    obtain ⟨ep, he'⟩ := PyProof.Rows.sortedAll_at s.heap (cs.map Value.ref) out.toArray
    have hlen : (ds.map V.ref).length ≤ sizeLine := by
      have l := h2.perm.length_eq
      rw [e, List.length_map] at l
      rw [List.length_map, l]
      exact hz'
    refine ⟨.ref _, upd H (s.heap.objs.size + 1) (.lst (ds.map V.ref)), I.laid (t' := s.toks) (fun _ _ => PyProof.Rows.sortedAll_old) (Nat.le_succ _) ⟨hlen, out, ep, by rw [e]; exact vals_refs ds, he'⟩, rfl, q _ _ (I.hok.fresh (Nat.le_succ _)) xd⟩
/-- the keys of a dict, collected -/
theorem keys_acc {es : Array DictEntry} {xs : List (List Int × Addr × Value)} (he : es.toList = xs.map entI) {acc : Array Value} (h : ItemsOf (fun i v => ∃ en : DictEntry, es[i]? = some en ∧ v = en.key) acc es.size) : acc.toList = (xs.map fun x => x.2.1).map Value.ref := by
  have l1 : es.size = xs.length := by rw [← Array.length_toList, he, List.length_map]
  have hl : acc.toList.length = xs.length := by rw [Array.length_toList, h.1, l1]
  rw [List.map_map]
  apply List.ext_getElem?
  intro j
  rw [List.getElem?_map]
  cases hj : acc.toList[j]? with
  | none =>
    have h1 := List.getElem?_eq_none_iff.mp hj
    rw [List.getElem?_eq_none (by omega)]
    rfl
  | some v =>
    obtain ⟨en, hen, hv⟩ := h.2 j v (by rw [← Array.getElem?_toList]; exact hj)
    have qe : es[j]? = (xs[j]?).map entI := by rw [← Array.getElem?_toList, he, List.getElem?_map]
    rw [hen] at qe
    cases hb : xs[j]? with
    | none => rw [hb] at qe; cases qe
    | some y =>
      rw [hb] at qe
      have e2 : en = entI y := Option.some.inj qe
      rw [hv, e2]
      rfl
theorem dt_rows {K : PySem.W.Frag} {kvs : List (List Int × PV)} {xs : List (List Int × Addr × Value)} (d : DtOk K ρ H kvs xs) : RowsAt K H (kvs.map (·.1)) (xs.map fun x => x.2.1) := by
  have r := d.rel
  clear d
  unfold RowsAt
  induction r with
  | nil => exact .nil
  | @cons p q ps qs h t ih => exact .cons h.2.1 ih
/-- list(d) -/
theorem list_dT {Q : VK} (hc : X.calm = true) (I : L2.Inv X pins σ H s) {a : Addr} {kvs : List (List Int × PV)} {xs : List (List Int × Addr × Value)} (d : DtOk X.K ρ H kvs xs) (hl : xs.length ≤ sizeLine) (hm : (a == sysModules) = false) (ha : H a = some (dTO a xs))
    (q : ∀ p ds, H p = none → RowsAt X.K H (kvs.map (·.1)) ds → Q (.ref p) (upd H p (.lst (ds.map V.ref)))) {us : List Value} (hu : us = [.ref a]) : wpAny (model X.prog X.w) X.A (call (.type "list") us) (EP X pins σ Q) X.xe s := by
  subst hu
  obtain ⟨⟨o, es, ep, ho, hx, hdt, he, hn⟩, _⟩ := (show ObjOk X.prog X.w H s.heap a (dTO a xs) from I.hok a _ ha)
  have l1 : es.size = xs.length := by rw [← Array.length_toList, he, List.length_map]
  refine PySem.W.kdl_call (kdl_raw hm hx hdt) (I.ok.hd hc) ho (by omega) fun h' tk acc' c' kp e it => ?_
  have eb := keys_acc he it
  refine ⟨.ref s.heap.objs.size, _, I.laid (t' := tk) (o := .lst ((xs.map fun x => x.2.1).map V.ref)) kp (Nat.le_refl _) ?_, rfl, q _ _ (I.hok.fresh (Nat.le_refl _)) (dt_rows d)⟩
  exact ⟨by rw [List.length_map, List.length_map]; exact hl, acc'.toList, c', by rw [eb]; exact vals_refs _, by rw [Array.toArray_toList]; exact e⟩
/-- sorted(d) -/
theorem sorted_dT {Q : VK} (hc : X.calm = true) (I : L2.Inv X pins σ H s) {a : Addr} {kvs : List (List Int × PV)} {xs : List (List Int × Addr × Value)} (d : DtOk X.K ρ H kvs xs) (hl : xs.length ≤ sizeLine) (hm : (a == sysModules) = false) (ha : H a = some (dTO a xs)) (hr : ∀ p ∈ kvs, p.1 ≠ [])
    (q : ∀ p ds, H p = none → RowsAt X.K H (sortL lexI (kvs.map (·.1))) ds → Q (.ref p) (upd H p (.lst (ds.map V.ref)))) {us : List Value} (hu : us = [.ref a]) : wpAny (model X.prog X.w) X.A (call (.builtin "sorted") us) (EP X pins σ Q) X.xe s := by
  subst hu
  obtain ⟨⟨o, es, ep, ho, hx, hdt, he, hn⟩, _⟩ := (show ObjOk X.prog X.w H s.heap a (dTO a xs) from I.hok a _ ha)
  have l1 : es.size = xs.length := by rw [← Array.length_toList, he, List.length_map]
  refine Calls.call_function_entry PyProof.Rows.kind_sorted PyProof.Rows.plain_sorted PyProof.Rows.entry_sorted (PyProof.Rows.args_sorted1 _) ?_
  unfold Builtin.«sorted»
  refine wpAny_bind (m := checkCount "sorted" 1 1 _) (wpAny_pure ?_)
  refine wpAny_bind (PySem.W.kdu_collect (A := X.A.in1) (kdl_raw hm hx hdt) (I.ok.hd hc) ho (by omega) fun h' tk acc hk hacc => ?_)
  have eb := keys_acc he hacc
  have I1 : L2.Inv X pins σ H { s with heap := h', toks := tk } := I.kept hk
  have al : acc.toList.length = xs.length := by rw [eb, List.length_map, List.length_map]
  refine wpAny_bind (wpAny_newList ?_ (by rw [al]; exact hl))
  have hoL : (h'.push (seqObj "list" acc.toList.toArray 0)).get? h'.objs.size = some (seqObj "list" acc.toList.toArray 0) := Heap.get?_push_size _ rfl
  show wpAny _ _ _ _ _ { s with heap := h'.push (seqObj "list" acc.toList.toArray 0), toks := tk }
  have x := dt_rows d
  have kp2 : ∀ b o, h'.get? b = some o → (h'.push (seqObj "list" acc.toList.toArray 0)).get? b = some o := fun b o e => Heap.get?_push_of_some _ e
  have rows : ∀ v ∈ acc.toList, ∃ r, IsRow (h'.push (seqObj "list" acc.toList.toArray 0)) v r ∧ r ≠ [] := fun v hv => by
    rw [eb] at hv
    obtain ⟨c, hc, rfl⟩ := List.mem_map.mp hv
    obtain ⟨r, h1, h2⟩ := x.mem c hc
    obtain ⟨p, hp, rfl⟩ := List.mem_map.mp h1
    exact ⟨_, (is_row I1 h2).keeps fun b o e _ => kp2 b o e, hr p hp⟩
  refine wpAny_bind (wpAny_holding (wpAny_call_entry PyProof.Rows.slot_list_sort ⟨_, hoL, rfl⟩ PyProof.Rows.entry_list_sort
    (SrtO.list_sort_ord (s := { s with heap := h'.push (seqObj "list" acc.toList.toArray 0), toks := tk }) (swo_row _) hoL (by rw [al]; exact hl) (fun h2 => rows_sortable (by omega) rows fun o e => by
      have e' : some o = some (seqObj "list" acc.toList.toArray 0) := e.symm.trans hoL
      cases e'
      intro c
      exact absurd (Value.type.inj c) (by decide)) fun out h1 h2 => ⟨_, rfl, ?_⟩) (PyProof.Rows.args_list_sort _)))
  obtain ⟨ds, e, xd⟩ := rows_out I1 x kp2 h1 (by rw [← eb]; exact h2.perm)
  obtain ⟨e', he'⟩ := PyProof.Rows.sortedHeap_at (vs := acc.toList) (out := out.toArray) hoL
  have hlen : (ds.map V.ref).length ≤ sizeLine := by
    have l := h2.perm.length_eq
    rw [e, List.length_map] at l
    rw [List.length_map, l, al]
    exact hl
  refine wpAny_pure ⟨_, rfl, .ref h'.objs.size, upd H h'.objs.size (.lst (ds.map V.ref)), I1.laid (t' := tk) (fun b u e => ?_) (Nat.le_refl _) (show ObjOk X.prog X.w _ _ _ (.lst (ds.map V.ref)) from ⟨hlen, out, e', by rw [e]; exact vals_refs ds, he'⟩), rfl, q _ _ (I1.hok.fresh (Nat.le_refl _)) xd⟩
  have hb : b < h'.objs.size := Heap.lt_size e
  rw [PyProof.Rows.sortedHeap_old (Nat.ne_of_lt hb) (by rw [size_push']; exact Nat.lt_succ_of_lt hb)]
  exact Heap.get?_push_of_some _ e
/-- sum(t), a tuple of ints -/
theorem sum_tup {Q : VK} (hc : X.calm = true) (I : L2.Inv X pins σ H s) {a : Addr} {ns : List Int} (ha : SqT X.K H a (ns.map V.int)) (q : Q (.int ns.sum) H) {us : List Value} (hu : us = [.ref a]) : wpAny (model X.prog X.w) X.A (call (.builtin "sum") us) (EP X pins σ Q) X.xe s := by
  subst hu
  obtain ⟨its, rv, ht, _⟩ := I.tuple ha
  obtain ⟨ys, e⟩ := rv.ints.allInts.items
  have hn : numsOf (intItems ys).toList = ns := by rw [← e]; exact rv.ints.numsOf
  rw [nums_intItems] at hn
  have lt : a < s.heap.objs.size := let ⟨o, ho, _⟩ := ht; Heap.lt_size ho
  refine PySem.call_sum_walkAnyS (wpAny_pyIter_tuple (show s.heap.IsTuple a its.toArray from ht) ?_)
  rw [e] at ht
  refine ⟨_, _, _, _, _, _, _, numAt ys, rfl, (Walks.tuple (A := X.A.in1) (I.ok.hd hc) s.heap.objs.size a (Nat.ne_of_lt lt) (intItems ys)).toS, ⟨⟨_, Heap.get?_push_size _ rfl, rfl, rfl⟩, (show s.heap.IsTuple a (intItems ys) from ht).at fun o e => Heap.get?_push_of_some _ e⟩, fun bb hb => ?_, fun _ _ => intItems_at, fun s' t' hm => ?_⟩
  · have e' : bb = s.heap.objs.size ∨ bb = a := by simpa using hb
    show bb < (s.heap.push _).objs.size
    rw [size_push']
    rcases e' with rfl | rfl
    · exact Nat.lt_succ_self _
    · exact Nat.lt_succ_of_lt lt
  · have kp : ∀ bb o, s.heap.get? bb = some o → s'.heap.get? bb = some o := fun bb o h => hm.heap bb o (fun z => by
      have z' : bb = s.heap.objs.size := by simpa using z
      rw [z'] at h
      exact absurd (Heap.lt_size h) (Nat.lt_irrefl _)) (Heap.get?_push_of_some _ h)
    have g : s'.gens = s.gens := hm.gens
    have d : s'.drawn = s.drawn := hm.drawn
    have o : s'.os = s.os := hm.os
    obtain ⟨hp, gs, dr, tk, os⟩ := s'
    simp only at g d o kp
    subst g d o
    refine ⟨.int ns.sum, H, I.kept (t' := tk) kp, ⟨t', ?_⟩, q⟩
    rw [preSum_eq, List.take_of_length_le (by simp [intItems]), hn]
end
end MP
end
section
set_option Elab.async false
set_option linter.all false
set_option maxRecDepth 100000
/-! MPSound4: built-in functions; an expression's text and its run. -/
namespace MP
open PySem PySem.Spec PyProof.Rows L2
theorem CallR.weak {X : Cx} {f : Value} {r r' : List V → Hp → VK → Prop} (h : CallR X f r) (w : ∀ xs H Q, r' xs H Q → r xs H Q) : CallR X f r' := fun pins s σ H xs us Q I rx q => h pins s σ H xs us Q I rx (w xs H Q q)
section
variable [RT] {K : PySem.W.Frag} {b : Nat} {ρ : List Addr} {S : Sto} {H : Hp}
def rBi (K : PySem.W.Frag) (b : Nat) (f : Bi) : List V → Hp → VK → Prop := fun vs H Q => ∃ ρ S xs z, StOk K b ρ S H ∧ RelPs K ρ H xs vs ∧ biV S f xs = some z ∧ ResV K b ρ S H z Q
/-- what a built-in's number stands for -/
def biVal : Bi → Value
  | .abs => .builtin "abs"
  | .int => .type "int"
  | .len => .builtin "len"
  | .list => .type "list"
  | .tuple => .type "tuple"
  | .gcd => .builtin "math.gcd"
  | .max2 => .builtin "max"
  | .min2 => .builtin "min"
  | .str => .type "str"
  | .sum => .builtin "sum"
  | .sorted => .builtin "sorted"
  | .all => .builtin "all"
  | .any => .builtin "any"
  | .bool => .type "bool"
  | .maxL => .builtin "max"
  | .minL => .builtin "min"
theorem bls_of : ∀ {xs : List PV} {vs : List V} {ns : List Bool}, RelPs K ρ H xs vs → blsOf xs = some ns → vs = ns.map V.bl
  | [], _, ns, .nil, e => by cases e; rfl
  | x :: xs, _, ns, .cons r t, e => by
    cases x with
    | bl i =>
      cases q : blsOf xs with
      | none => simp [blsOf, q] at e
      | some ms =>
        have e' : i :: ms = ns := by simpa [blsOf, q] using e
        subst e'
        obtain rfl := r.of_bl
        rw [bls_of t q]
        rfl
    | _ => simp [blsOf] at e
theorem ints_rel {K : PySem.W.Frag} : ∀ r : List Int, RelPs K ρ H (r.map PV.int) (r.map V.int)
  | [] => .nil
  | i :: r => .cons (.int i) (ints_rel r)
theorem sort_ints {ns ns' : List Int} (h1 : ns'.Perm ns) (h2 : ns'.Pairwise (· ≤ ·)) : ns' = sortL (fun a b => decide (a < b)) ns := by
  refine srt_unique (lt := fun (a b : Int) => decide (a < b)) (fun {a b} h h' => ?_) (h1.trans (sortL_perm ns).symm) (h2.imp fun {a b} h => decide_eq_false (by omega)) (sortL_srt (lt := fun (a b : Int) => decide (a < b)) (fun {a b} h => ?_) (fun {a b c} h h' => ?_) ns)
  · have h := of_decide_eq_false h
    have h' := of_decide_eq_false h'
    omega
  · have h := of_decide_eq_true h
    exact decide_eq_false (by omega)
  · have h := of_decide_eq_false h
    have h' := of_decide_eq_false h'
    exact decide_eq_false (by omega)
/-- sorted(xs) -/
theorem sorted_seq {X : Cx} {pins : List (Addr × Obj)} {σ : L2.St} {s : Shared} {Q : VK} {us : List Value} (I : L2.Inv X pins σ H s) {a : Addr} {xs ys : List PV} {vs : List V} (rv : Vals [V.ref a] us) (hs : SqL X.K H a vs) (rs : RelPs X.K ρ H xs vs) (e : sortV xs = some ys)
    (h : ∀ p ws, H p = none → RelPs X.K ρ H ys ws → Q (.ref p) (upd H p (.lst ws))) : wpAny (model X.prog X.w) X.A (call (.builtin "sorted") us) (EP X pins σ Q) X.xe s := by
  unfold sortV at e
  split at e
  · rename_i ns q
    cases e
    rw [ints_of rs q] at hs
    exact cr_sortedI pins s σ H _ us Q I rv ⟨a, ns, rfl, hs, fun ns' p h1 h2 hp => h p _ hp (by rw [sort_ints h1 h2]; exact ints_rel _)⟩
  · cases q : rowsOf xs with
    | none => rw [q] at e; cases e
    | some rs' =>
      rw [q] at e
      cases e
      obtain ⟨cs, rfl, h1, h2⟩ := rows_of rs q
      obtain ⟨u, rfl, ru⟩ := vals1 rv
      cases ru
      exact sorted_rows I hs h1 h2 fun p ds hp xd => h p _ hp (rows_rel xd)
theorem bi_ok {X : Cx} (hc : X.calm = true) (f : Bi) : CallR X (biVal f) (rBi X.K b f) := by
  intro pins s σ H vs us Q I rv h
  obtain ⟨ρ, S, xs, z, so, rs, hz, h⟩ := h
  have nl : ∀ {w : V}, (∀ xs, z ≠ .lst xs) → RelP X.K ρ H z w → Q w H := fun {w} n r => h.val so n r
  unfold biV at hz
  split at hz
  · cases hz
    obtain ⟨v, rfl, r⟩ := rs.one
    obtain rfl := r.of_int
    exact call_abs pins s σ H _ us Q I rv ⟨_, rfl, nl (fun _ e => by cases e) (.int _)⟩
  · cases hz
    obtain ⟨v, rfl, r⟩ := rs.one
    obtain rfl := r.of_int
    exact call_int1 pins s σ H _ us Q I rv (.inl ⟨_, rfl, nl (fun _ e => by cases e) (.int _)⟩)
  · cases hz
    obtain ⟨v, rfl, r⟩ := rs.one
    obtain rfl := r.of_bl
    exact call_int1 pins s σ H _ us Q I rv (.inr ⟨_, rfl, nl (fun _ e => by cases e) (.int _)⟩)
  · obtain ⟨v, rfl, r⟩ := rs.one
    obtain rfl := r.of_str
    split at hz
    · rename_i hl
      obtain ⟨n, hn, hz⟩ := Option.map_eq_some_iff.mp hz
      subst hz
      exact call_int_str pins s σ H _ us Q I rv ⟨_, n, rfl, hn, hl, nl (fun _ e => by cases e) (.int _)⟩
    · cases hz
  · cases hz
    obtain ⟨v, rfl, r⟩ := rs.one
    obtain ⟨a, ws, rfl, hs, rw'⟩ := r.of_tup
    refine call_len_seq pins s σ H _ us Q I rv ⟨a, ws, rfl, .inr hs, ?_⟩
    rw [← rw'.length]
    exact nl (fun _ e => by cases e) (.int _)
  · obtain ⟨v, rfl, r⟩ := rs.one
    obtain rfl := r.of_str
    split at hz
    · rename_i hl
      cases hz
      exact call_len_str pins s σ H _ us Q I rv ⟨_, rfl, by rw [line_eq]; exact hl, nl (fun _ e => by cases e) (.int _)⟩
    · cases hz
  · obtain ⟨v, rfl, r⟩ := rs.one
    obtain ⟨ys, e, hz⟩ := Option.map_eq_some_iff.mp hz
    subst hz
    obtain ⟨a, ws, rfl, hs, rw'⟩ := lst_of so r e
    refine call_len_seq pins s σ H _ us Q I rv ⟨a, ws, rfl, .inl hs, ?_⟩
    rw [← rw'.length]
    exact nl (fun _ e => by cases e) (.int _)
  · obtain ⟨v, rfl, r⟩ := rs.one
    obtain ⟨a, rfl, ea⟩ := r.of_ref
    split at hz
    · rename_i ys e
      cases hz
      obtain ⟨ws, rw', hs⟩ := so.cell _ _ a e ea
      exact call_list_of pins s σ H _ us Q I rv ⟨a, ws, rfl, .inl (SqL.of hs), fun p hp => h.new hp rw'⟩
    · rename_i ys e
      cases hz
      obtain ⟨ws, rw', hs⟩ := so.cell _ _ a e ea
      exact call_list_of pins s σ H _ us Q I rv ⟨a, ws, rfl, .inl (.inl (.inr hs)), fun p hp => h.new hp rw'⟩
    · rename_i kvs e
      cases hz
      obtain ⟨xs, d, z1, z2, hw⟩ := so.cell _ _ a e ea
      obtain ⟨u, rfl, ru⟩ := vals1 rv
      cases ru
      refine list_dT hc I d z1 z2 hw (fun p ds hp xd => h.new hp ?_) rfl
      have z := rows_rel (ρ := ρ) xd
      rw [List.map_map] at z
      exact z
    · cases hz
  · obtain ⟨v, rfl, r⟩ := rs.one
    obtain ⟨ys, e, hz⟩ := Option.map_eq_some_iff.mp hz
    subst hz
    obtain ⟨a, ws, rfl, rw', hs⟩ := seq_of so r e
    exact call_list_of pins s σ H _ us Q I rv ⟨a, ws, rfl, hs, fun p hp => h.new hp rw'⟩
  · obtain ⟨v, rfl, r⟩ := rs.one
    obtain ⟨ys, e, hz⟩ := Option.map_eq_some_iff.mp hz
    subst hz
    obtain ⟨a, ws, rfl, rw', hs⟩ := seq_of so r e
    rcases h with ⟨_, e, _⟩ | ⟨_, h⟩
    · cases e
    · rcases hs with hs | hs
      · exact call_tuple_of pins s σ H _ us Q I rv ⟨a, ws, rfl, .inl ⟨hs, fun p hp => h _ _ (.alloc hp) (so.alloc hp) (.tup (SqT.of upd_same) (rw'.mono (.new hp) (List.prefix_refl _)))⟩⟩
      · exact call_tuple_of pins s σ H _ us Q I rv ⟨a, ws, rfl, .inr ⟨hs, h _ _ .refl so (.tup hs rw')⟩⟩
  · cases hz
    obtain ⟨v, w, rfl, r, q⟩ := rs.two
    obtain rfl := r.of_int
    obtain rfl := q.of_int
    exact cr_gcd pins s σ H _ us Q I rv ⟨_, _, rfl, nl (fun _ e => by cases e) (.int _)⟩
  · cases hz
    obtain ⟨v, w, rfl, r, q⟩ := rs.two
    obtain rfl := r.of_int
    obtain rfl := q.of_int
    exact call_max2 hc pins s σ H _ us Q I rv ⟨_, _, rfl, nl (fun _ e => by cases e) (.int _)⟩
  · cases hz
    obtain ⟨v, w, rfl, r, q⟩ := rs.two
    obtain rfl := r.of_int
    obtain rfl := q.of_int
    exact call_min2 hc pins s σ H _ us Q I rv ⟨_, _, rfl, nl (fun _ e => by cases e) (.int _)⟩
  · obtain ⟨v, rfl, r⟩ := rs.one
    obtain rfl := r.of_int
    split at hz
    · rename_i hl
      cases hz
      exact call_str_int pins s σ H _ us Q I rv ⟨_, rfl, hl, nl (fun _ e => by cases e) (.str _)⟩
    · cases hz
  · obtain ⟨v, rfl, r⟩ := rs.one
    obtain ⟨ns, e, hz⟩ := Option.map_eq_some_iff.mp hz
    subst hz
    obtain ⟨ys, e, e'⟩ := Option.bind_eq_some_iff.mp e
    obtain ⟨a, ws, rfl, rw', hs⟩ := seq_of so r e
    have e2 := ints_of rw' e'
    subst e2
    rcases hs with hs | hs
    · exact cr_sum hc pins s σ H _ us Q I rv ⟨a, ns, rfl, hs, nl (fun _ e => by cases e) (.int _)⟩
    · obtain ⟨u, rfl, ru⟩ := vals1 rv
      cases ru
      exact sum_tup hc I hs (nl (fun _ e => by cases e) (.int _)) rfl
  · obtain ⟨v, rfl, r⟩ := rs.one
    obtain ⟨ns, e, hz⟩ := Option.map_eq_some_iff.mp hz
    subst hz
    obtain ⟨ys, e, e'⟩ := Option.bind_eq_some_iff.mp e
    obtain ⟨a, ws, rfl, hs, rw'⟩ := lst_of so r e
    have e2 := bls_of rw' e'
    subst e2
    exact cr_all hc pins s σ H _ us Q I rv ⟨a, ns, rfl, hs, nl (fun _ e => by cases e) (.bl _)⟩
  · obtain ⟨v, rfl, r⟩ := rs.one
    obtain ⟨ns, e, hz⟩ := Option.map_eq_some_iff.mp hz
    subst hz
    obtain ⟨ys, e, e'⟩ := Option.bind_eq_some_iff.mp e
    obtain ⟨a, ws, rfl, hs, rw'⟩ := lst_of so r e
    have e2 := bls_of rw' e'
    subst e2
    exact cr_any hc pins s σ H _ us Q I rv ⟨a, ns, rfl, hs, nl (fun _ e => by cases e) (.bl _)⟩
  · obtain ⟨v, rfl, r⟩ := rs.one
    obtain ⟨a, rfl, ea⟩ := r.of_ref
    split at hz
    · rename_i kvs e
      split at hz
      · cases hz
      · rename_i hr
        cases hz
        obtain ⟨xs, d, z1, z2, hw⟩ := so.cell _ _ a e ea
        obtain ⟨u, rfl, ru⟩ := vals1 rv
        cases ru
        refine sorted_dT hc I d z1 z2 hw (fun p hp e => hr ?_) (fun p ds hp xd => h.new hp (rows_rel xd)) rfl
        rw [List.any_eq_true]
        exact ⟨p.1, List.mem_map.mpr ⟨p, hp, rfl⟩, by rw [e]; rfl⟩
    · rename_i ys e
      obtain ⟨zs, e2, hz⟩ := Option.map_eq_some_iff.mp hz
      subst hz
      obtain ⟨ws, rw', hs⟩ := so.cell _ _ a e ea
      exact sorted_seq I rv (SqL.of hs) rw' e2 fun p ws hp r => h.new hp r
    · rename_i ys e
      obtain ⟨zs, e2, hz⟩ := Option.map_eq_some_iff.mp hz
      subst hz
      obtain ⟨ws, rw', hs⟩ := so.cell _ _ a e ea
      exact sorted_seq I rv (.inl (.inr hs)) rw' e2 fun p ws hp r => h.new hp r
    · cases hz
  · obtain ⟨v, rfl, r⟩ := rs.one
    obtain ⟨zs, e2, hz⟩ := Option.map_eq_some_iff.mp hz
    subst hz
    obtain ⟨a, ws, rfl, hs, rw'⟩ := r.of_lst
    exact sorted_seq I rv hs.sq rw' e2 fun p ws hp r => h.new hp r
  · cases hz
/-! ### isinstance -/
def tyName : Ty → String
  | .int => "int"
  | .bool => "bool"
  | .str => "str"
  | .tup => "tuple"
theorem ty_ok {x : PV} {v : V} {t : Ty} {c : Bool} (r : RelP K ρ H x v) (e : isTy x t = some c) : ∃ u, TyX K H v u ∧ PySem.W.kitOne K u (.type (tyName t)) = some c := by
  unfold isTy at e
  split at e <;> cases e
  · obtain rfl := r.of_non
    exact ⟨_, .base .non, by cases t <;> exact kit_ty (by decide +kernel)⟩
  · obtain rfl := r.of_bl
    exact ⟨_, .base (.bl _), kit_ty (by decide +kernel)⟩
  · obtain rfl := r.of_bl
    exact ⟨_, .base (.bl _), kit_ty (by decide +kernel)⟩
  · obtain rfl := r.of_bl
    refine ⟨_, .base (.bl _), ?_⟩
    cases t <;> first | exact kit_ty (by decide +kernel) | simp_all
  · obtain rfl := r.of_int
    exact ⟨_, .base (.int _), kit_ty (by decide +kernel)⟩
  · obtain rfl := r.of_int
    refine ⟨_, .base (.int _), ?_⟩
    cases t <;> first | exact kit_ty (by decide +kernel) | simp_all
  · obtain rfl := r.of_str
    exact ⟨_, .base (.str _), kit_ty (by decide +kernel)⟩
  · obtain rfl := r.of_str
    refine ⟨_, .base (.str _), ?_⟩
    cases t <;> first | exact kit_ty (by decide +kernel) | simp_all
  all_goals
    obtain ⟨a, vs, rfl, hs, _⟩ := r.of_tup
    have ty : TyX K H (.ref a) (.type "tuple") := by
      rcases hs with (hs | ⟨o, hs⟩) | ⟨o, its, n, hk, hc, _⟩
      · exact .base (.tup hs)
      · exact .fTuple hs
      · exact .kTuple hk hc
    refine ⟨_, ty, ?_⟩
    first | exact kit_ty (by decide +kernel) | (cases t <;> first | exact kit_ty (by decide +kernel) | simp_all)
end
end MP
end
section
set_option Elab.async false
set_option linter.all false
set_option maxRecDepth 100000
/-! MPSound5: whether a row of the text is an expression of MP; if so, it runs like it. -/
namespace MP
open PySem PySem.Spec PyProof.Rows L2
/-! ### the look at a text -/
/-- the names of a text: its defs by number; its exception classes, each with its attributes' names and the names of classes that it is under; constants; which built-in names mean what they mean -/
structure Tab where
  fns : List (Option Str)
  cls : List (Str × List Str × List Str)
  glb : List (Str × PV)
  bi : List Str
  /-- classes of records: name, attributes; by number: the def of __init__; methods: class, name, def -/
  rcs : List (Str × List Str)
  inits : List (Nat × Nat)
  meths : List (Nat × Str × Nat)
/-- a list that is made by the expression itself -/
def E.fresh : E → Bool
  | .lst _ => true
  | .lc _ _ _ _ _ => true
  | .bin .add _ _ => true
  | .slc _ _ _ => true
  | .bi .list _ => true
  | .bi .sorted _ => true
  | _ => false
def notStar : Expr → Bool
  | .Starred _ _ => false
  | _ => true
def notLc : Expr → Bool
  | .ListComp _ _ _ _ => false
  | _ => true
def notCall0 : Expr → Bool
  | .Call (.Name _ _) [] [] _ => false
  | _ => true
def methB : Expr → Bool
  | .Name _ _ => true
  | .Attribute _ _ _ => true
  | .Subscript _ _ _ => true
  | .Call (.Attribute _ _ _) _ _ _ => true
  | .Call _ (_ :: _) _ _ => true
  | _ => false
/-- an f-string's part as an expression -/
def fpB (f : E → Expr → Bool) : Es → List Expr → Bool
  | .nil, es => es.isEmpty
  | .cons e es, fs => match fs with
    | g :: fs => (match g with
      | .Constant (.str x) _ _ => (match e with
        | .cst (.str y) => decide (x = y)
        | _ => false)
      | .FormattedValue v (-1) none _ => f e v
      | _ => false) && fpB f es fs
    | [] => false
def nameB (x : Str) : Bool := !(x == ("__debug__" : Str)) && !(x == ("__classdict__" : Str)) && !(x == ("__name__" : Str))
def kindB (sc : Scope) (x : Str) (k : NameKind) : Bool := decide (sc.names.lookup x = some k)
def visB (sc : Scope) (x : Str) : Bool := kindB sc x .local || kindB sc x .cell || kindB sc x .free
def locB (sc : Scope) (x : Str) : Bool := kindB sc x .local || kindB sc x .cell
def gloB (sc : Scope) (x : Str) : Bool := kindB sc x .globalImplicit && nameB x
def atB (N : List Str) (i : Nat) (x : Str) : Bool := decide (N[i]? = some x)
/-- an operator's look -/
def opB : Op → Operator → Bool
  | .add, .Add | .sub, .Sub | .mul, .Mult | .fdiv, .FloorDiv | .mod, .Mod | .pow, .Pow | .shl, .LShift => true
  | _, _ => false
def cmB : Cm → CmpOp → Bool
  | .eq, .Eq | .ne, .NotEq | .lt, .Lt | .le, .LtE | .gt, .Gt | .ge, .GtE | .isn, .Is | .nisn, .IsNot | .inn, .In | .nin, .NotIn => true
  | _, _ => false
theorem opB_ok {o : Op} {p : Operator} (h : opB o p = true) : p = opOf o := by cases o <;> cases p <;> first | rfl | cases h
theorem cmB_ok {o : Cm} {p : CmpOp} (h : cmB o p = true) : p = cmOf o := by cases o <;> cases p <;> first | rfl | cases h
/-- the name by which a built-in is called -/
def biName : Bi → Str
  | .abs => "abs"
  | .int => "int"
  | .len => "len"
  | .list => "list"
  | .tuple => "tuple"
  | .gcd => "gcd"
  | .max2 => "max"
  | .min2 => "min"
  | .str => "str"
  | .sum => "sum"
  | .sorted => "sorted"
  | .all => "all"
  | .any => "any"
  | .bool => "bool"
  | .maxL => "max"
  | .minL => "min"
def constB (T : Tab) (sc : Scope) (v : PV) : Expr → Bool
  | .Constant (.int i) _ _ => decide (v = .int i)
  | .Constant (.str x) _ _ => decide (v = .str x)
  | .Constant (.bool c) _ _ => decide (v = .bl c)
  | .Constant .none _ _ => decide (v = .non)
  | .Name x _ => gloB sc x && T.glb.any fun p => decide (p = (x, v))
  | _ => false
def isSlice : Expr → Bool
  | .Slice _ _ _ _ => true
  | _ => false
mutual
def Tg.slots : Tg → List Nat
  | .name i => [i]
  | .tup ts => Tgs.slots ts
def Tgs.slots : Tgs → List Nat
  | .nil => []
  | .cons t ts => t.slots ++ ts.slots
end
section
variable (T : Tab) (N : List Str)
mutual
def tgB (lo : Bool) (sc : Scope) : Tg → Expr → Bool
  | .name i, e => match e with
    | .Name x _ => atB N i x && (if lo then kindB sc x .local else locB sc x)
    | _ => false
  | .tup ts, e => match e with
    | .Tuple es _ _ => tgsB lo sc ts es
    | _ => false
def tgsB (lo : Bool) (sc : Scope) : Tgs → List Expr → Bool
  | .nil, es => es.isEmpty
  | .cons t ts, es => match es with
    | e :: es => tgB lo sc t e && tgsB lo sc ts es
    | [] => false
end
mutual
/-- hx: the slot and class's number of the exception that is held (a suite); cl: no exception is handled -/
def trB (sc : Scope) (cl : Bool) (hx : Option (Nat × Nat)) : E → Expr → Bool
  | .var i, e => match e with
    | .Name x _ => atB N i x && visB sc x && nameB x && !(hx.any fun p => decide (p.1 = i))
    | _ => false
  | .cst v, e => constB T sc v e
  | .tup es, e => match e with
    | .Tuple fs _ _ => trsB sc cl hx es fs && decide (fs.length ≤ 1000)
    | _ => false
  | .lst es, e => match e with
    | .List fs _ => trsB sc cl hx es fs && decide (fs.length ≤ 1000)
    | _ => false
  | .bin o a c, e => match e with
    | .BinOp x p y _ => opB o p && trB sc cl hx a x && trB sc cl hx c y
    | _ => false
  | .neg a, e => match e with
    | .UnaryOp .USub x _ => trB sc cl hx a x
    | _ => false
  | .not a, e => match e with
    | .UnaryOp .Not x _ => trB sc cl hx a x
    | _ => false
  | .and a c, e => match e with
    | .BoolOp .And [x, y] _ => trB sc cl hx a x && trB sc cl hx c y
    | .BoolOp .And (x :: y :: z :: r) p => trB sc cl hx a x && trB sc cl hx c (.BoolOp .And (y :: z :: r) p)
    | _ => false
  | .or a c, e => match e with
    | .BoolOp .Or [x, y] _ => trB sc cl hx a x && trB sc cl hx c y
    | .BoolOp .Or (x :: y :: z :: r) p => trB sc cl hx a x && trB sc cl hx c (.BoolOp .Or (y :: z :: r) p)
    | _ => false
  | .cmp o a c, e => match e with
    | .Compare x [p] [y] _ => cmB o p && trB sc cl hx a x && trB sc cl hx c y && !behindInMarks p y
    | _ => false
  | .chain o o' a c d, e => match e with
    | .Compare x [p, p'] [y, z] _ => cmB o p && cmB o' p' && trB sc cl hx a x && trB sc cl hx c y && trB sc cl hx d z && !lastMarks [p, p'] [y, z]
    | _ => false
  | .ife c a d, e => match e with
    | .IfExp z x y _ => trB sc cl hx c z && trB sc cl hx a x && trB sc cl hx d y
    | _ => false
  | .ix a c, e => match e with
    | .Subscript x y _ => trB sc cl hx a x && trB sc cl hx c y && !isSlice y
    | _ => false
  | .slc a lo hi, e => match e with
    | .Subscript x (.Slice l h none _) _ => trB sc cl hx a x && troB sc cl hx lo l && troB sc cl hx hi h
    | _ => false
  | .call f es, e => match e with
    | .Call (.Name x _) (g :: gs) [] _ => cl && gloB sc x && decide (T.fns[f]? = some (some x)) && trsB sc cl hx es (g :: gs)
    | _ => false
  | .bi f es, e => match e with
    | .Call (.Name x _) (g :: gs) [] _ => cl && gloB sc x && decide (biName f = x) && T.bi.contains x && trsB sc cl hx es (g :: gs)
    | _ => false
  | .isi a t, e => match e with
    | .Call (.Name x _) [y, .Name z _] [] _ => gloB sc x && gloB sc z && decide (x = "isinstance") && decide (z = tyName t) && T.bi.contains x && T.bi.contains z && trB sc cl hx a y
    | _ => false
  | .eat i j, e => match e with
    | .Attribute (.Name x _) f _ => match hx with
      | some (k, c) => decide (k = i) && atB N i x && visB sc x && nameB x && decide ((T.cls[c]?.bind fun p => p.2.1[j]?) = some f)
      | none => false
    | _ => false
  | .eisi i, e => match e with
    | .Call (.Name x _) [.Name y _, .Name z _] [] _ => match hx with
      | some (k, c) => decide (k = i) && atB N i y && visB sc y && nameB y && gloB sc x && decide (x = "isinstance") && T.bi.contains x && gloB sc z && ((T.cls[c]?).any fun p => p.2.2.contains z)
      | none => false
    | _ => false
  | .lc t own it c e', e => match e with
    | .ListComp elt [⟨tg, iter, ifs, 0⟩] scope _ => cl && hx.isNone && blkC N sc scope (own.map fun i => ((N[i]?).getD Str.empty, i)) && tgB N true (relS scope sc) t tg && ((Tg.slots t).all fun i => decide (i ∈ own)) && tiB sc it tg iter
        && (match ifs with
          | [] => match c with
            | .none => true
            | .some _ => false
          | [z] => troB (relS scope sc) cl none c (some z) && (match c with
            | .none => false
            | .some _ => true)
          | _ => false) && trB (relS scope sc) cl none e' elt
    | _ => false
  | .new e', e => trB sc cl hx e' e && e'.fresh && notStar e
  | .frz e', e => trB sc cl hx e' e && notStar e && notLc e
  | .att e' ps, e => match e with
    | .Attribute x f _ => trB sc cl hx e' x && notCall0 x && ps.all fun q => decide ((T.rcs[q.1]?.bind fun p => p.2[q.2]?) = some f)
    | _ => false
  | .meth f cs e' es, e => false && match e with
    | .Call (.Attribute x m _) (g :: gs) [] _ => cl && trB sc cl hx e' x && trsB sc cl hx es (g :: gs) && methB x && cs.all fun c => T.meths.contains (c, m, f)
    | .Call (.Attribute x m _) [] [] _ => cl && trB sc cl hx e' x && trsB sc cl hx es [] && methB x && cs.all fun c => T.meths.contains (c, m, f)
    | _ => false
  | .mk f c fr es, e => false && match e with
    | .Call (.Name x _) (g :: gs) [] _ => cl && gloB sc x && decide ((T.rcs[c]?.map (·.1)) = some x) && T.inits.contains (c, f) && trsB sc cl hx es (g :: gs)
    | _ => false
  | .isr e' c, e => false && match e with
    | .Call (.Name x _) [y, .Name z _] [] _ => gloB sc x && gloB sc z && decide (x = "isinstance") && decide ((T.rcs[c]?.map (·.1)) = some z) && T.bi.contains x && trB sc cl hx e' y
    | _ => false
  | .dnew t, e => match e with
    | .Dict [] [] _ => true
    | _ => false
  | .dget d k z, e => match e with
    | .Call (.Attribute x m ap) [y, w] [] cp => decide (m = "get") && (ap.endLine == cp.line) && notCall0 x && trB sc cl hx d x && trB sc cl hx k y && trB sc cl hx z w
    | _ => false
  | .sdef d k z, e => false && match e with
    | .Call (.Attribute x m ap) [y, w] [] cp => decide (m = "setdefault") && (ap.endLine == cp.line) && notCall0 x && trB sc cl hx d x && trB sc cl hx k y && trB sc cl hx z w
    | _ => false
  | .disp _ _, _ => false
  | .fstr es, e => match e with
    | .JoinedStr (f :: g :: fs) _ => trfB sc cl hx es (f :: g :: fs)
    | _ => false
  | .maxD _ _, _ => false
def trsB (sc : Scope) (cl : Bool) (hx : Option (Nat × Nat)) : Es → List Expr → Bool
  | .nil, es => es.isEmpty
  | .cons e es, fs => match fs with
    | f :: fs => trB sc cl hx e f && trsB sc cl hx es fs
    | [] => false
def trfB (sc : Scope) (cl : Bool) (hx : Option (Nat × Nat)) : Es → List Expr → Bool
  | .nil, es => es.isEmpty
  | .cons e es, fs => match fs with
    | g :: fs => (match g with
      | .Constant (.str x) _ _ => trB sc cl hx e g && (match e with
        | .cst (.str y) => decide (x = y)
        | _ => false)
      | .FormattedValue v (-1) none _ => trB sc cl hx e v
      | _ => false) && trfB sc cl hx es fs
    | [] => false
def troB (sc : Scope) (cl : Bool) (hx : Option (Nat × Nat)) : Eo → Option Expr → Bool
  | .none, o => o.isNone
  | .some e, o => match o with
    | some f => trB sc cl hx e f
    | none => false
/-- what a for walks, tg its target -/
def tiB (sc : Scope) : It → Expr → Expr → Bool
  | .seq e, _, f => trB sc true none e f
  | .rng1 e, _, f => match f with
    | .Call (.Name x _) [g] [] _ => gloB sc x && decide (x = "range") && T.bi.contains x && trB sc true none e g
    | _ => false
  | .rng2 a c, _, f => match f with
    | .Call (.Name x _) [g, h] [] _ => gloB sc x && decide (x = "range") && T.bi.contains x && trB sc true none a g && trB sc true none c h
    | _ => false
  | .zip a c, t, f => match t, f with
    | .Tuple _ _ _, .Call (.Name x _) [g, h] [] _ => gloB sc x && decide (x = "zip") && T.bi.contains x && trB sc true none a g && trB sc true none c h
    | _, _ => false
  | .rng3 a c, _, f => match f with
    | .Call (.Name x _) [g, h, .UnaryOp .USub (.Constant (.int 1) _ _) _] [] _ => gloB sc x && decide (x = "range") && T.bi.contains x && trB sc true none a g && trB sc true none c h
    | _ => false
  | .enum a, t, f => match t, f with
    | .Tuple _ _ _, .Call (.Name x _) [g] [] _ => gloB sc x && decide (x = "enumerate") && T.bi.contains x && trB sc true none a g
    | _, _ => false
end
end
end MP
end
section
set_option Elab.async false
set_option linter.all false
set_option maxRecDepth 100000
set_option maxHeartbeats 1000000
/-! MPSound6: an expression's run in the model. -/
namespace MP
open PySem PySem.Spec PyProof.Rows L2
variable [RT]
/-- a def's promise: it runs as C says -/
def spC (K : PySem.W.Frag) (T : Exc) (r : List PV → Sto → R PV) : Sp := fun vs H Q E => ∃ ρ S args, StOk K S.cells.length ρ S H ∧ RelPs K ρ H args vs ∧ At K T S.cells.length E (relE K) ρ S H (r args S) Q
/-- what the text's top leaves of an exception class -/
structure ExcK (K : PySem.W.Frag) (mg : Str → Option Value) (A : Addr) (n : Str) (fs : List Str) : Prop where
  gl : mg n = some (.ref A)
  kp : PySem.W.keepIn K (.ref A) = true
  sb : PySem.W.subIn K (.ref A) (.type "BaseException") = some true
  ty : PySem.W.typeIn K (.ref A) = some (.type "type")
  no : fs = [] → PySem.W.excIn K A [.type "ValueError", .type "Exception", .type "BaseException", .type "object"] "ValueError.__new__" = true
/-- the promise of an exception's own __init__: it stores its arguments, each under its name -/
def spX (C : Addr) (fs : List Str) : Sp := fun vs H Q _ => ∃ a ws, vs = .ref a :: ws ∧ ws.length = fs.length ∧ H a = some (exo a C none) ∧ ∀ dx, H dx = none → dx ≠ a → Q .non (upd (upd H dx (exd dx (fs.zip ws).reverse)) a (exo a C (some dx)))
/-- what the text's top leaves of a class of records -/
structure RcK (K : PySem.W.Frag) (mg : Str → Option Value) (c : Nat) (p : Str × List Str) : Prop where
  gl : mg p.1 = some (.ref (RT.rc c))
  fs : RT.rf c = p.2
  nd : p.2.Nodup
  few : p.2.length < 900
  cl : Cls K (RT.rc c)
  no : ∀ f ∈ p.2, NoAttr K (RT.rc c) f
  ha : PySem.W.findIn K (.ref (RT.rc c)) "__class__" = some (some (.builtin "object.__class__"))
  hn : PySem.W.specialIn K (.builtin "object.__class__") "__get__" = some (some (.builtin "getset_descriptor.__get__"))
  htk : PySem.W.takesIn K (.builtin "object.__class__") = some true
  hm : PySem.W.mroIn K (RT.rc c) (.type "object") = some true
/-- where an expression stands -/
structure Ctx (T : Tab) (TX : Exc) (C : Nat → List PV → Sto → R PV) (X : Cx) (W : WX) (N : List Str) (sc : Scope) (cl : Bool) (ex : Option Held) : Prop where
  scope : X.env.scope = sc
  names : X.N = N
  nd : N.Nodup
  takes : Takes X W
  calm : cl = true → X.calm = true
  unit : X.A.units + 65 < cLine
  free : ∀ x, T.bi.contains x = true → (x = "gcd" → X.mg x = some (.builtin "math.gcd")) ∧ (x ≠ "gcd" → X.mg x = none)
  glb : ∀ p ∈ T.glb, ∃ w u, X.mg p.1 = some u ∧ RelV w u ∧ ∀ ρ H, RelP X.K ρ H p.2 w
  wide : WideX X
  rcs : ∀ (c : Nat) (p : Str × List Str), T.rcs[c]? = some p → RcK X.K X.mg c p
  kit : ∀ (c d : Nat), c < T.rcs.length → d < T.rcs.length → PySem.W.kitOne X.K (.ref (RT.rc d)) (.ref (RT.rc c)) = some (decide (d = c))
  inits : cl = true → ∀ (c f : Nat), T.inits.contains (c, f) = true → ∃ fa fd ps k, Mk X.K (RT.rc c) fa ∧ Binds X.K fd ps [] ∧
    FnOk X.prog X.w X.K X.mg X.base (L2.CX X.prog X.w) k fa fd ps (spC X.K TX (C f)) ∧ Room (k + 1) X.A
  meths : cl = true → ∀ (c : Nat) (m : Str) (f : Nat), T.meths.contains (c, m, f) = true → ∃ fa fd ps k p, T.rcs[c]? = some p ∧ m ∉ p.2 ∧ Meth X.K (RT.rc c) m fa ∧ Binds X.K fd ps [] ∧
    FnOk X.prog X.w X.K X.mg X.base (L2.CX X.prog X.w) k fa fd ps (spC X.K TX (C f)) ∧ Room k X.A
  xin : cl = true → ∀ (c : Nat) (p : Str × List Str × List Str), T.cls[c]? = some p → p.2.1 ≠ [] → ∃ fI fd k, OexC X.K (TX.at_ c) ∧ PySem.W.findIn X.K (.ref (TX.at_ c)) "__init__" = some (some (.ref fI)) ∧ PySem.W.typeIn X.K (.ref fI) = some (.type "function") ∧
    Binds X.K fd ("self" :: p.2.1) [] ∧ FnOk X.prog X.w X.K X.mg X.base (L2.CX X.prog X.w) k fI fd ("self" :: p.2.1) (spX (TX.at_ c) p.2.1) ∧ Room (k + 1) X.A
  fns : cl = true → ∀ (f : Nat) (x : Str), T.fns[f]? = some (some x) → ∃ fa fd ps k, X.mg x = some (.ref fa) ∧ PySem.W.keepIn X.K (.ref fa) = true ∧ Binds X.K fd ps [] ∧
    FnOk X.prog X.w X.K X.mg X.base (L2.CX X.prog X.w) k fa fd ps (spC X.K TX (C f)) ∧ Room k X.A
  num : TX.n = T.cls.length
  exc : ∀ (c : Nat) (p : Str × List Str × List Str), T.cls[c]? = some p → ExcK X.K X.mg (TX.at_ c) p.1 p.2.1
  exm : ∀ c d, c < TX.n → d < TX.n → PySem.W.exmOne X.K (.ref (TX.at_ d)) (.ref (TX.at_ c)) = some (decide (d = c))
  attrs : ∀ (c : Nat) (p : Str × List Str × List Str), T.cls[c]? = some p → TX.attrs c = p.2.1
  held : ∀ x, ex = some x → ∃ oe pn, X.calm = false ∧ (∃ Y : Cx, X = Y.suite x.a ((x.a, oe) :: pn)) ∧ Zc x.cls x.d oe ∧ (∃ vs, oe.data = .fields vs) ∧
    (∀ p : Str × List Str × List Str, T.cls[x.c]? = some p →
      (∀ f ∈ p.2.1, PySem.W.findIn X.K (.ref (TX.at_ x.c)) "__getattribute__" = some (some (.builtin "BaseException.__getattribute__")) ∧ PySem.W.findIn X.K (.ref (TX.at_ x.c)) "__getattr__" = some none ∧
        PySem.W.subIn X.K (.ref (TX.at_ x.c)) (.type "BaseException") = some true ∧ PySem.W.hasDictIn X.K (TX.at_ x.c) = true ∧ PySem.W.findIn X.K (.ref (TX.at_ x.c)) f = some none) ∧
      (ExcC X.K (TX.at_ x.c) ∧ ∀ z, p.2.2.contains z = true → ∃ (c : V) (cv : Value), ((X.mg z = some cv) ∨ (X.mg z = none ∧ bootBuiltins z = some cv ∧ z ≠ "__name__")) ∧ RelV c cv ∧ (∀ u, RelV c u → u = cv) ∧ PySem.W.kitOne X.K (.ref (TX.at_ x.c)) cv = some true))
def hxOf (ex : Option Held) : Option (Nat × Nat) := ex.map fun x => (x.i, x.c)
theorem kindB_ok {sc : Scope} {x : Str} {k : NameKind} (h : kindB sc x k = true) : sc.names.lookup x = some k := of_decide_eq_true h
theorem visB_ok {sc : Scope} {x : Str} (h : visB sc x = true) : Vis sc x := by
  unfold visB at h
  rw [Bool.or_eq_true, Bool.or_eq_true] at h
  rcases h with (h | h) | h
  · exact .inl (kindB_ok h)
  · exact .inr (.inl (kindB_ok h))
  · exact .inr (.inr (kindB_ok h))
theorem locB_ok {sc : Scope} {x : Str} (h : locB sc x = true) : Loc sc x := by
  unfold locB at h
  rw [Bool.or_eq_true] at h
  exact h.imp kindB_ok kindB_ok
theorem nameB_ok {x : Str} (h : nameB x = true) : (x == ("__debug__" : Str)) = false ∧ (x == ("__classdict__" : Str)) = false ∧ x ≠ "__name__" := by
  unfold nameB at h
  simp only [Bool.and_eq_true, Bool.not_eq_true'] at h
  exact ⟨h.1.1, h.1.2, fun e => by rw [e] at h; simp at h⟩
theorem atB_ok {N : List Str} {i : Nat} {x : Str} (h : atB N i x = true) : N[i]? = some x := of_decide_eq_true h
section
variable {T : Tab} {TX : Exc} {C : Nat → List PV → Sto → R PV} {X : Cx} {W : WX} {N : List Str} {sc : Scope} {cl : Bool} {ex : Option Held} {b : Nat}
theorem Ctx.gl (c : Ctx T TX C X W N sc cl ex) {x : Str} (h : gloB sc x = true) : Gl X x ∧ (x == ("__debug__" : Str)) = false ∧ (x == ("__classdict__" : Str)) = false ∧ x ≠ "__name__" := by
  have h' := Bool.and_eq_true_iff.mp h
  refine ⟨?_, nameB_ok h'.2⟩
  show X.env.scope.names.lookup x = _
  rw [c.scope]
  exact kindB_ok h'.1
/-- an expression's reading -/
abbrev tE (K : PySem.W.Frag) (TX : Exc) (b : Nat) (ex : Option Held) (W : WX) (r : Env → Sto → R PV) : TE := tG K TX b ex W (relE K) r
abbrev tTs (K : PySem.W.Frag) (TX : Exc) (b : Nat) (ex : Option Held) (W : WX) (r : Env → Sto → R Bool) : TT := tG K TX b ex W relT r
abbrev tAs (K : PySem.W.Frag) (TX : Exc) (b : Nat) (ex : Option Held) (W : WX) (r : Env → Sto → R (List PV)) : TA := tG K TX b ex W (relA K) r
abbrev tOs (K : PySem.W.Frag) (TX : Exc) (b : Nat) (ex : Option Held) (W : WX) (r : Env → Sto → R (Option Int)) : TO := tG K TX b ex W relO r
/-! ### forms that hold of every row that is looked at -/
theorem star_of {sc : Scope} {cl : Bool} {hx : Option (Nat × Nat)} {e : E} {f : Expr} (h : trB T N sc cl hx e f = true) (es : List Expr) (env : PySem.Env) : starEach (f :: es) env = (false, eval f env) :: starEach es env := by
  cases f with
  | Starred v p => cases e <;> simp [trB, constB, notStar] at h
  | _ => rfl
theorem stars_of {sc : Scope} {cl : Bool} {hx : Option (Nat × Nat)} : ∀ {es : Es} {fs : List Expr}, trsB T N sc cl hx es fs = true → ∀ (pos : Pos) (env : PySem.Env), (backTo pos (starEach fs env)).any (·.1) = false
  | .nil, [], _, _, _ => rfl
  | .nil, _ :: _, h, _, _ => by simp [trsB] at h
  | .cons _ _, [], h, _, _ => by simp [trsB] at h
  | .cons e es, f :: fs, h, pos, env => by
    have h' := Bool.and_eq_true_iff.mp (by simpa [trsB] using h)
    rw [star_of h'.1]
    have ih := stars_of h'.2 pos env
    show ((false, _) :: backTo pos (starEach fs env)).any (·.1) = false
    rw [List.any_cons, ih]
    rfl
theorem slice_of {f : Expr} (h : isSlice f = false) : PlainIx f := by
  cases f with
  | Slice _ _ _ _ => cases h
  | _ => intro _ _; rfl
end
end MP
end
section
set_option Elab.async false
set_option linter.all false
set_option maxRecDepth 100000
set_option maxHeartbeats 1000000
/-! MPSound7: each form of an expression. -/
namespace MP
open PySem PySem.Spec PyProof.Rows L2
section
variable [RT] {T : Tab} {TX : Exc} {C : Nat → List PV → Sto → R PV} {X : Cx} {W : WX} {N : List Str} {sc : Scope} {cl : Bool} {ex : Option Held} {b : Nat}
variable {x y z : Expr} {a c d : E} {pos : Pos}
theorem bd_assoc {α β γ δ : Type} {K : PySem.W.Frag} {E : XK} {rel : List Addr → Hp → γ → δ → Prop} {ρ : List Addr} {S : Sto} {H : Hp} {r : R α} {f : α → Sto → R β} {g : β → Sto → R γ} {Q : δ → Hp → Prop} (h : At K TX b E rel ρ S H ((r.bd f).bd g) Q) : At K TX b E rel ρ S H (r.bd fun v S1 => (f v S1).bd g) Q := by
  cases r <;> exact h
theorem opt_bd {α γ δ : Type} {K : PySem.W.Frag} {E : XK} {rel : List Addr → Hp → γ → δ → Prop} {ρ : List Addr} {S S1 : Sto} {H : Hp} {o : Option α} {f : α → Sto → R γ} {Q : δ → Hp → Prop} (h : At K TX b E rel ρ S H ((MP.opt o S1).bd f) Q) : ∃ v, o = some v ∧ At K TX b E rel ρ S H (f v S1) Q := by
  cases o with
  | none => exact h.elim
  | some v => exact ⟨v, rfl, h⟩
theorem s_var (cx : Ctx T TX C X W N sc cl ex) {i : Nat} {n : Str} (h1 : atB N i n = true) (h2 : visB sc n = true) (h3 : nameB n = true) (h4 : ∀ p, hxOf ex = some p → p.1 ≠ i) : PE X (.Name n pos) (tE X.K TX b ex W (ev C b (.var i))) := by
  obtain ⟨n1, n2, _⟩ := nameB_ok h3
  refine PE.weak (pe_var (i := i) (by rw [cx.names]; exact atB_ok h1) (by rw [cx.scope]; exact visB_ok h2) n1 n2) fun τ H Q ⟨ρ, σ, S, so, eo, h⟩ => ?_
  rw [ev] at h
  split at h
  · rename_i v e
    obtain ⟨w, e1, r⟩ := eo.val i v e fun q hq => h4 (q.i, q.c) (by rw [hq]; rfl)
    exact ⟨w, e1, At.ok so h r⟩
  · exact h.elim
theorem s_const (cx : Ctx T TX C X W N sc cl ex) {v : PV} (h : constB T sc v x = true) : PE X x (tE X.K TX b ex W (ev C b (.cst v))) := by
  have fin : ∀ {τ : L2.St} {H : Hp} {Q : VK} {w : V}, (∀ ρ, RelP X.K ρ H v w) → tE X.K TX b ex W (ev C b (.cst v)) τ H Q → Q w H := fun {τ H Q w} r ⟨ρ, σ, S, so, eo, h⟩ => At.ok so h (r ρ)
  unfold constB at h
  split at h
  · have e := of_decide_eq_true h
    exact PE.weak pe_int fun τ H Q q => fin (fun ρ => by rw [e]; exact .int _) q
  · have e := of_decide_eq_true h
    exact PE.weak pe_str fun τ H Q q => fin (fun ρ => by rw [e]; exact .str _) q
  · have e := of_decide_eq_true h
    exact PE.weak pe_bl fun τ H Q q => fin (fun ρ => by rw [e]; exact .bl _) q
  · have e := of_decide_eq_true h
    exact PE.weak pe_non fun τ H Q q => fin (fun ρ => by rw [e]; exact .non) q
  · have h' := Bool.and_eq_true_iff.mp h
    obtain ⟨g1, g2, _, g4⟩ := cx.gl h'.1
    obtain ⟨p, hp, e⟩ := List.any_eq_true.mp h'.2
    have e := of_decide_eq_true e
    obtain ⟨w, u, m, r, q⟩ := cx.glb p hp
    subst e
    exact PE.weak (pe_glob g1 m r g2) fun τ H Q z => fin (fun ρ => q ρ H) z
  · cases h
theorem s_tup {fs : List Expr} {es : Es} {k : Nat} (h : PA X fs (tAs X.K TX b ex W (evs C b es))) (hn : ∀ σ S vs S', evs C b es σ S = .ok vs S' → vs.length ≤ 1000) : PE X (.Tuple fs k pos) (tE X.K TX b ex W (ev C b (.tup es))) := by
  refine PE.weak (pe_tup h) fun τ H Q ⟨ρ, σ, S, so, eo, q⟩ => ?_
  rw [ev] at q
  refine ⟨ρ, σ, S, so, eo, At.mono (At.bd (rel := relA X.K) q) fun ws H1 ⟨ρ1, vs, S1, e1, g1, so1, r1, h1⟩ => ?_⟩
  refine ⟨by rw [line_eq, ← RelPs.length r1]; exact Nat.le_trans (hn _ _ _ _ e1) (by decide), fun p hp => ?_⟩
  exact h1 ρ1 _ _ (.alloc hp) (so1.alloc hp) (.tup (SqT.of upd_same) (RelPs.mono (.new hp) (List.prefix_refl _) r1))
theorem n_lst {fs : List Expr} {es : Es} (h : PA X fs (tAs X.K TX b ex W (evs C b es))) (hn : ∀ σ S vs S', evs C b es σ S = .ok vs S' → vs.length ≤ 1000) : PE X (.List fs pos) (tE X.K TX b ex W (ev C b (.new (.lst es)))) := by
  refine PE.weak (pe_lst h) fun τ H Q ⟨ρ, σ, S, so, eo, q⟩ => ?_
  rw [ev, ev] at q
  have q := bd_assoc q
  refine ⟨ρ, σ, S, so, eo, At.mono (At.bd (rel := relA X.K) q) fun ws H1 ⟨ρ1, vs, S1, e1, g1, so1, r1, h1⟩ => ?_⟩
  refine ⟨by rw [line_eq, ← RelPs.length r1]; exact Nat.le_trans (hn _ _ _ _ e1) (by decide), fun p hp => ?_⟩
  exact h1 (ρ1 ++ [p]) _ _ (.push so1.base hp) (so1.push hp r1) (.ref so1.new)
theorem s_lst {fs : List Expr} {es : Es} (h : PA X fs (tAs X.K TX b ex W (evs C b es))) (hn : ∀ σ S vs S', evs C b es σ S = .ok vs S' → vs.length ≤ 1000) : PE X (.List fs pos) (tE X.K TX b ex W (ev C b (.lst es))) := by
  refine PE.weak (PE.lock (pe_lst h)) fun τ H Q ⟨ρ, σ, S, so, eo, q⟩ => ?_
  rw [ev] at q
  refine ⟨ρ, σ, S, so, eo, At.mono (At.bd (rel := relA X.K) q) fun ws H1 ⟨ρ1, vs, S1, e1, g1, so1, r1, h1⟩ => ?_⟩
  refine ⟨by rw [line_eq, ← RelPs.length r1]; exact Nat.le_trans (hn _ _ _ _ e1) (by decide), fun p hp => ?_⟩
  exact lock_new so1 hp r1 fun H' w g s r => h1 ρ1 H' w g s r
/-- a new list, made to be changed -/
theorem thaw_ok {E : XK} {ρ : List Addr} {S : Sto} {H : Hp} {z : PV} {Q : VK} (so : StOk X.K b ρ S H) (h : At X.K TX b E (relE X.K) ρ S H (MP.thaw z S) Q) : ResV X.K b ρ S H z Q := by
  cases z with
  | lst xs => exact ResV.thaw so fun p vs hp r => h (ρ ++ [p]) _ _ (.push so.base hp) (so.push hp r) (.ref so.new)
  | _ => exact h.elim
theorem n_bin {o : Op} (cx : Ctx T TX C X W N sc cl ex) (ha : PE X x (tE X.K TX b ex W (ev C b a))) (hb : PE X y (tE X.K TX b ex W (ev C b c))) : PE X (.BinOp x (opOf o) y pos) (tE X.K TX b ex W (ev C b (.new (.bin o a c)))) := by
  refine PE.weak (pe_op (binOp_ok (b := b) cx.wide o) ha hb) fun τ H Q ⟨ρ, σ, S, so, eo, h⟩ => ?_
  rw [ev, ev] at h
  have h := bd_assoc h
  refine ⟨ρ, σ, S, so, eo, At.mono (At.bd (rel := relE X.K) h) fun w H1 ⟨ρ1, v, S1, _, g1, so1, r1, h1⟩ => ?_⟩
  have h1 := bd_assoc h1
  refine ⟨ρ1, σ, S1, so1, eo.grow g1, At.mono (At.bd (rel := relE X.K) h1) fun w2 H2 ⟨ρ2, u, S2, _, g2, so2, r2, h2⟩ => ?_⟩
  obtain ⟨z, e, h3⟩ := opt_bd h2
  exact ⟨ρ2, S2, v, u, z, so2, RelP.mono g2.keep g2.pre r1, r2, e, thaw_ok so2 h3⟩
theorem s_bin {o : Op} (cx : Ctx T TX C X W N sc cl ex) (ha : PE X x (tE X.K TX b ex W (ev C b a))) (hb : PE X y (tE X.K TX b ex W (ev C b c))) : PE X (.BinOp x (opOf o) y pos) (tE X.K TX b ex W (ev C b (.bin o a c))) := by
  refine PE.weak (PE.lock (pe_op (binOp_ok (b := b) cx.wide o) ha hb)) fun τ H Q ⟨ρ, σ, S, so, eo, h⟩ => ?_
  rw [ev] at h
  refine ⟨ρ, σ, S, so, eo, At.mono (At.bd (rel := relE X.K) h) fun w H1 ⟨ρ1, v, S1, _, g1, so1, r1, h1⟩ => ?_⟩
  refine ⟨ρ1, σ, S1, so1, eo.grow g1, At.mono (At.bd (rel := relE X.K) h1) fun w2 H2 ⟨ρ2, u, S2, _, g2, so2, r2, h2⟩ => ?_⟩
  obtain ⟨z, e, h3⟩ := At.opt h2
  exact ⟨ρ2, S2, v, u, z, so2, RelP.mono g2.keep g2.pre r1, r2, e, ResV.of so2 fun H' w g s r => h3 ρ2 H' w g s r⟩
theorem s_neg (ha : PE X x (tE X.K TX b ex W (ev C b a))) : PE X (.UnaryOp .USub x pos) (tE X.K TX b ex W (ev C b (.neg a))) := by
  refine PE.weak (pe_un un_neg ha) fun τ H Q ⟨ρ, σ, S, so, eo, h⟩ => ?_
  rw [ev] at h
  refine ⟨ρ, σ, S, so, eo, At.mono (At.bd (rel := relE X.K) h) fun w H1 ⟨ρ1, v, S1, _, g1, so1, r1, h1⟩ => ?_⟩
  split at h1
  · exact ⟨_, RelP.of_int r1, At.ok so1 h1 (.int _)⟩
  · exact h1.elim
theorem s_not (ha : PE X x (tE X.K TX b ex W (ev C b a))) : PE X (.UnaryOp .Not x pos) (tE X.K TX b ex W (ev C b (.not a))) := by
  refine PE.weak (pe_notT ha) fun τ H Q ⟨ρ, σ, S, so, eo, h⟩ => ?_
  rw [ev] at h
  refine ⟨ρ, σ, S, so, eo, At.mono (At.bd (rel := relE X.K) h) fun w H1 ⟨ρ1, v, S1, _, g1, so1, r1, h1⟩ => ?_⟩
  obtain ⟨k, e, h2⟩ := opt_bd h1
  exact ⟨k, tru_of so1 r1 e, At.ok (rel := relE X.K) so1 h2 (.bl _)⟩
theorem s_and {rest : List Expr} (ha : PE X x (tE X.K TX b ex W (ev C b a))) (hb : PE X (.BoolOp .And (y :: rest) pos) (tE X.K TX b ex W (ev C b c))) : PE X (.BoolOp .And (x :: y :: rest) pos) (tE X.K TX b ex W (ev C b (.and a c))) := by
  refine PE.weak (pe_and ha hb) fun τ H Q ⟨ρ, σ, S, so, eo, h⟩ => ?_
  rw [ev] at h
  refine ⟨ρ, σ, S, so, eo, At.mono (At.bd (rel := relE X.K) h) fun w H1 ⟨ρ1, v, S1, _, g1, so1, r1, h1⟩ => ?_⟩
  split at h1
  · exact ⟨true, RelP.of_bl r1, iteT ⟨ρ1, σ, S1, so1, eo.grow g1, h1⟩⟩
  · exact ⟨false, RelP.of_bl r1, iteF (At.ok so1 h1 (.bl _))⟩
  · exact h1.elim
theorem s_or {rest : List Expr} (ha : PE X x (tE X.K TX b ex W (ev C b a))) (hb : PE X (.BoolOp .Or (y :: rest) pos) (tE X.K TX b ex W (ev C b c))) : PE X (.BoolOp .Or (x :: y :: rest) pos) (tE X.K TX b ex W (ev C b (.or a c))) := by
  refine PE.weak (pe_or ha hb) fun τ H Q ⟨ρ, σ, S, so, eo, h⟩ => ?_
  rw [ev] at h
  refine ⟨ρ, σ, S, so, eo, At.mono (At.bd (rel := relE X.K) h) fun w H1 ⟨ρ1, v, S1, _, g1, so1, r1, h1⟩ => ?_⟩
  split at h1
  · exact ⟨true, RelP.of_bl r1, iteT (At.ok so1 h1 (.bl _))⟩
  · exact ⟨false, RelP.of_bl r1, iteF ⟨ρ1, σ, S1, so1, eo.grow g1, h1⟩⟩
  · exact h1.elim
theorem s_cmp {o : Cm} (cx : Ctx T TX C X W N sc cl ex) (ha : PE X x (tE X.K TX b ex W (ev C b a))) (hb : PE X y (tE X.K TX b ex W (ev C b c))) (hm : behindInMarks (cmOf o) y = false) : PE X (.Compare x [cmOf o] [y] pos) (tE X.K TX b ex W (ev C b (.cmp o a c))) := by
  refine PE.weak (pe_cmpR (cmOp_ok (b := b) o cx.unit) ha hb hm) fun τ H Q ⟨ρ, σ, S, so, eo, h⟩ => ?_
  rw [ev] at h
  refine ⟨ρ, σ, S, so, eo, At.mono (At.bd (rel := relE X.K) h) fun w H1 ⟨ρ1, v, S1, _, g1, so1, r1, h1⟩ => ?_⟩
  refine ⟨ρ1, σ, S1, so1, eo.grow g1, At.mono (At.bd (rel := relE X.K) h1) fun w2 H2 ⟨ρ2, u, S2, _, g2, so2, r2, h2⟩ => ?_⟩
  cases e : cmV S2 o v u with
  | none => rw [e] at h2; exact h2.elim
  | some k =>
    rw [e] at h2
    exact ⟨ρ2, S2, v, u, k, so2, RelP.mono g2.keep g2.pre r1, r2, e, At.ok (rel := relE X.K) so2 h2 (.bl k)⟩
theorem s_chain {o o' : Cm} (cx : Ctx T TX C X W N sc cl ex) (ha : PE X x (tE X.K TX b ex W (ev C b a))) (hb : PE X y (tE X.K TX b ex W (ev C b c))) (hd : PE X z (tE X.K TX b ex W (ev C b d))) (hm : lastMarks [cmOf o, cmOf o'] [y, z] = false) :
    PE X (.Compare x [cmOf o, cmOf o'] [y, z] pos) (tE X.K TX b ex W (ev C b (.chain o o' a c d))) := by
  refine PE.weak (pe_chain (cmOp_ok (b := b) o cx.unit) (cmOp_ok (b := b) o' cx.unit) ha hb hd hm) fun τ H Q ⟨ρ, σ, S, so, eo, h⟩ => ?_
  rw [ev] at h
  refine ⟨ρ, σ, S, so, eo, At.mono (At.bd (rel := relE X.K) h) fun w H1 ⟨ρ1, v, S1, _, g1, so1, r1, h1⟩ => ?_⟩
  refine ⟨ρ1, σ, S1, so1, eo.grow g1, At.mono (At.bd (rel := relE X.K) h1) fun w2 H2 ⟨ρ2, u, S2, _, g2, so2, r2, h2⟩ => ?_⟩
  have eo2 := (eo.grow g1).grow g2
  cases e : cmV S2 o v u with
  | none => rw [e] at h2; exact h2.elim
  | some k =>
    rw [e] at h2
    refine ⟨ρ2, S2, v, u, k, so2, RelP.mono g2.keep g2.pre r1, r2, e, k, rfl, ?_⟩
    cases k with
    | false => exact iteF (At.ok (rel := relE X.K) so2 h2 (.bl false))
    | true =>
      refine iteT ⟨ρ2, σ, S2, so2, eo2, At.mono (At.bd (rel := relE X.K) h2) fun w3 H3 ⟨ρ3, t, S3, _, g3, so3, r3, h3⟩ => ?_⟩
      cases e2 : cmV S3 o' u t with
      | none => rw [e2] at h3; exact h3.elim
      | some k2 =>
        rw [e2] at h3
        exact ⟨ρ3, S3, u, t, k2, so3, RelP.mono g3.keep g3.pre r2, r3, e2, At.ok (rel := relE X.K) so3 h3 (.bl k2)⟩
theorem s_ife (hc : PT X z (tTs X.K TX b ex W (evT C b d))) (ha : PE X x (tE X.K TX b ex W (ev C b a))) (hb : PE X y (tE X.K TX b ex W (ev C b c))) : PE X (.IfExp z x y pos) (tE X.K TX b ex W (ev C b (.ife d a c))) := by
  refine PE.weak (pe_ifExp hc ha hb) fun τ H Q ⟨ρ, σ, S, so, eo, h⟩ => ?_
  rw [ev] at h
  refine ⟨ρ, σ, S, so, eo, At.mono (At.bd (rel := relT) h) fun w H1 ⟨ρ1, v, S1, _, g1, so1, r1, h1⟩ => ?_⟩
  obtain rfl : v = w := r1
  cases v with
  | true => exact iteT ⟨ρ1, σ, S1, so1, eo.grow g1, h1⟩
  | false => exact iteF ⟨ρ1, σ, S1, so1, eo.grow g1, h1⟩
theorem s_ix (cx : Ctx T TX C X W N sc cl ex) (ha : PE X x (tE X.K TX b ex W (ev C b a))) (hb : PE X y (tE X.K TX b ex W (ev C b c))) (hs : isSlice y = false) : PE X (.Subscript x y pos) (tE X.K TX b ex W (ev C b (.ix a c))) := by
  refine PE.weak (pe_ix (ix_ok (b := b) cx.unit) ha hb (slice_of hs)) fun τ H Q ⟨ρ, σ, S, so, eo, h⟩ => ?_
  rw [ev] at h
  refine ⟨ρ, σ, S, so, eo, At.mono (At.bd (rel := relE X.K) h) fun w H1 ⟨ρ1, v, S1, _, g1, so1, r1, h1⟩ => ?_⟩
  refine ⟨ρ1, σ, S1, so1, eo.grow g1, At.mono (At.bd (rel := relE X.K) h1) fun w2 H2 ⟨ρ2, u, S2, _, g2, so2, r2, h2⟩ => ?_⟩
  obtain ⟨t, e, h3⟩ := At.opt h2
  exact ⟨ρ2, S2, v, u, t, so2, RelP.mono g2.keep g2.pre r1, r2, e, fun w r => At.ok so2 h3 r⟩
theorem s_slc {lo hi : Eo} {l u : Option Expr} {p2 : Pos} (ha : PE X x (tE X.K TX b ex W (ev C b a))) (hl : PO X l (tOs X.K TX b ex W (evo C b lo))) (hu : PO X u (tOs X.K TX b ex W (evo C b hi))) : PE X (.Subscript x (.Slice l u none p2) pos) (tE X.K TX b ex W (ev C b (.slc a lo hi))) := by
  refine PE.weak (PE.lock (pe_slice (sl_ok (T := TX) (b := b)) ha hl hu)) fun τ H Q ⟨ρ, σ, S, so, eo, h⟩ => ?_
  rw [ev] at h
  refine ⟨ρ, σ, S, so, eo, At.mono (At.bd (rel := relE X.K) h) fun w H1 ⟨ρ1, v, S1, _, g1, so1, r1, h1⟩ => ?_⟩
  refine ⟨ρ1, σ, S1, so1, eo.grow g1, At.mono (At.bd (rel := relO) h1) fun w2 H2 ⟨ρ2, u2, S2, _, g2, so2, r2, h2⟩ => ?_⟩
  refine ⟨ρ2, σ, S2, so2, (eo.grow g1).grow g2, At.mono (At.bd (rel := relO) h2) fun w3 H3 ⟨ρ3, u3, S3, _, g3, so3, r3, h3⟩ => ?_⟩
  obtain rfl : u2 = w2 := r2
  obtain rfl : u3 = w3 := r3
  obtain ⟨z, e, h4⟩ := At.opt h3
  exact ⟨ρ3, S3, v, z, so3, RelP.mono (g2.trans g3).keep (g2.trans g3).pre r1, e, ResV.of so3 fun H' w g s r => h4 ρ3 H' w g s r⟩
theorem n_slc {lo hi : Eo} {l u : Option Expr} {p2 : Pos} (ha : PE X x (tE X.K TX b ex W (ev C b a))) (hl : PO X l (tOs X.K TX b ex W (evo C b lo))) (hu : PO X u (tOs X.K TX b ex W (evo C b hi))) : PE X (.Subscript x (.Slice l u none p2) pos) (tE X.K TX b ex W (ev C b (.new (.slc a lo hi)))) := by
  refine PE.weak (pe_slice (sl_ok (T := TX) (b := b)) ha hl hu) fun τ H Q ⟨ρ, σ, S, so, eo, h⟩ => ?_
  rw [ev, ev] at h
  have h := bd_assoc h
  refine ⟨ρ, σ, S, so, eo, At.mono (At.bd (rel := relE X.K) h) fun w H1 ⟨ρ1, v, S1, _, g1, so1, r1, h1⟩ => ?_⟩
  have h1 := bd_assoc h1
  refine ⟨ρ1, σ, S1, so1, eo.grow g1, At.mono (At.bd (rel := relO) h1) fun w2 H2 ⟨ρ2, u2, S2, _, g2, so2, r2, h2⟩ => ?_⟩
  have h2 := bd_assoc h2
  refine ⟨ρ2, σ, S2, so2, (eo.grow g1).grow g2, At.mono (At.bd (rel := relO) h2) fun w3 H3 ⟨ρ3, u3, S3, _, g3, so3, r3, h3⟩ => ?_⟩
  obtain rfl : u2 = w2 := r2
  obtain rfl : u3 = w3 := r3
  obtain ⟨z, e, h4⟩ := opt_bd h3
  exact ⟨ρ3, S3, v, z, so3, RelP.mono (g2.trans g3).keep (g2.trans g3).pre r1, e, thaw_ok so3 h4⟩
theorem s_call (cx : Ctx T TX C X W N sc true ex) {f : Nat} {es : Es} {n : Str} {p : Pos} {g : Expr} {gs : List Expr} (hg : gloB sc n = true) (hf : T.fns[f]? = some (some n)) (h : PA X (g :: gs) (tAs X.K TX b ex W (evs C b es)))
    (he : starEach (g :: gs) X.env = (false, eval g X.env) :: starEach gs X.env) (hpl : (backTo pos (starEach gs X.env)).any (·.1) = false) : PE X (.Call (.Name n p) (g :: gs) [] pos) (tE X.K TX b ex W (ev C b (.call f es))) := by
  obtain ⟨g1, g2, _, _⟩ := cx.gl hg
  obtain ⟨fa, fd, ps, k, hm, hk, hb, F, hr⟩ := cx.fns rfl f n hf
  refine PE.weak (pe_callS F hr g1 hm hk hb (fun σ => passAt cx.takes σ) h g2 he hpl) fun τ H Q ⟨ρ, σ, S, so, eo, q⟩ => ?_
  rw [ev] at q
  refine ⟨ρ, σ, S, so, eo, At.mono (At.bd (rel := relA X.K) q) fun ws H1 ⟨ρ1, vs, S1, _, g1, so1, r1, h1⟩ => ?_⟩
  exact ⟨ρ1, S1, vs, ⟨so1.len, so1.cell, so1.inj, Nat.le_refl _⟩, r1, At.less so1.base so1.base h1⟩
theorem s_isi (cx : Ctx T TX C X W N sc cl ex) {t : Ty} {n m : Str} {p p2 : Pos} (hn : gloB sc n = true) (hm : gloB sc m = true) (en : n = "isinstance") (em : m = tyName t) (bn : T.bi.contains n = true) (bm : T.bi.contains m = true)
    (ha : PE X y (tE X.K TX b ex W (ev C b a))) (hs : ∀ es, starEach (y :: es) X.env = (false, eval y X.env) :: starEach es X.env) : PE X (.Call (.Name n p) [y, .Name m p2] [] pos) (tE X.K TX b ex W (ev C b (.isi a t))) := by
  obtain ⟨g1, g2, _, g4⟩ := cx.gl hn
  obtain ⟨k1, k2, _, k4⟩ := cx.gl hm
  subst en
  have mn : X.mg "isinstance" = none := (cx.free _ bn).2 (by decide +kernel)
  have mm : X.mg m = none := (cx.free _ bm).2 (by rw [em]; cases t <;> decide +kernel)
  have bt : bootBuiltins m = some (.type (tyName t)) := by rw [em]; cases t <;> decide +kernel
  have pm : PE X (.Name m p2) (tC (.ty (tyName t))) := pe_bltn k1 mm bt rfl k4 k2
  refine PE.weak (pe_callB call_isi g1 mn boot_isinstance (pa_cons ha (pa_cons pm pa_nil) (hs _)) g4 g2 (hs _) rfl) fun τ H Q ⟨ρ, σ, S, so, eo, h⟩ => ?_
  rw [ev] at h
  refine ⟨ρ, σ, S, so, eo, At.mono (At.bd (rel := relE X.K) h) fun w H1 ⟨ρ1, v, S1, _, g1, so1, r1, h1⟩ => ?_⟩
  cases e : isTy v t with
  | none => rw [e] at h1; exact h1.elim
  | some k =>
    rw [e] at h1
    obtain ⟨u, ty, kit⟩ := ty_ok r1 e
    exact ⟨w, .ty (tyName t), u, .type (tyName t), k, rfl, .ty _, ty, kit, At.ok (rel := relE X.K) so1 h1 (.bl k)⟩
theorem s_bi (cx : Ctx T TX C X W N sc true ex) {f : Bi} {es : Es} {n : Str} {p : Pos} {g : Expr} {gs : List Expr} (hg : gloB sc n = true) (en : biName f = n) (bn : T.bi.contains n = true) (h : PA X (g :: gs) (tAs X.K TX b ex W (evs C b es)))
    (he : starEach (g :: gs) X.env = (false, eval g X.env) :: starEach gs X.env) (hpl : (backTo pos (starEach gs X.env)).any (·.1) = false) : PE X (.Call (.Name n p) (g :: gs) [] pos) (tE X.K TX b ex W (ev C b (.bi f es))) := by
  obtain ⟨g1, g2, _, g4⟩ := cx.gl hg
  subst en
  have fin : ∀ {τ : L2.St} {H : Hp} {Q : VK}, tE X.K TX b ex W (ev C b (.bi f es)) τ H Q → tCB (rBi X.K b f) (tAs X.K TX b ex W (evs C b es)) τ H (lk Q) := fun {τ H Q} ⟨ρ, σ, S, so, eo, q⟩ => by
    rw [ev] at q
    refine ⟨ρ, σ, S, so, eo, At.mono (At.bd (rel := relA X.K) q) fun ws H1 ⟨ρ1, vs, S1, _, g1, so1, r1, h1⟩ => ?_⟩
    obtain ⟨z, e, h2⟩ := At.opt h1
    exact ⟨ρ1, S1, vs, z, so1, r1, e, ResV.of so1 fun H' w g s r => h2 ρ1 H' w g s r⟩
  have ok := bi_ok (b := b) (cx.calm rfl) f
  have fr := cx.free _ bn
  cases f with
  | gcd => exact PE.weak (PE.lock (pe_callBfun ok g1 (fr.1 rfl) h g2 he hpl)) fun τ H Q q => fin q
  | abs => exact PE.weak (PE.lock (pe_callB ok g1 (fr.2 (by decide +kernel)) (by decide +kernel) h g4 g2 he hpl)) fun τ H Q q => fin q
  | len => exact PE.weak (PE.lock (pe_callB ok g1 (fr.2 (by decide +kernel)) (by decide +kernel) h g4 g2 he hpl)) fun τ H Q q => fin q
  | max2 => exact PE.weak (PE.lock (pe_callB ok g1 (fr.2 (by decide +kernel)) (by decide +kernel) h g4 g2 he hpl)) fun τ H Q q => fin q
  | min2 => exact PE.weak (PE.lock (pe_callB ok g1 (fr.2 (by decide +kernel)) (by decide +kernel) h g4 g2 he hpl)) fun τ H Q q => fin q
  | maxL => exact PE.weak (PE.lock (pe_callB ok g1 (fr.2 (by decide +kernel)) (by decide +kernel) h g4 g2 he hpl)) fun τ H Q q => fin q
  | minL => exact PE.weak (PE.lock (pe_callB ok g1 (fr.2 (by decide +kernel)) (by decide +kernel) h g4 g2 he hpl)) fun τ H Q q => fin q
  | sum => exact PE.weak (PE.lock (pe_callB ok g1 (fr.2 (by decide +kernel)) (by decide +kernel) h g4 g2 he hpl)) fun τ H Q q => fin q
  | sorted => exact PE.weak (PE.lock (pe_callB ok g1 (fr.2 (by decide +kernel)) (by decide +kernel) h g4 g2 he hpl)) fun τ H Q q => fin q
  | all => exact PE.weak (PE.lock (pe_callB ok g1 (fr.2 (by decide +kernel)) (by decide +kernel) h g4 g2 he hpl)) fun τ H Q q => fin q
  | any => exact PE.weak (PE.lock (pe_callB ok g1 (fr.2 (by decide +kernel)) (by decide +kernel) h g4 g2 he hpl)) fun τ H Q q => fin q
  | int => exact PE.weak (PE.lock (pe_callTy ok g1 (fr.2 (by decide +kernel)) (by decide +kernel) h g4 g2 he hpl)) fun τ H Q q => fin q
  | list => exact PE.weak (PE.lock (pe_callTy ok g1 (fr.2 (by decide +kernel)) (by decide +kernel) h g4 g2 he hpl)) fun τ H Q q => fin q
  | tuple => exact PE.weak (PE.lock (pe_callTy ok g1 (fr.2 (by decide +kernel)) (by decide +kernel) h g4 g2 he hpl)) fun τ H Q q => fin q
  | str => exact PE.weak (PE.lock (pe_callTy ok g1 (fr.2 (by decide +kernel)) (by decide +kernel) h g4 g2 he hpl)) fun τ H Q q => fin q
  | bool => exact PE.weak (PE.lock (pe_callTy ok g1 (fr.2 (by decide +kernel)) (by decide +kernel) h g4 g2 he hpl)) fun τ H Q q => fin q
theorem n_bi (cx : Ctx T TX C X W N sc true ex) {f : Bi} {es : Es} {n : Str} {p : Pos} {g : Expr} {gs : List Expr} (hf : f = .list ∨ f = .sorted) (hg : gloB sc n = true) (en : biName f = n) (bn : T.bi.contains n = true) (h : PA X (g :: gs) (tAs X.K TX b ex W (evs C b es)))
    (he : starEach (g :: gs) X.env = (false, eval g X.env) :: starEach gs X.env) (hpl : (backTo pos (starEach gs X.env)).any (·.1) = false) : PE X (.Call (.Name n p) (g :: gs) [] pos) (tE X.K TX b ex W (ev C b (.new (.bi f es)))) := by
  obtain ⟨g1, g2, _, g4⟩ := cx.gl hg
  subst en
  have fin : ∀ {τ : L2.St} {H : Hp} {Q : VK}, tE X.K TX b ex W (ev C b (.new (.bi f es))) τ H Q → tCB (rBi X.K b f) (tAs X.K TX b ex W (evs C b es)) τ H Q := fun {τ H Q} ⟨ρ, σ, S, so, eo, q⟩ => by
    rw [ev, ev] at q
    have q := bd_assoc q
    refine ⟨ρ, σ, S, so, eo, At.mono (At.bd (rel := relA X.K) q) fun ws H1 ⟨ρ1, vs, S1, _, g1, so1, r1, h1⟩ => ?_⟩
    obtain ⟨z, e, h2⟩ := opt_bd h1
    exact ⟨ρ1, S1, vs, z, so1, r1, e, thaw_ok so1 h2⟩
  have ok := bi_ok (b := b) (cx.calm rfl) f
  have fr := cx.free _ bn
  rcases hf with rfl | rfl
  · exact PE.weak (pe_callTy ok g1 (fr.2 (by decide +kernel)) (by decide +kernel) h g4 g2 he hpl) fun τ H Q q => fin q
  · exact PE.weak (pe_callB ok g1 (fr.2 (by decide +kernel)) (by decide +kernel) h g4 g2 he hpl) fun τ H Q q => fin q
end
end MP
end
section
set_option Elab.async false
set_option linter.all false
set_option maxRecDepth 100000
set_option maxHeartbeats 1000000
/-! MPSoundG: attributes, methods, new instances; dicts; lists that are locked. -/
namespace MP
open PySem PySem.Spec PyProof.Rows L2
/-! ### instances that may be locked -/
section
variable {X : Cx} {pins : List (Addr × Obj)} {σ : L2.St} {H : Hp} {s : Shared} {a C dx : Addr} {fs : List (Str × V)} {f : Str} {v : V} {A : Around} {E : Value → Shared → Prop}
theorem rd_get (I : L2.Inv X pins σ H s) (e : Rd H a (.ins C dx fs)) : ∃ mA, ObjM s.heap a dx C mA ∧ ∀ f, RelO (fs.lookup f) (mA f) := by
  obtain ⟨d, z, ne, ob, mA, n, r, q⟩ := (show ObjOk X.prog X.w H s.heap a (.ins C dx fs) from e.ok I.hok)
  exact ⟨mA, ⟨ob, n, ne⟩, r⟩
theorem rd_attr {bb : Bool} {Q : Value → Shared → Prop} (I : L2.Inv X pins σ H s) (e : Rd H a (.ins C dx fs)) (c : Cls X.K C) (n : NoAttr X.K C f) (l : fs.lookup f = some v)
    (h : ∀ u s', L2.Inv X pins σ H s' → RelV v u → Q u s') : wpAny (model X.prog X.w) A (getAttr (.ref a) f bb) Q E s := by
  obtain ⟨mA, O, r⟩ := rd_get I e
  obtain ⟨u, hu, ru⟩ := RelO.some_of (v := v) (o := mA f) (by rw [← l]; exact r f)
  exact get_map I.kIn O (c.get f) c.hd n hu (handed_of ru) (h u _ (I.tok _) ru)
theorem rd_meth {m : Str} {g : Addr} {pl : Sem Bool} {Q : Value × List Value → Shared → Prop} (I : L2.Inv X pins σ H s) (e : Rd H a (.ins C dx fs)) (c : Cls X.K C) (k : Meth X.K C m g) (l : fs.lookup m = none)
    (h : Q (.ref g, [.ref a]) s) : wpAny (model X.prog X.w) A (getMethod (.ref a) m pl) Q E s := by
  obtain ⟨mA, O, r⟩ := rd_get I e
  have hn : mA m = none := RelO.none_of (by rw [← l]; exact r m)
  exact get_meth I.kIn O (c.get m) k.at_ k.fn hn h
end
section
variable [RT] {T : Tab} {TX : Exc} {C : Nat → List PV → Sto → R PV} {X : Cx} {W : WX} {N : List Str} {sc : Scope} {cl : Bool} {ex : Option Held} {b : Nat}
variable {x y z : Expr} {a c d : E} {pos : Pos}
theorem lk_zip {K : PySem.W.Frag} {ρ : List Addr} {H : Hp} : ∀ {ns : List Str} {fs : List PV} {ws : List V} {j : Nat} {f : Str} {v : PV}, ns.Nodup → RelPs K ρ H fs ws → ns[j]? = some f → fs[j]? = some v → ∃ w, (ns.zip ws).lookup f = some w ∧ RelP K ρ H v w
  | [], _, _, _, _, _, _, _, e, _ => by simp at e
  | _ :: _, [], _, _, _, _, _, .nil, _, e => by simp at e
  | g :: ns, u :: fs, w :: ws, 0, f, v, _, .cons r _, e1, e2 => by
    have e1 : g = f := by simpa using e1
    have e2 : u = v := by simpa using e2
    subst e1
    subst e2
    exact ⟨w, by simp [List.lookup], r⟩
  | g :: ns, u :: fs, w :: ws, j + 1, f, v, nd, .cons _ t, e1, e2 => by
    have nd' := List.nodup_cons.mp nd
    have e1 : ns[j]? = some f := by simpa using e1
    obtain ⟨w', h1, h2⟩ := lk_zip nd'.2 t e1 (by simpa using e2)
    refine ⟨w', ?_, h2⟩
    have ne : (f == g) = false := by
      have : f ≠ g := fun z => nd'.1 (by rw [← z]; exact List.mem_of_getElem? e1)
      simpa using this
    rw [List.zip_cons_cons, List.lookup_cons, ne]
    exact h1
theorem lk_none : ∀ {ns : List Str} {ws : List V} {m : Str}, m ∉ ns → (ns.zip ws).lookup m = none
  | [], _, _, _ => rfl
  | _ :: _, [], _, _ => rfl
  | g :: ns, w :: ws, m, h => by
    have ne : (m == g) = false := by
      have : m ≠ g := fun z => h (by rw [z]; exact List.mem_cons_self)
      simpa using this
    rw [List.zip_cons_cons, List.lookup_cons, ne]
    exact lk_none fun z => h (List.mem_cons_of_mem _ z)
/-- an instance, locked or in the store -/
theorem inst_of {ρ : List Addr} {S : Sto} {H : Hp} (so : StOk X.K b ρ S H) {v : PV} {w : V} {c : Nat} (r : RelP X.K ρ H v w) (h : clsV S v = some c) : ∃ p dx fs vs, w = .ref p ∧ Rd H p (.ins (RT.rc c) dx ((RT.rf c).zip vs)) ∧ RelPs X.K ρ H fs vs ∧
    ∀ ps, attV S v ps = (ps.lookup c).bind fun q => fs[q]? := by
  unfold clsV at h
  split at h
  · cases h
    obtain ⟨p, dx, o, vs, rfl, h1, h2⟩ := r.of_obj
    exact ⟨p, dx, _, vs, rfl, .inr ⟨o, h1⟩, h2, fun ps => rfl⟩
  · rename_i k
    obtain ⟨p, rfl, e⟩ := r.of_ref
    split at h
    · rename_i c' fs q
      cases h
      obtain ⟨dx, vs, h2, _, h1⟩ := so.cell k _ p q e
      exact ⟨p, dx, fs, vs, rfl, .inl h1, h2, fun ps => by simp only [attV, q]⟩
    · cases h
  · cases h
theorem base_of {f : Str} {env : PySem.Env} {w : Sem Value} (h : notCall0 x = true) : attributeBase x f env w = w := by
  unfold attributeBase
  split
  · simp [notCall0] at h
  · rfl
theorem att_cls {S : Sto} {v : PV} {ps : List (Nat × Nat)} {u : PV} (h : attV S v ps = some u) : ∃ c, clsV S v = some c := by
  unfold attV at h
  unfold clsV
  split at h
  · exact ⟨_, rfl⟩
  · rename_i k
    split at h
    · rename_i c fs q
      exact ⟨c, by simp only [q]⟩
    · cases h
  · cases h
theorem lookup_mem : ∀ {ps : List (Nat × Nat)} {c p : Nat}, ps.lookup c = some p → (c, p) ∈ ps
  | [], _, _, h => by cases h
  | (c', p') :: ps, c, p, h => by
    rw [List.lookup_cons] at h
    by_cases e : c == c'
    · rw [e] at h
      cases h
      have e := eq_of_beq e
      subst e
      exact List.mem_cons_self
    · rw [Bool.not_eq_true] at e
      rw [e] at h
      exact List.mem_cons_of_mem _ (lookup_mem h)
theorem att_ok (cx : Ctx T TX C X W N sc cl ex) {ρ : List Addr} {S : Sto} {H : Hp} (so : StOk X.K b ρ S H) {v : PV} {w : V} {ps : List (Nat × Nat)} {f : Str} {u : PV} (r : RelP X.K ρ H v w) (h : attV S v ps = some u) (hps : (ps.all fun q => decide ((T.rcs[q.1]?.bind fun p => p.2[q.2]?) = some f)) = true) :
    ∃ p c dx fs' w', w = .ref p ∧ Rd H p (.ins (RT.rc c) dx fs') ∧ Cls X.K (RT.rc c) ∧ NoAttr X.K (RT.rc c) f ∧ fs'.lookup f = some w' ∧ RelP X.K ρ H u w' := by
  obtain ⟨c, hc⟩ := att_cls h
  obtain ⟨p, dx, fs, vs, rfl, h1, h2, h3⟩ := inst_of so r hc
  rw [h3] at h
  obtain ⟨q, e1, e2⟩ := Option.bind_eq_some_iff.mp h
  have z := of_decide_eq_true (List.all_eq_true.mp hps _ (lookup_mem e1))
  obtain ⟨pp, g1, g2⟩ := Option.bind_eq_some_iff.mp z
  have rk := cx.rcs c pp g1
  have g2' : (RT.rf c)[q]? = some f := by rw [rk.fs]; exact g2
  obtain ⟨w', l1, l2⟩ := lk_zip (by rw [rk.fs]; exact rk.nd) h2 g2' e2
  exact ⟨p, c, dx, _, w', rfl, h1, rk.cl, rk.no f (List.mem_of_getElem? g2), l1, l2⟩
theorem s_att (cx : Ctx T TX C X W N sc cl ex) {ps : List (Nat × Nat)} {f : Str} (ha : PE X x (tE X.K TX b ex W (ev C b a))) (hb : notCall0 x = true) (hps : (ps.all fun q => decide ((T.rcs[q.1]?.bind fun p => p.2[q.2]?) = some f)) = true) : PE X (.Attribute x f pos) (tE X.K TX b ex W (ev C b (.att a ps))) := by
  refine ⟨fun pins s τ H Q I ht => ?_⟩
  obtain ⟨ρ, σ, S, so, eo, h⟩ := ht
  rw [ev] at h
  refine attr_of (base_of hb) (thn (ha.run pins s τ H _ I ⟨ρ, σ, S, so, eo, At.bd (rel := relE X.K) h⟩) fun u s1 ⟨w, H1, I1, rw', ρ1, v, S1, _, g1, so1, r1, h1⟩ => ?_)
  obtain ⟨t, e, h2⟩ := At.opt h1
  obtain ⟨p, c, dx, fs', w', rfl, e1, e2, e3, e4, e5⟩ := att_ok cx so1 r1 e hps
  obtain rfl : u = Value.ref p := rw'
  exact rd_attr I1 e1 e2 e3 e4 fun u' s2 I2 ru => ⟨w', H1, I2, ru, At.ok (rel := relE X.K) so1 h2 e5⟩
/-- a list of the store is locked -/
theorem StOk.freeze {K : PySem.W.Frag} {ρ : List Addr} {S : Sto} {H : Hp} {k : Nat} {p : Addr} {xs : List PV} {vs : List V} (so : StOk K b ρ S H) (hk : S.cells[k]? = some (.lst xs)) (e : ρ[k]? = some p) (h : H p = some (.lst vs)) (rs : RelPs K ρ H xs vs) (o : Obj) :
    Grow b ρ ρ S ⟨S.cells.set k (.ro xs), S.dirty⟩ H (upd H p (.frz o (.lst vs))) ∧ StOk K b ρ ⟨S.cells.set k (.ro xs), S.dirty⟩ (upd H p (.frz o (.lst vs))) := by
  have hkl := (List.getElem?_eq_some_iff.mp hk).1
  have kp : Keep H (upd H p (.frz o (.lst vs))) := .wlst h
  refine ⟨⟨kp, List.prefix_refl _, by simp, fun q u z n => ⟨by rw [upd_ne fun z' => n (by rw [z']; exact List.mem_of_getElem? e)]; exact z, n⟩, fun z => ⟨z, fun n hn u j c hj q => ?_⟩⟩, ?_⟩
  · by_cases hjk : k = j
    · subst hjk
      rw [List.getElem?_set_self hkl] at q
      cases q
      exact u k (.lst xs) hj hk
    · rw [List.getElem?_set_ne hjk] at q
      exact u j c hj q
  · let z := so.writeC (p := true) (d := .ro xs) hk rfl e kp ⟨vs, rs.mono kp (List.prefix_refl _), o, upd_same⟩
    exact ⟨z.len, z.cell, z.inj, z.base⟩
theorem s_frz (ha : PE X x (tE X.K TX b ex W (ev C b a))) : PE X x (tE X.K TX b ex W (ev C b (.frz a))) := by
  refine PE.weak (PE.lock ha) fun τ H Q ⟨ρ, σ, S, so, eo, h⟩ => ?_
  rw [ev] at h
  refine ⟨ρ, σ, S, so, eo, At.mono (At.bd (rel := relE X.K) h) fun w H1 ⟨ρ1, v, S1, _, g1, so1, r1, h1⟩ => ?_⟩
  unfold MP.freeze at h1
  split at h1
  · rename_i k
    obtain ⟨p, rfl, ep⟩ := RelP.of_ref r1
    split at h1
    · rename_i xs hk
      obtain ⟨vs, rs, hp⟩ := so1.lst hk ep
      refine .inr ⟨p, .lst vs, hp, trivial, fun o => ?_⟩
      obtain ⟨g, s'⟩ := so1.freeze hk ep hp rs o
      exact h1 ρ1 _ _ g s' (.lst (.inl ⟨o, upd_same⟩) (rs.mono (.wlst hp) (List.prefix_refl _)))
    · exact h1.elim
  · exact h1.elim
/-! ### f-strings -/
/-- the rest of an f-string's run, acc being there -/
def tF (K : PySem.W.Frag) (TX : Exc) (b : Nat) (C : Nat → List PV → Sto → R PV) (ex : Option Held) (es : Es) (acc : Str) : L2.St → Hp → (Str → Hp → Prop) → Prop := fun τ H Q =>
  ∃ ρ σ S vs S' z, StOk K b ρ S H ∧ EnvOk K TX ex ρ H σ τ ∧ evs C b es σ S = .ok vs S' ∧ fparts vs = some z ∧ (acc ++ z).length ≤ lenMax ∧ ∀ ρ' H', Grow b ρ ρ' S S' H H' → StOk K b ρ' S' H' → Q (acc ++ z) H'
theorem f_nil {acc : Str} {τ : L2.St} {H : Hp} {Q : Str → Hp → Prop} (h : tF X.K TX b C ex .nil acc τ H Q) : tJs [] acc τ H Q := by
  obtain ⟨ρ, σ, S, vs, S', z, so, eo, e, f, l, q⟩ := h
  rw [evs] at e
  cases e
  cases f
  have z := q ρ H .refl so
  rw [Str.append_empty] at z
  exact z
theorem fparts_cons {v : PV} {vs : List PV} {z : Str} (h : fparts (v :: vs) = some z) : ∃ y z', fparts vs = some z' ∧ z = y ++ z' ∧ (v = .str y ∨ ∃ i : Int, v = .int i ∧ i.natAbs.log2 < 1920 ∧ y = Str.ofString (toString i)) := by
  unfold fparts at h
  split at h
  · rename_i q; cases q
  · rename_i x r q
    cases q
    cases e : fparts vs with
    | none => rw [e] at h; cases h
    | some z' => rw [e] at h; cases h; exact ⟨x, z', rfl, rfl, .inl rfl⟩
  · rename_i i r q
    cases q
    split at h
    · rename_i hl
      cases e : fparts vs with
      | none => rw [e] at h; cases h
      | some z' => rw [e] at h; cases h; exact ⟨_, z', rfl, rfl, .inr ⟨i, rfl, hl, rfl⟩⟩
    · cases h
  · cases h
theorem f_cons {e : E} {es : Es} {ts : List TE} {acc : Str} {τ : L2.St} {H : Hp} {Q : Str → Hp → Prop} (h : tF X.K TX b C ex (.cons e es) acc τ H Q) (ih : ∀ acc τ H Q, tF X.K TX b C ex es acc τ H Q → tJs ts acc τ H Q) : tJs (tFmt (tE X.K TX b ex W (ev C b e)) :: ts) acc τ H Q := by
  obtain ⟨ρ, σ, S, vs, S', z, so, eo, e1, f, l, q⟩ := h
  rw [evs] at e1
  cases ee : ev C b e σ S with
  | bad => rw [ee] at e1; cases e1
  | exc c as S1 => rw [ee] at e1; cases e1
  | ok v S1 =>
    rw [ee] at e1
    have e1 : (evs C b es σ S1).bd (fun vs S2 => R.ok (v :: vs) S2) = .ok vs S' := e1
    cases e2 : evs C b es σ S1 with
    | bad => rw [e2] at e1; cases e1
    | exc c as S2 => rw [e2] at e1; cases e1
    | ok us S2 =>
      rw [e2] at e1
      cases e1
      obtain ⟨y, z', fz, rfl, hv⟩ := fparts_cons f
      have la : (acc ++ y).length ≤ lenMax := by
        rw [← Str.append_assoc, Str.length_append] at l
        omega
      have ly : y.length ≤ lenMax := by
        rw [Str.length_append] at la
        omega
      refine ⟨ρ, σ, S, so, eo, ?_⟩
      rw [ee]
      intro ρ1 H1 w g1 so1 r1
      have next : ∃ y' : Str, V.str y = .str y' ∧ (acc ++ y').length ≤ sizeLine ∧ tJs ts (acc ++ y') τ H1 Q := by
        refine ⟨y, rfl, by rw [line_eq]; exact la, ih _ _ _ _ ⟨ρ1, σ, S1, us, S', z', so1, eo.grow g1, e2, fz, by rw [Str.append_assoc]; exact l, fun ρ' H' g so' => ?_⟩⟩
        rw [Str.append_assoc]
        exact q ρ' H' (g1.trans g) so'
      rcases hv with rfl | ⟨i, rfl, hl, rfl⟩
      · obtain rfl := RelP.of_str r1
        exact .inl ⟨y, rfl, by rw [line_eq]; exact ly, next⟩
      · obtain rfl := RelP.of_int r1
        exact .inr ⟨i, rfl, hl, next⟩
theorem f_const {y : Str} {es : Es} {ts : List TE} {acc : Str} {τ : L2.St} {H : Hp} {Q : Str → Hp → Prop} (h : tF X.K TX b C ex (.cons (.cst (.str y)) es) acc τ H Q) (ih : ∀ acc τ H Q, tF X.K TX b C ex es acc τ H Q → tJs ts acc τ H Q) : tJs (tE X.K TX b ex W (ev C b (.cst (.str y))) :: ts) acc τ H Q := by
  obtain ⟨ρ, σ, S, vs, S', z, so, eo, e1, f, l, q⟩ := h
  rw [evs, ev] at e1
  have e1 : (evs C b es σ S).bd (fun vs S2 => R.ok (PV.str y :: vs) S2) = .ok vs S' := e1
  cases e2 : evs C b es σ S with
  | bad => rw [e2] at e1; cases e1
  | exc c as S2 => rw [e2] at e1; cases e1
  | ok us S2 =>
    rw [e2] at e1
    cases e1
    obtain ⟨y', z', fz, rfl, hv⟩ := fparts_cons f
    have ey : y' = y := by
      rcases hv with h | ⟨i, h, _⟩
      · cases h; rfl
      · cases h
    subst ey
    have la : (acc ++ y').length ≤ lenMax := by
      rw [← Str.append_assoc, Str.length_append] at l
      omega
    refine ⟨ρ, σ, S, so, eo, ?_⟩
    rw [ev]
    intro ρ1 H1 w g1 so1 r1
    obtain rfl := RelP.of_str r1
    refine ⟨y', rfl, by rw [line_eq]; exact la, ih _ _ _ _ ⟨ρ1, σ, S, us, S', z', so1, eo.grow g1, e2, fz, by rw [Str.append_assoc]; exact l, fun ρ' H' g so' => ?_⟩⟩
    rw [Str.append_assoc]
    exact q ρ' H' (g1.trans g) so'
theorem s_fstr {es : Es} {f g : Expr} {fs : List Expr} (h : ∃ ts, PJ X (f :: g :: fs) ts ∧ ∀ acc τ H Q, tF X.K TX b C ex es acc τ H Q → tJs ts acc τ H Q) : PE X (.JoinedStr (f :: g :: fs) pos) (tE X.K TX b ex W (ev C b (.fstr es))) := by
  obtain ⟨ts, pj, ht⟩ := h
  refine PE.weak (pe_joined pj) fun τ H Q ⟨ρ, σ, S, so, eo, q⟩ => ht _ _ _ _ ?_
  rw [ev] at q
  cases e : evs C b es σ S with
  | bad => rw [e] at q; exact q.elim
  | exc c as S2 => rw [e] at q; exact q.elim
  | ok vs S2 =>
    rw [e] at q
    have q : At X.K TX b _ (relE X.K) ρ S H ((MP.opt (fparts vs) S2).bd fun z S3 => if z.length ≤ lenMax then .ok (.str z) S3 else .bad) Q := q
    obtain ⟨z, fz, q⟩ := opt_bd q
    split at q
    · rename_i hl
      refine ⟨ρ, σ, S, vs, S2, z, so, eo, e, fz, by rw [Str.empty_append]; exact hl, fun ρ' H' g so' => ?_⟩
      rw [Str.empty_append]
      exact q ρ' H' (.str z) g so' (.str z)
    · exact q.elim
end
end MP
end
section
set_option Elab.async false
set_option linter.all false
set_option maxRecDepth 100000
set_option maxHeartbeats 1000000
/-! MPSoundI: new dicts, dict.get, dict.setdefault. -/
namespace MP
open PySem PySem.Spec PyProof.Rows L2
section
variable [RT] {T : Tab} {TX : Exc} {C : Nat → List PV → Sto → R PV} {X : Cx} {W : WX} {N : List Str} {sc : Scope} {cl : Bool} {ex : Option Held} {b : Nat}
variable {x y z : Expr} {a c d : E} {pos : Pos}
def tDNewH : TE := fun _ H Q => ∀ p, (p == sysModules) = false → H p = none → Q (.ref p) (upd H p (dTO p []))
theorem pe_dnewH : PE X (.Dict [] [] pos) tDNewH := ⟨fun pins s σ H Q I h =>
  wpAny_Dict_empty ⟨.ref s.heap.objs.size, _, I.laid (a := s.heap.objs.size) (o := dTO s.heap.objs.size []) (t' := s.toks) (fun _ _ q => Heap.get?_push_of_some _ q) (Nat.le_refl _)
    ⟨⟨_, #[], 0, Heap.get?_push_size _ rfl, ⟨rfl, rfl, rfl⟩, rfl, rfl, List.nodup_nil⟩, ⟨_, Heap.get?_push_size _ rfl⟩, fun g1 g2 ⟨o, es, ep, h1, r⟩ k => ⟨o, es, ep, k o h1, r⟩⟩, rfl, h _ (beq_eq_false_iff_ne.mpr (Ne.symm (Nat.ne_of_lt I.big))) (I.hok.fresh (Nat.le_refl _))⟩⟩
theorem s_dnew {t : Bool} : PE X (.Dict [] [] pos) (tE X.K TX b ex W (ev C b (.dnew t))) := by
  cases t with
  | false =>
    refine PE.weak pe_dnewK fun τ H Q ⟨ρ, σ, S, so, eo, q⟩ p hp => ?_
    rw [ev] at q
    exact q (ρ ++ [p]) _ _ (.push so.base hp) (so.pushC hp ⟨[], .nil, upd_same⟩) (.ref so.new)
  | true =>
    refine PE.weak pe_dnewH fun τ H Q ⟨ρ, σ, S, so, eo, q⟩ p hm hp => ?_
    rw [ev] at q
    exact q (ρ ++ [p]) _ _ (.push so.base hp) (so.pushC hp ⟨[], ⟨.nil⟩, Nat.zero_le _, hm, upd_same⟩) (.ref so.new)
theorem dict_is {H : Hp} {s : Shared} {pins : List (Addr × Obj)} {τ : L2.St} {ρ : List Addr} {S : Sto} {v : PV} {w : V} {β : Type} {E : XK} {rel : List Addr → Hp → β → V → Prop} {f : Nat → Sto → R β} {Q : VK} (I : L2.Inv X pins τ H s) (so : StOk X.K b ρ S H) (r : RelP X.K ρ H v w) (h : At X.K TX b E rel ρ S H ((dictAt v S).bd f) Q) :
    ∃ j a, v = .ref j ∧ w = .ref a ∧ ρ[j]? = some a ∧ At X.K TX b E rel ρ S H (f j S) Q ∧ s.TypeIs (.ref a) "dict" ∧ ∀ c, Value.ref a = .ref c → ∃ ob, s.heap.get? c = some ob ∧ ob.dict = none := by
  unfold dictAt at h
  split at h
  · rename_i j
    obtain ⟨p, rfl, ep⟩ := RelP.of_ref r
    split at h
    · rename_i kvs hc
      obtain ⟨xs, d, _, _, ha⟩ := so.cell j _ p hc ep
      have dd := dt_at I ha d.keys
      refine ⟨j, p, rfl, rfl, ep, h, dd.typeIs, fun c q => ?_⟩
      cases q
      obtain ⟨ob, _, _, h1, h2, _⟩ := dd
      exact ⟨ob, h1, h2.2.1⟩
    · rename_i kvs hc
      obtain ⟨ws, _, ha⟩ := so.cell j _ p hc ep
      obtain ⟨t1, t2, _⟩ := isD_at I (.inl ⟨ws, .of ha⟩)
      exact ⟨j, p, rfl, rfl, ep, h, t1, t2⟩
    · exact h.elim
  · exact h.elim
theorem s_dget (cx : Ctx T TX C X W N sc cl ex) {ap cp : Pos} (ho : PE X x (tE X.K TX b ex W (ev C b d))) (hk : PE X y (tE X.K TX b ex W (ev C b c))) (hz : PE X z (tE X.K TX b ex W (ev C b a))) (hb : notCall0 x = true) (hline : (ap.endLine == cp.line) = true)
    (hs1 : ∀ es, starEach (y :: es) X.env = (false, eval y X.env) :: starEach es X.env) (hs2 : starEach [z] X.env = [(false, eval z X.env)]) : PE X (.Call (.Attribute x "get" ap) [y, z] [] cp) (tE X.K TX b ex W (ev C b (.dget d c a))) := by
  have hs : starEach [y, z] X.env = [(false, eval y X.env), (false, eval z X.env)] := by rw [hs1, hs2]
  refine ⟨fun pins s τ H Q I ⟨ρ, σ, S, so, eo, q⟩ => ?_⟩
  rw [ev] at q
  refine wpAny_Call_method (base_of hb) (by rw [hs]; rfl) hline PySem.F.plainAttrs_dict PySem.F.slot_dict_get PySem.F.type_dict_get (thn (ho.run pins s τ H _ I ⟨ρ, σ, S, so, eo, At.bd (rel := relE X.K) q⟩) fun u s1 ⟨w, H1, I1, rw', ρ1, v, S1, _, g1, so1, r1, h1⟩ => ?_)
  obtain ⟨j, p, rfl, rfl, ep, h1, t1, t2⟩ := dict_is I1 so1 r1 h1
  obtain rfl : u = Value.ref p := rw'
  refine ⟨t1, t2, ?_⟩
  rw [show backTo cp (starEach [y, z] X.env) = [(false, eval y X.env), (false, eval z X.env)] by rw [hs]; rfl]
  refine Calls.callWith_builtin rfl (Calls.evalArgs_plain (Calls.spliced_cons (thn (hk.run pins s1 τ H1 _ I1 ⟨ρ1, σ, S1, so1, eo.grow g1, At.bd (rel := relE X.K) h1⟩) fun iv s2 ⟨ky, H2, I2, ry, ρ2, yv, S2, _, g2, so2, r2, h2⟩ =>
    Calls.spliced_cons (thn (hz.run pins s2 τ H2 _ I2 ⟨ρ2, σ, S2, so2, (eo.grow g1).grow g2, At.bd (rel := relE X.K) h2⟩) fun fv s3 ⟨zw, H3, I3, rz, ρ3, zv, S3, _, g3, so3, r3, h3⟩ => Calls.spliced_nil ?_))))
  obtain ⟨o, ho', h4⟩ := opt_bd h3
  refine g_get (by have := cx.unit; omega) I3 so3 (pre_get g3.pre (pre_get g2.pre ep)) (RelP.mono g3.keep g3.pre r2) ry r3 rz ho' fun w' s4 ww I4 rr rv => ⟨ww, H3, I4, rv, ?_⟩
  exact At.ok so3 h4 rr
end
end MP
end
section
set_option Elab.async false
set_option linter.all false
set_option maxRecDepth 100000
set_option maxHeartbeats 1000000
/-! MPSound8: tests, arguments, walks, the held exception. -/
namespace MP
open PySem PySem.Spec PyProof.Rows L2
section
variable [RT] {T : Tab} {TX : Exc} {C : Nat → List PV → Sto → R PV} {X : Cx} {W : WX} {N : List Str} {sc : Scope} {cl : Bool} {ex : Option Held} {b : Nat}
variable {x y z : Expr} {a c d : E} {pos : Pos}
/-! ### tests -/
theorem t_not (ha : PT X x (tTs X.K TX b ex W (evT C b a))) : PT X (.UnaryOp .Not x pos) (tTs X.K TX b ex W (evT C b (.not a))) := by
  refine PT.weak (pt_not ha) fun τ H Q ⟨ρ, σ, S, so, eo, h⟩ => ?_
  unfold evT at h
  refine ⟨ρ, σ, S, so, eo, At.mono (At.bd (rel := relT) h) fun w H1 ⟨ρ1, v, S1, _, g1, so1, r1, h1⟩ => ?_⟩
  obtain rfl : v = w := r1
  exact At.ok (rel := relT) so1 h1 rfl
theorem t_and {rest : List Expr} (ha : PT X x (tTs X.K TX b ex W (evT C b a))) (hb : PW X (.BoolOp .And (y :: rest) pos) (tTs X.K TX b ex W (evT C b c))) : PW X (.BoolOp .And (x :: y :: rest) pos) (tTs X.K TX b ex W (evT C b (.and a c))) := by
  refine PW.weak (pw_and ha hb) fun τ H Q ⟨ρ, σ, S, so, eo, h⟩ => ?_
  unfold evT at h
  refine ⟨ρ, σ, S, so, eo, At.mono (At.bd (rel := relT) h) fun w H1 ⟨ρ1, v, S1, _, g1, so1, r1, h1⟩ => ?_⟩
  obtain rfl : v = w := r1
  cases v with
  | true => exact iteT ⟨ρ1, σ, S1, so1, eo.grow g1, h1⟩
  | false => exact iteF (At.ok (rel := relT) so1 h1 rfl)
theorem t_or {rest : List Expr} (ha : PT X x (tTs X.K TX b ex W (evT C b a))) (hb : PW X (.BoolOp .Or (y :: rest) pos) (tTs X.K TX b ex W (evT C b c))) : PW X (.BoolOp .Or (x :: y :: rest) pos) (tTs X.K TX b ex W (evT C b (.or a c))) := by
  refine PW.weak (pw_or ha hb) fun τ H Q ⟨ρ, σ, S, so, eo, h⟩ => ?_
  unfold evT at h
  refine ⟨ρ, σ, S, so, eo, At.mono (At.bd (rel := relT) h) fun w H1 ⟨ρ1, v, S1, _, g1, so1, r1, h1⟩ => ?_⟩
  obtain rfl : v = w := r1
  cases v with
  | true => exact iteT (At.ok (rel := relT) so1 h1 rfl)
  | false => exact iteF ⟨ρ1, σ, S1, so1, eo.grow g1, h1⟩
theorem t_cmp {o : Cm} (cx : Ctx T TX C X W N sc cl ex) (ha : PE X x (tE X.K TX b ex W (ev C b a))) (hb : PE X y (tE X.K TX b ex W (ev C b c))) (hm : behindInMarks (cmOf o) y = false) : PT X (.Compare x [cmOf o] [y] pos) (tTs X.K TX b ex W (evT C b (.cmp o a c))) := by
  refine PT.weak (pt_cmpR (cmOp_ok (b := b) o cx.unit) ha hb hm) fun τ H Q ⟨ρ, σ, S, so, eo, h⟩ => ?_
  unfold evT at h
  refine ⟨ρ, σ, S, so, eo, At.mono (At.bd (rel := relE X.K) h) fun w H1 ⟨ρ1, v, S1, _, g1, so1, r1, h1⟩ => ?_⟩
  refine ⟨ρ1, σ, S1, so1, eo.grow g1, At.mono (At.bd (rel := relE X.K) h1) fun w2 H2 ⟨ρ2, u, S2, _, g2, so2, r2, h2⟩ => ?_⟩
  obtain ⟨k, e, h3⟩ := At.opt h2
  exact ⟨ρ2, S2, v, u, k, so2, RelP.mono g2.keep g2.pre r1, r2, e, k, rfl, At.ok (rel := relT) so2 h3 rfl⟩
theorem t_chain {o o' : Cm} (cx : Ctx T TX C X W N sc cl ex) (ha : PE X x (tE X.K TX b ex W (ev C b a))) (hb : PE X y (tE X.K TX b ex W (ev C b c))) (hd : PE X z (tE X.K TX b ex W (ev C b d))) (hm : lastMarks [cmOf o, cmOf o'] [y, z] = false) :
    PT X (.Compare x [cmOf o, cmOf o'] [y, z] pos) (tTs X.K TX b ex W (evT C b (.chain o o' a c d))) := by
  refine PT.weak (pt_chain (cmOp_ok (b := b) o cx.unit) (cmOp_ok (b := b) o' cx.unit) ha hb hd hm) fun τ H Q ⟨ρ, σ, S, so, eo, h⟩ => ?_
  unfold evT at h
  refine ⟨ρ, σ, S, so, eo, At.mono (At.bd (rel := relE X.K) h) fun w H1 ⟨ρ1, v, S1, _, g1, so1, r1, h1⟩ => ?_⟩
  refine ⟨ρ1, σ, S1, so1, eo.grow g1, At.mono (At.bd (rel := relE X.K) h1) fun w2 H2 ⟨ρ2, u, S2, _, g2, so2, r2, h2⟩ => ?_⟩
  have eo2 := (eo.grow g1).grow g2
  cases e : cmV S2 o v u with
  | none => rw [e] at h2; exact h2.elim
  | some k =>
    rw [e] at h2
    refine ⟨ρ2, S2, v, u, k, so2, RelP.mono g2.keep g2.pre r1, r2, e, k, rfl, ?_⟩
    cases k with
    | false => exact iteF ⟨false, rfl, At.ok (rel := relT) so2 h2 rfl⟩
    | true =>
      refine iteT ⟨ρ2, σ, S2, so2, eo2, At.mono (At.bd (rel := relE X.K) h2) fun w3 H3 ⟨ρ3, t, S3, _, g3, so3, r3, h3⟩ => ?_⟩
      obtain ⟨k2, e2, h4⟩ := At.opt h3
      exact ⟨ρ3, S3, u, t, k2, so3, RelP.mono g3.keep g3.pre r2, r3, e2, k2, rfl, At.ok (rel := relT) so3 h4 rfl⟩
/-- an expression of any kind as a test -/
theorem t_tru (ha : PE X x (tE X.K TX b ex W (ev C b a))) (he : ∀ σ S, evT C b a σ S = (ev C b a σ S).bd fun v S1 => MP.opt (truV S1 v) S1)
    (hp : ∀ whole, isTrue x X.env whole = (do let v ← whole; standAt x.pos; holding [v] (truthy v))) : PT X x (tTs X.K TX b ex W (evT C b a)) := by
  refine PT.weak (pt_truth ha hp) fun τ H Q ⟨ρ, σ, S, so, eo, h⟩ => ?_
  rw [he] at h
  refine ⟨ρ, σ, S, so, eo, At.mono (At.bd (rel := relE X.K) h) fun w H1 ⟨ρ1, v, S1, _, g1, so1, r1, h1⟩ => ?_⟩
  obtain ⟨k, e, h2⟩ := At.opt h1
  exact ⟨k, tru_of so1 r1 e, At.ok (rel := relT) so1 h2 rfl⟩
/-- one whose value is a bool -/
theorem t_val (ha : PE X x (tE X.K TX b ex W (ev C b a))) (he : ∀ σ S, ev C b a σ S = (evT C b a σ S).bd fun c S1 => .ok (.bl c) S1)
    (hp : ∀ whole, isTrue x X.env whole = (do let v ← whole; standAt x.pos; holding [v] (truthy v))) : PT X x (tTs X.K TX b ex W (evT C b a)) := by
  refine PT.weak (pt_val ha hp) fun τ H Q ⟨ρ, σ, S, so, eo, h⟩ => ?_
  refine ⟨ρ, σ, S, so, eo, ?_⟩
  rw [he]
  cases e : evT C b a σ S with
  | ok k S1 =>
    rw [e] at h
    exact fun ρ' H' w g s r => ⟨k, RelP.of_bl r, h ρ' H' k g s rfl⟩
  | exc c as S1 => rw [e] at h; exact h
  | bad => rw [e] at h; exact h
/-! ### arguments, slices' parts -/
theorem a_nil : PA X [] (tAs X.K TX b ex W (evs C b .nil)) := PA.weak pa_nil fun τ H Q ⟨ρ, σ, S, so, eo, h⟩ => At.ok (rel := relA X.K) so (by unfold evs at h; exact h) .nil
theorem a_cons {es : Es} {fs : List Expr} (ha : PE X x (tE X.K TX b ex W (ev C b a))) (hr : PA X fs (tAs X.K TX b ex W (evs C b es))) (hs : starEach (x :: fs) X.env = (false, eval x X.env) :: starEach fs X.env) : PA X (x :: fs) (tAs X.K TX b ex W (evs C b (.cons a es))) := by
  refine PA.weak (pa_cons ha hr hs) fun τ H Q ⟨ρ, σ, S, so, eo, h⟩ => ?_
  unfold evs at h
  refine ⟨ρ, σ, S, so, eo, At.mono (At.bd (rel := relE X.K) h) fun w H1 ⟨ρ1, v, S1, _, g1, so1, r1, h1⟩ => ?_⟩
  refine ⟨ρ1, σ, S1, so1, eo.grow g1, At.mono (At.bd (rel := relA X.K) h1) fun ws H2 ⟨ρ2, vs, S2, _, g2, so2, r2, h2⟩ => ?_⟩
  exact At.ok (rel := relA X.K) so2 h2 (.cons (RelP.mono g2.keep g2.pre r1) r2)
theorem o_none : PO X none (tOs X.K TX b ex W (evo C b .none)) := PO.weak po_none fun τ H Q ⟨ρ, σ, S, so, eo, h⟩ => At.ok (rel := relO) so (by unfold evo at h; exact h) rfl
theorem o_some (ha : PE X x (tE X.K TX b ex W (ev C b a))) : PO X (some x) (tOs X.K TX b ex W (evo C b (.some a))) := by
  refine PO.weak (po_some ha) fun τ H Q ⟨ρ, σ, S, so, eo, h⟩ => ?_
  unfold evo at h
  refine ⟨ρ, σ, S, so, eo, At.mono (At.bd (rel := relE X.K) h) fun w H1 ⟨ρ1, v, S1, _, g1, so1, r1, h1⟩ => ?_⟩
  split at h1
  · exact ⟨_, RelP.of_int r1, At.ok (rel := relO) so1 h1 rfl⟩
  · exact h1.elim
/-! ### targets of names -/
mutual
theorem g_ok {X : Cx} (hc : X.calm = true) (hN : X.N = N) (hd : N.Nodup) (hsc : X.env.scope = sc) {lo : Bool} (hf : lo = false → ∀ x, sc.names.lookup x = some .cell → X.fn x = true) : ∀ {t : Tg} {tg : Expr}, tgB N lo sc t tg = true →
    PG X tg (fun v τ H Q => ∃ ρ σ σ' u, EnvOk X.K TX none ρ H σ τ ∧ RelP X.K ρ H u v ∧ bindT t u σ = some σ' ∧ ∀ τ', EnvOk X.K TX none ρ H σ' τ' → Q τ' H)
  | .name i, tg, h => by
    unfold tgB at h
    split at h
    · rename_i n p
      have h' := Bool.and_eq_true_iff.mp h
      have hl : Loc X.env.scope n ∧ (X.fn n = true ∨ X.env.scope.names.lookup n = some .local) := by
        rw [hsc]
        have h2 := h'.2
        cases lo with
        | true => exact ⟨.inl (kindB_ok h2), .inr (kindB_ok h2)⟩
        | false =>
          have h3 := locB_ok (sc := sc) (x := n) h2
          exact ⟨h3, h3.elim .inr fun e => .inl (hf rfl n e)⟩
      have g := pg_name (X := X) (i := i) (x := n) (pos := p) (by rw [hN]; exact hd) (by rw [hN]; exact atB_ok h'.1) hl.1 hl.2
      refine ⟨fun pins s τ H v u Q I r hq => g.run pins s τ H v u Q I r ?_⟩
      obtain ⟨ρ, σ, σ', w, eo, rp, e, k⟩ := hq
      unfold bindT at e
      cases e
      exact k _ (eo.set i rp)
    · cases h
  | .tup ts, tg, h => by
    unfold tgB at h
    split at h
    · rename_i es k p
      have ih := gs_ok hc hN hd hsc hf h
      obtain ⟨n, hn, hst⟩ : ∃ n, (assignEach es X.env).length = n ∧ (assignEach es X.env).findIdx? (·.1) = none := ⟨_, rfl, ih.2.1⟩
      refine ⟨fun pins s τ H v u Q I r hq => ?_⟩
      obtain ⟨ρ, σ, σ', w, eo, rp, e, kk⟩ := hq
      unfold bindT at e
      cases w with
      | tup xs =>
        obtain ⟨a, vs, rfl, hq, rs⟩ := rp.of_tup
        have e' : bindTs ts xs σ = some σ' := e
        refine (pg_tup hc ih.1 hn hst).run pins s τ H _ u Q I r ⟨a, vs, rfl, hq, ?_, ρ, σ, σ', xs, eo, rs, e', kk⟩
        rw [← rs.length, ← hn]
        exact ih.2.2 σ σ' xs e'
      | lst xs =>
        obtain ⟨a, vs, rfl, hq, rs⟩ := rp.of_lst
        have e' : bindTs ts xs σ = some σ' := e
        refine (pg_unl hc ih.1 hn hst).run pins s τ H _ u Q I r ⟨a, vs, rfl, hq.sq, ?_, ρ, σ, σ', xs, eo, rs, e', kk⟩
        rw [← rs.length, ← hn]
        exact ih.2.2 σ σ' xs e'
      | _ => cases e
    · cases h
theorem gs_ok {X : Cx} (hc : X.calm = true) (hN : X.N = N) (hd : N.Nodup) (hsc : X.env.scope = sc) {lo : Bool} (hf : lo = false → ∀ x, sc.names.lookup x = some .cell → X.fn x = true) : ∀ {ts : Tgs} {es : List Expr}, tgsB N lo sc ts es = true →
    PGs X es (fun vs τ H Q => ∃ ρ σ σ' us, EnvOk X.K TX none ρ H σ τ ∧ RelPs X.K ρ H us vs ∧ bindTs ts us σ = some σ' ∧ ∀ τ', EnvOk X.K TX none ρ H σ' τ' → Q τ' H) ∧
      (assignEach es X.env).findIdx? (·.1) = none ∧ ∀ σ σ' us, bindTs ts us σ = some σ' → us.length = (assignEach es X.env).length
  | .nil, [], _ => by
    refine ⟨⟨fun pins s τ H vs us Q I r hq => pgs_nil.run pins s τ H vs us Q I r ?_⟩, rfl, fun σ σ' us e => ?_⟩
    · obtain ⟨ρ, σ, σ', us', eo, rs, e, k⟩ := hq
      cases us' with
      | nil =>
        cases rs
        unfold bindTs at e
        cases e
        exact ⟨rfl, k _ eo⟩
      | cons _ _ => simp [bindTs] at e
    · cases us with
      | nil => rfl
      | cons _ _ => simp [bindTs] at e
  | .nil, _ :: _, h => by simp [tgsB] at h
  | .cons _ _, [], h => by simp [tgsB] at h
  | .cons t ts, e :: es, h => by
    have h' := Bool.and_eq_true_iff.mp (by simpa [tgsB] using h)
    have g1 := g_ok hc hN hd hsc hf h'.1
    obtain ⟨g2, g3, g4⟩ := gs_ok hc hN hd hsc hf h'.2
    have ha : assignEach (e :: es) X.env = (false, assign e X.env) :: assignEach es X.env := by
      have h1 := h'.1
      cases t with
      | name i => cases e <;> first | rfl | simp [tgB] at h1
      | tup ts => cases e <;> first | rfl | simp [tgB] at h1
    refine ⟨⟨fun pins s τ H vs us Q I r hq => (pgs_cons g1 g2 (by rw [ha]; rfl)).run pins s τ H vs us Q I r ?_⟩, ?_, fun σ σ' us e => ?_⟩
    · obtain ⟨ρ, σ, σ', us', eo, rs, e, k⟩ := hq
      cases rs with
      | nil => simp [bindTs] at e
      | cons r1 r2 =>
        unfold bindTs at e
        split at e
        · rename_i σ1 e1
          exact ⟨_, _, rfl, ρ, σ, σ1, _, eo, r1, e1, fun τ' eo' => ⟨ρ, σ1, σ', _, eo', r2, e, k⟩⟩
        · cases e
    · rw [ha, List.findIdx?_cons]
      simp [g3]
    · cases us with
      | nil => simp [bindTs] at e
      | cons u us =>
        unfold bindTs at e
        split at e
        · rename_i σ1 e1
          rw [ha, List.length_cons, List.length_cons, g4 σ1 σ' us e]
        · cases e
end
end
end MP
end
section
set_option Elab.async false
set_option linter.all false
set_option maxRecDepth 100000
set_option maxHeartbeats 1000000
/-! MPSoundZ: zip of a list and a tuple. -/
namespace MP
open PySem PySem.Spec PyProof.Rows L2
/-- a row: a tuple (true) or a list (false) -/
def sqK (K : PySem.W.Frag) : Bool → Hp → Addr → List V → Prop
  | true, H, a, xs => SqT K H a xs
  | false, H, a, xs => SqL K H a xs
def itK : Bool → Heap → Addr → Addr → Nat → Prop
  | true, h, it, a, i => h.IsTupleIter it a i
  | false, h, it, a, i => h.IsListIter it a i
def arK : Bool → Heap → Addr → Array Value → Prop
  | true, h, a, us => h.IsTuple a us
  | false, h, a, us => h.IsList a us
theorem itK.live {k : Bool} {h : Heap} {t a : Addr} {i : Nat} (z : itK k h t a i) : ∃ o, h.get? t = some o ∧ ∀ v, o.data ≠ .cell v := by
  cases k <;> (obtain ⟨o, e, _, d⟩ := z; exact ⟨o, e, fun v q => by rw [d] at q; cases q⟩)
theorem itK.move {k : Bool} {h h' : Heap} {t a : Addr} {i : Nat} (z : itK k h t a i) (g : ∀ o, h.get? t = some o → h'.get? t = some o) : itK k h' t a i := by
  cases k
  · exact Heap.IsListIter.at z g
  · exact Heap.IsTupleIter.at z g
theorem draws_of {P : Program} {w : World} {A : Around} (k : Bool) (hh : A.handled = none) {t a : Addr} (ne : a ≠ t) (us : Array Value) : Draws P w A t [t, a] us.size (fun i v => us[i]? = some v) (fun i h => itK k h t a i ∧ arK k h a us) := by
  cases k
  · exact Draws.list hh t a ne us
  · exact Draws.tuple hh t a ne us
section
variable {X : Cx} {pins : List (Addr × Obj)} {σ : L2.St} {H : Hp} {s : Shared} {a : Addr} {xs ys : List V} {k : Bool}
theorem sqK.read (I : L2.Inv X pins σ H s) (h : sqK X.K k H a xs) : ∃ us : List Value, Vals xs us ∧ arK k s.heap a us.toArray := by
  cases k
  · obtain ⟨us, r, p, _⟩ := I.list h
    exact ⟨us, r, p.isList⟩
  · obtain ⟨us, r, p, _⟩ := I.tuple h
    exact ⟨us, r, p⟩
theorem sqK.same (I : L2.Inv X pins σ H s) (h : sqK X.K k H a xs) (h' : sqK X.K k H a ys) : xs = ys := by
  cases k
  · exact I.list_inj h h'
  · exact I.tuple_inj h h'
end
theorem arK.live {k : Bool} {h : Heap} {a : Addr} {us : Array Value} (z : arK k h a us) : ∃ o, h.get? a = some o := by
  cases k <;> (obtain ⟨o, e, _⟩ := z; exact ⟨o, e⟩)
/-- rows of two kinds, walked side by side -/
def itsM (K : PySem.W.Frag) (k1 k2 : Bool) (a b : Addr) : L2.It :=
  ⟨fun n H => ∃ (xs ys : List V) (u v : V), sqK K k1 H a xs ∧ sqK K k2 H b ys ∧ xs[n]? = some u ∧ ys[n]? = some v,
    fun n H r H' => ∃ t u v, r = .ref t ∧ H t = none ∧ H' = upd H t (.tup [u, v]) ∧ (∀ xs, sqK K k1 H a xs → xs[n]? = some u) ∧ ∀ ys, sqK K k2 H b ys → ys[n]? = some v,
    fun n H => ∃ xs ys : List V, sqK K k1 H a xs ∧ sqK K k2 H b ys ∧ n ≤ xs.length ∧ n ≤ ys.length ∧ (n = xs.length ∨ n = ys.length)⟩
theorem sep_of {z TI TO i1 i2 a b : Addr} (D : ZipApart z TI TO i1 i2 a b) : ZipSep2 z TI TO i1 i2 [i1, a] [i2, b] :=
  ⟨D.TIz, D.TOz, D.TITO, D.TIi1, by simp, by simp [D.i1z.symm, D.l1z.symm], by simp [D.TOi1, D.l1TO.symm], D.TIi2, by simp, by simp [D.i2z.symm, D.l2z.symm], by simp [D.TOi2, D.l2TO.symm],
    by simp [D.i12, D.l2i1.symm], by simp [D.i12.symm, D.l1i2.symm]⟩
theorem of5 {z p q i j c : Addr} {m : Addr → Prop} (h : c ∈ [z, p, q, i, j]) (h1 : m z) (h2 : m p) (h3 : m q) (h4 : m i) (h5 : m j) : m c := by
  simp only [List.mem_cons, List.not_mem_nil, or_false] at h
  rcases h with rfl | rfl | rfl | rfl | rfl <;> assumption
theorem no5 {z p q i j c : Addr} (h : c ∉ [z, p, q, i, j]) : c ≠ z ∧ c ≠ p ∧ c ≠ q ∧ c ≠ i ∧ c ≠ j := by
  simp only [List.mem_cons, List.not_mem_nil, or_false, not_or] at h
  exact h
theorem turnM {P : Program} {w : World} {K : PySem.W.Frag} {k1 k2 : Bool} {ts : List Expr} {m : Nat} {q : Pos} {a b z TI TO i1 i2 : Addr} (D : ZipApart z TI TO i1 i2 a b) :
    Turn P w K (.Tuple ts m q) (itsM K k1 k2 a b) [z, TI, TO, i1, i2] z (fun n h => IsZip h z TI TO .none ∧ IsPair h TI (.ref i1) (.ref i2) ∧ (∃ u v, IsPair h TO u v) ∧ itK k1 h i1 a n ∧ itK k2 h i2 b n) where
  mem := List.mem_cons_self
  obj := fun n h st c hc => by
    obtain ⟨c1, c2, ⟨u, v, c3⟩, c4, c5⟩ := st
    exact of5 (m := fun c => ∃ o, h.get? c = some o ∧ ∀ v, o.data ≠ .cell v) hc ⟨_, c1, fun v q => nomatch q⟩ ⟨_, c2, fun v q => nomatch q⟩ ⟨_, c3, fun v q => nomatch q⟩ c4.live c5.live
  keep := fun n h h' st g => by
    obtain ⟨c1, c2, ⟨u, v, c3⟩, c4, c5⟩ := st
    exact ⟨g z (by simp) _ c1, g TI (by simp) _ c2, ⟨u, v, g TO (by simp) _ c3⟩, c4.move fun o e => g i1 (by simp) o e, c5.move fun o e => g i2 (by simp) o e⟩
  item := by
    intro X e1 e2 e3 calm n pins s σ H E I hf st ⟨xs, ys, u, v, hx, hy, gx, gy⟩
    subst e1 e2 e3
    obtain ⟨c1, c2, ⟨u0, v0, c3⟩, c4, c5⟩ := st
    obtain ⟨us, ru, au⟩ := hx.read I
    obtain ⟨vs, rv, av⟩ := hy.read I
    obtain ⟨p, gp, rp⟩ := ru.get gx
    obtain ⟨r, gr, rr⟩ := rv.get gy
    have hd : X.A.in1.handled = none := I.ok.hd calm
    have zl := Heap.lt_size c1
    have lu : n < us.toArray.size := by simpa using (List.getElem?_eq_some_iff.mp gp).1
    have lv : n < vs.toArray.size := by simpa using (List.getElem?_eq_some_iff.mp gr).1
    refine wpAny_pyNext_zipD2_item (sep_of D) (draws_of k1 hd D.l1i1 us.toArray) (draws_of k2 hd D.l2i2 vs.toArray) c1 c2 c3 ⟨c4, au⟩ ⟨c5, av⟩ lu lv fun p' r' h' tk y1 y2 b1 b2 d1 d2 b5 b6 b7 => ?_
    obtain rfl : p = p' := Option.some.inj (gp.symm.trans (by simpa using y1))
    obtain rfl : r = r' := Option.some.inj (gr.symm.trans (by simpa using y2))
    refine ⟨_, rfl, wpAny_letOwnedTupleGo_zip (s := { s with heap := h', toks := tk }) b1 fun g gz sb => ?_⟩
    have far : ∀ c o, c ∉ [z, TI, TO, i1, i2] → s.heap.get? c = some o → g.get? c = some o := fun c o hb e => by
      obtain ⟨n1, n2, n3, n4, n5⟩ := no5 hb
      exact (sb.2 _ n1).trans (b7 c o n1 n3 n4 n5 e)
    have pt : g.get? s.heap.objs.size = some { cls := .type "tuple", data := .seq #[p, r] } := (sb.2 _ (Nat.ne_of_gt zl)).trans b5
    have I1 := I.turnedNew (t' := tk) (ch := [z, TI, TO, i1, i2]) (ob := .tup [u, v]) far hf (Nat.le_refl _) ⟨by show 2 ≤ sizeLine; decide, [p, r], .cons rp (.cons rr .nil), _, pt, rfl, _, rfl⟩
    refine ⟨.ref s.heap.objs.size, _, I1, rfl, ⟨_, u, v, rfl, I.hok.fresh (Nat.le_refl _), rfl, fun l hl => by rw [hl.same I hx]; exact gx, fun l hl => by rw [hl.same I hy]; exact gy⟩,
      ⟨gz, (sb.2 _ D.TIz).trans (b7 _ _ D.TIz D.TITO D.TIi1 D.TIi2 c2), ⟨p, r, (sb.2 _ D.TOz).trans b2⟩, d1.1.move fun o e => (sb.2 _ D.i1z).trans e, d2.1.move fun o e => (sb.2 _ D.i2z).trans e⟩, fun c hc => ?_⟩
    have lt : c < s.heap.objs.size := of5 (m := fun c => c < s.heap.objs.size) hc zl (Heap.lt_size c2) (Heap.lt_size c3) (let ⟨_, e, _⟩ := c4.live; Heap.lt_size e) (let ⟨_, e, _⟩ := c5.live; Heap.lt_size e)
    rw [upd_ne (Nat.ne_of_lt lt)]
    exact (hf c hc).1
  done := by
    intro X e1 e2 e3 calm n pins s σ H E I hf st ⟨xs, ys, hx, hy, l1, l2, fin⟩
    subst e1 e2 e3
    obtain ⟨c1, c2, ⟨u0, v0, c3⟩, c4, c5⟩ := st
    obtain ⟨us, ru, au⟩ := hx.read I
    obtain ⟨vs, rv, av⟩ := hy.read I
    have hd : X.A.in1.handled = none := I.ok.hd calm
    have e1 : us.toArray.size = xs.length := by simpa using ru.length.symm
    have e2 : vs.toArray.size = ys.length := by simpa using rv.length.symm
    refine wpAny_pyNext_zipD2_end (sep_of D) (draws_of k1 hd D.l1i1 us.toArray) (draws_of k2 hd D.l2i2 vs.toArray) c1 c2 c3 ⟨c4, au⟩ ⟨c5, av⟩ (by omega) (by omega) (by omega) fun h' tk g => ⟨rfl, I.turnedL (t' := tk) (ch := [z, TI, TO, i1, i2]) (fun c o hb e => ?_) hf⟩
    obtain ⟨n1, n2, n3, n4, n5⟩ := no5 hb
    exact g c o n1 n3 n4 n5 e
  self := fun A n s Q E st h => wpAny_pyIter_zip st.1 h
abbrev itO (k : Bool) (a : Addr) : Obj := { cls := .type (bif k then "tuple_iterator" else "list_iterator"), data := .fields #[.ref a, .int 0 0] }
abbrev zH1 (k : Bool) (h : Heap) (a : Addr) : Heap := h.push (itO k a)
abbrev zH2 (k m : Bool) (h : Heap) (a b : Addr) : Heap := (zH1 k h a).push (itO m b)
abbrev zH3 (k m : Bool) (h : Heap) (a b : Addr) : Heap := (zH2 k m h a b).push { cls := .type "tuple", data := .seq #[.ref h.objs.size, .ref (zH1 k h a).objs.size] }
abbrev zH4 (k m : Bool) (h : Heap) (a b : Addr) : Heap := (zH3 k m h a b).push { cls := .type "tuple", data := .seq #[.none, .none] }
abbrev zH5 (k m : Bool) (h : Heap) (a b : Addr) : Heap := (zH4 k m h a b).push { cls := .type "zip", data := .fields #[.none, .bool false, .bool false, .ref (zH2 k m h a b).objs.size, .ref (zH3 k m h a b).objs.size] }
theorem zip_lt (a b : Addr) (us vs : Array Value) : Meets (Builtin.«zip.__new__» ⟨[.type "zip", .ref a, .ref b], []⟩) (fun _ R s => s.heap.IsList a us ∧ s.heap.IsTuple b vs ∧ R (.ok (.ret (.ref (zH4 false true s.heap a b).objs.size))) { s with heap := zH5 false true s.heap a b }) :=
  .of_wp fun prog w A R s h => by
    obtain ⟨hp, g, d, tk, os⟩ := s; obtain ⟨h1, h2, h⟩ := h
    have hsub := sub_zip
    have g1 : Heap.IsList (Shared.heap ⟨hp, g, d, tk, os⟩) a us := h1
    have g2 : Heap.IsTuple (Shared.heap ⟨hp.push { cls := .type "list_iterator", data := .fields #[.ref a, .int 0 0] }, g, d, tk, os⟩) b vs := Heap.IsTuple.push h2 _
    wp_walk using wpAny_pyIter_list g1, wpAny_pyIter_tuple g2
    exact ⟨_, rfl, h⟩
theorem zip_tl (a b : Addr) (us vs : Array Value) : Meets (Builtin.«zip.__new__» ⟨[.type "zip", .ref a, .ref b], []⟩) (fun _ R s => s.heap.IsTuple a us ∧ s.heap.IsList b vs ∧ R (.ok (.ret (.ref (zH4 true false s.heap a b).objs.size))) { s with heap := zH5 true false s.heap a b }) :=
  .of_wp fun prog w A R s h => by
    obtain ⟨hp, g, d, tk, os⟩ := s; obtain ⟨h1, h2, h⟩ := h
    have hsub := sub_zip
    have g1 : Heap.IsTuple (Shared.heap ⟨hp, g, d, tk, os⟩) a us := h1
    have g2 : Heap.IsList (Shared.heap ⟨hp.push { cls := .type "tuple_iterator", data := .fields #[.ref a, .int 0 0] }, g, d, tk, os⟩) b vs := Heap.IsList.push h2 _
    wp_walk using wpAny_pyIter_tuple g1, wpAny_pyIter_list g2
    exact ⟨_, rfl, h⟩
theorem zip_any (k m : Bool) (a b : Addr) (us vs : Array Value) : Meets (Builtin.«zip.__new__» ⟨[.type "zip", .ref a, .ref b], []⟩) (fun _ R s => arK k s.heap a us ∧ arK m s.heap b vs ∧ R (.ok (.ret (.ref (zH4 k m s.heap a b).objs.size))) { s with heap := zH5 k m s.heap a b }) := by
  cases k <;> cases m
  · exact meets_zip_new a b us vs
  · exact zip_lt a b us vs
  · exact zip_tl a b us vs
  · exact RZ.meets_zipT_new a b us vs
theorem call_zipM {prog : Program} {w : World} {A : Around} {E : Value → Shared → Prop} {s : Shared} {Q : Value → Shared → Prop} {k m : Bool} {a b : Addr} {us vs : Array Value} (h1 : arK k s.heap a us) (h2 : arK m s.heap b vs)
    (h : ∀ g n, n = s.heap.objs.size → IsZip g (n + 4) (n + 2) (n + 3) .none → IsPair g (n + 2) (.ref n) (.ref (n + 1)) → IsPair g (n + 3) .none .none → itK k g n a 0 → itK m g (n + 1) b 0 → (∀ c o, s.heap.get? c = some o → g.get? c = some o) → Q (.ref (n + 4)) { s with heap := g }) :
    wpAny (model prog w) A (call (.type "zip") [.ref a, .ref b]) Q E s := by
  refine callType_new F.called_zip (by decide) (F.typeCall_zip_2 _ _) (F.newCall_zip_2 _ _) (fun o => F.args_object_init_3 o _ _) F.entry_zip_new (zip_any k m a b us vs) ⟨h1, h2, ?_⟩
  obtain ⟨n, hn⟩ : ∃ n, n = s.heap.objs.size := ⟨_, rfl⟩
  have n1 : (zH1 k s.heap a).objs.size = n + 1 := by rw [Heap.size_push, hn]
  have n2 : (zH2 k m s.heap a b).objs.size = n + 2 := by rw [Heap.size_push, n1]
  have n3 : (zH3 k m s.heap a b).objs.size = n + 3 := by rw [Heap.size_push, n2]
  have n4 : (zH4 k m s.heap a b).objs.size = n + 4 := by rw [Heap.size_push, n3]
  have up : ∀ {c o}, (zH4 k m s.heap a b).get? c = some o → (zH5 k m s.heap a b).get? c = some o := Heap.get?_push_of_some _
  have up4 : ∀ {c o}, (zH3 k m s.heap a b).get? c = some o → (zH5 k m s.heap a b).get? c = some o := fun q => up (Heap.get?_push_of_some _ q)
  have up3 : ∀ {c o}, (zH2 k m s.heap a b).get? c = some o → (zH5 k m s.heap a b).get? c = some o := fun q => up4 (Heap.get?_push_of_some _ q)
  have up2 : ∀ {c o}, (zH1 k s.heap a).get? c = some o → (zH5 k m s.heap a b).get? c = some o := fun q => up3 (Heap.get?_push_of_some _ q)
  have g5 : (zH5 k m s.heap a b).get? (zH4 k m s.heap a b).objs.size = some _ := Heap.get?_push_size _ rfl
  have g4 : (zH5 k m s.heap a b).get? (zH3 k m s.heap a b).objs.size = some _ := up (Heap.get?_push_size _ rfl)
  have g3 : (zH5 k m s.heap a b).get? (zH2 k m s.heap a b).objs.size = some _ := up4 (Heap.get?_push_size _ rfl)
  have g2 : (zH5 k m s.heap a b).get? (zH1 k s.heap a).objs.size = some (itO m b) := up3 (Heap.get?_push_size _ rfl)
  have g1 : (zH5 k m s.heap a b).get? s.heap.objs.size = some (itO k a) := up2 (Heap.get?_push_size _ rfl)
  rw [n2, n3, n4] at g5
  rw [n1, n2, ← hn] at g3
  rw [n3] at g4
  rw [n1] at g2
  rw [← hn] at g1
  show _ ∧ _
  rw [n4]
  refine ⟨⟨_, g5, rfl⟩, h _ n hn g5 g3 g4 ?_ ?_ fun c o q => up2 (Heap.get?_push_of_some _ q)⟩
  · cases k
    · exact ⟨_, g1, rfl, rfl⟩
    · exact ⟨_, g1, rfl, rfl⟩
  · cases m
    · exact ⟨_, g2, rfl, rfl⟩
    · exact ⟨_, g2, rfl, rfl⟩
def iZipM (K : PySem.W.Frag) (ta : TA) : TI := fun σ H R => ta σ H fun vs H1 => ∃ k m a b xs ys, vs = [.ref a, .ref b] ∧ sqK K k H1 a xs ∧ sqK K m H1 b ys ∧ R (itsM K k m a b) H1
theorem pi_zipM {X : Cx} {x y : Expr} {ta : TA} {p pos q : Pos} {ts : List Expr} {n : Nat} (hg : Gl X "zip") (hm : X.mg "zip" = none) (ha : PA X [x, y] ta) (h1 : starEach [x, y] X.env = (false, eval x X.env) :: starEach [y] X.env)
    (h2 : (backTo pos (starEach [y] X.env)).any (·.1) = false) : PI X (.Tuple ts n q) (.Call (.Name "zip" p) [x, y] [] pos) (iZipM X.K ta) := by
  refine ⟨fun pins s σ H R I h => Call_ (ld_blt I hg hm PyProof.Rows.boot_zip (PyProof.Rows.callWith_type1 (thn (ha.run pos pins s σ H _ I h) fun us s1 ⟨vs, H1, I1, r1, k, m, a, b, xs, ys, e, hx, hy, hR⟩ => ?_) h1 h2))⟩
  subst e
  obtain ⟨us1, r2, z1⟩ := hx.read I1
  obtain ⟨vs1, r3, z2⟩ := hy.read I1
  cases r1 with
  | cons r r1 =>
    cases r1 with
    | cons r' r1 =>
      cases r1
      cases r
      cases r'
      refine call_zipM z1 z2 fun g n hn c1 c2 c3 c4 c5 up => wpAny_pyIter_zip c1 ?_
      obtain ⟨_, e1⟩ := z1.live
      obtain ⟨_, e2⟩ := z2.live
      have fr : ∀ c, n ≤ c → FpOk X pins H1 c := fun c hc => I1.fpOk (by rw [← hn]; exact hc) (I1.hok.fresh (by rw [← hn]; exact hc))
      refine ⟨n + 4, [n + 4, n + 2, n + 3, n, n + 1], _, _, H1, rfl, I1.kept (t' := s1.toks) up, turnM (PySem.W.ktu_apart n a b (by rw [hn]; exact Heap.lt_size e1) (by rw [hn]; exact Heap.lt_size e2)), ⟨c1, c2, ⟨_, _, c3⟩, c4, c5⟩, fun c hc => ?_, hR⟩
      exact fr c (of5 (m := fun c => n ≤ c) hc (Nat.le_add_right _ _) (Nat.le_add_right _ _) (Nat.le_add_right _ _) (Nat.le_refl _) (Nat.le_add_right _ _))
end MP
end
section
set_option Elab.async false
set_option linter.all false
set_option maxRecDepth 100000
set_option maxHeartbeats 1000000
/-! MPSound9: what a for walks, comprehensions, the held exception. -/
namespace MP
open PySem PySem.Spec PyProof.Rows L2
section
variable {X : Cx} {tg l : Expr} {tl : TE}
/-- a list or a tuple, walked -/
def iSeq (K : PySem.W.Frag) (tl : TE) : TI := fun σ H R => tl σ H fun x H1 => ∃ a, x = .ref a ∧ (((∃ vs, SqL K H1 a vs) ∧ R (Itl K a) H1) ∨ ((∃ vs, SqT K H1 a vs) ∧ R (Itt K a) H1))
theorem pi_seq (hl : PE X l tl) : PI X tg l (iSeq X.K tl) := by
  refine ⟨fun pins s σ H R I h => ?_⟩
  refine thn (hl.run pins s σ H _ I h) fun v s1 ⟨x, H1, I1, r1, a, e, q⟩ => ?_
  subst e
  cases r1
  have fresh : ∀ bb ∈ [s1.heap.objs.size], FpOk X pins H1 bb := fun bb hb => by
    obtain rfl : bb = s1.heap.objs.size := by simpa using hb
    exact I1.fpOk (Nat.le_refl _) (I1.hok.fresh (Nat.le_refl _))
  have kept : ∀ (o : Obj) (bb : Addr) (u : Obj), s1.heap.get? bb = some u → (s1.heap.push o).get? bb = some u := fun o bb u e => Heap.get?_push_of_some _ e
  rcases q with ⟨⟨vs, hq⟩, q⟩ | ⟨⟨vs, hq⟩, q⟩
  · obtain ⟨its, rv, p, hz⟩ := I1.list hq
    exact wpAny_pyIter_list p.isList ⟨_, [s1.heap.objs.size], _, _, H1, rfl, I1.kept (t' := s1.toks) (kept _), turn_list a _, ⟨_, Heap.get?_push_size _ rfl, rfl, rfl⟩, fresh, q⟩
  · obtain ⟨its, rv, p, hz⟩ := I1.tuple hq
    exact wpAny_pyIter_tuple (show s1.heap.IsTuple a its.toArray from p) ⟨_, [s1.heap.objs.size], _, _, H1, rfl, I1.kept (t' := s1.toks) (kept _), turn_tuple a _, ⟨_, Heap.get?_push_size _ rfl, rfl, rfl⟩, fresh, q⟩
end
section
variable [RT] {T : Tab} {TX : Exc} {C : Nat → List PV → Sto → R PV} {X : Cx} {W : WX} {N : List Str} {sc : Scope} {b : Nat}
variable {x y z tg : Expr} {a c d : E} {pos : Pos}
abbrev tI (K : PySem.W.Frag) (TX : Exc) (b : Nat) (W : WX) (r : Env → Sto → R MP.Walk) : TI := tG K TX b none W (WalkOk K b) r
section
variable {K : PySem.W.Frag} {ρ : List Addr} {H : Hp} {S : Sto}
theorem stands_get {S : Sto} {g : List (Nat × List PV)} (h : stands S g = true) {k : Nat} {xs : List PV} (m : (k, xs) ∈ g) : S.lst? k = some xs := by
  unfold stands at h
  exact of_decide_eq_true (List.all_eq_true.mp h (k, xs) m)
/-- a list that is walked: locked, or as it stands in the store -/
def Side (K : PySem.W.Frag) (b : Nat) (ρ : List Addr) (H : Hp) (xs : List PV) (g : List (Nat × List PV)) (p : Addr) : Prop :=
  (∃ vs, RelPs K ρ H xs vs ∧ SqL K H p vs) ∧ ∀ ρ' S' H', Keep H H' → ρ <+: ρ' → StOk K b ρ' S' H' → stands S' g = true → ∃ vs, RelPs K ρ' H' xs vs ∧ SqL K H' p vs
theorem side_ok (so : StOk K b ρ S H) {v : PV} {w : V} {q : MP.Walk} (r : RelP K ρ H v w) (e : walkV S v = some q) (nt : isTup v = false) : ∃ p, w = .ref p ∧ Side K b ρ H q.1 q.2 p := by
  unfold walkV at e
  split at e
  · cases nt
  · cases e
    obtain ⟨p, vs, rfl, h, rs⟩ := r.of_lst
    exact ⟨p, rfl, ⟨vs, rs, h.sq⟩, fun ρ' S' H' k pr so st => ⟨vs, rs.mono k pr, (k.roL h).sq⟩⟩
  · rename_i kk
    obtain ⟨p, rfl, ep⟩ := r.of_ref
    cases e1 : S.lst? kk with
    | none => rw [e1] at e; cases e
    | some xs =>
      rw [e1] at e
      cases e
      obtain ⟨vs, rs, hs⟩ := so.sql e1 ep
      exact ⟨p, rfl, ⟨vs, rs, hs⟩, fun ρ' S' H' k pr so st => so.sql (stands_get st (List.mem_singleton.mpr rfl)) (pre_get pr ep)⟩
  · cases e
theorem stands_app {S : Sto} {g g' : List (Nat × List PV)} (h : stands S (g ++ g') = true) : stands S g = true ∧ stands S g' = true := by
  unfold stands at h
  rw [List.all_append] at h
  exact Bool.and_eq_true_iff.mp h
theorem walk_lst {xs : List PV} {g : List (Nat × List PV)} {p : Addr} (sd : Side K b ρ H xs g p) : WalkOk K b ρ H (xs, g) (Itl K p) := by
  refine ⟨xs.length, fun H' => ∃ vs, SqL K H' p vs ∧ vs.length = xs.length, fun i H' w H2 => H2 = H' ∧ ∀ vs, SqL K H' p vs → vs[i]? = some w,
    ⟨fun i H' hi ⟨vs, q, hl⟩ => ⟨vs, vs[i], q, by simp [show i < vs.length by omega]⟩, fun H' ⟨vs, q, hl⟩ => ⟨vs, q, by omega⟩, fun i H' w H2 hi ⟨vs, q, hl⟩ y => y⟩, rfl, ?_, ?_⟩
  · intro ρ' S' H' k' pr so st
    obtain ⟨vs, r, q⟩ := sd.2 ρ' S' H' k' pr so st
    exact ⟨vs, q, r.length.symm⟩
  · rintro ρ' S' H' i w it H2 k' pr so st hi ⟨rfl, y⟩
    obtain ⟨vs, r, q⟩ := sd.2 ρ' S' _ k' pr so st
    obtain ⟨v, h1, h2⟩ := r.get hi
    have e := y vs q
    rw [h1] at e
    cases e
    exact ⟨.refl, so, h2⟩
theorem walk_tp {xs : List PV} {vs : List V} {p : Addr} (h : SqT K H p vs) (r : RelPs K ρ H xs vs) : WalkOk K b ρ H (xs, []) (Itt K p) := by
  refine ⟨xs.length, fun H' => SqT K H' p vs, fun i H' w H2 => H2 = H' ∧ vs[i]? = some w,
    ⟨fun i H' hi q => ⟨vs, vs[i]'(by rw [← r.length]; exact hi), q, by simp⟩, fun H' q => ⟨vs, q, by rw [r.length]; exact Nat.le_refl _⟩, fun i H' w H2 hi q y => ⟨y.1, y.2 vs q⟩⟩, rfl, fun ρ' S' H' k pr so st => k.sqT h, ?_⟩
  rintro ρ' S' H' i w it H2 k' pr so st hi ⟨rfl, y⟩
  obtain ⟨v, h1, h2⟩ := r.get hi
  rw [h1] at y
  cases y
  exact ⟨.refl, so, h2.mono k' pr⟩
theorem walk_rng {lo : Int} {n : Nat} : WalkOk K b ρ H (rngL lo n, []) (Itr lo n) := by
  refine ⟨n, fun _ => True, _, walk_range, by simp [rngL], fun _ _ _ _ _ _ _ => trivial, ?_⟩
  rintro ρ' S' H' i w it H2 k' pr so st hi ⟨rfl, rfl⟩
  unfold rngL at hi
  rw [List.getElem?_map] at hi
  cases e : (List.range n)[i]? with
  | none => rw [e] at hi; cases hi
  | some j =>
    rw [e] at hi
    cases hi
    have : j = i := by
      have h2 := List.getElem?_eq_some_iff.mp e
      obtain ⟨_, h3⟩ := h2
      simpa using h3.symm
    subst this
    exact ⟨.refl, so, .int _⟩
theorem walk_rngD {lo : Int} {n : Nat} : WalkOk K b ρ H (rngD lo n, []) (Itc lo (-1) n) := by
  refine ⟨n, fun _ => True, fun i H x H' => H' = H ∧ x = .int (lo + (i : Nat) * (-1)), ⟨fun i H' hi _ => hi, fun H' _ => Nat.le_refl _, fun i H' w H2 hi _ y => y⟩, by simp [rngD], fun _ _ _ _ _ _ _ => trivial, ?_⟩
  rintro ρ' S' H' i w it H2 k' pr so st hi ⟨rfl, rfl⟩
  unfold rngD at hi
  rw [List.getElem?_map] at hi
  cases e : (List.range n)[i]? with
  | none => rw [e] at hi; cases hi
  | some j =>
    rw [e] at hi
    cases hi
    have : j = i := by
      have h2 := List.getElem?_eq_some_iff.mp e
      obtain ⟨_, h3⟩ := h2
      simpa using h3.symm
    subst this
    refine ⟨.refl, so, ?_⟩
    show RelP K ρ' _ (.int (lo - (j : Int))) _
    rw [show lo - (j : Int) = lo + (j : Nat) * (-1) by omega]
    exact .int _
theorem pair_ok {ρ' : List Addr} {S' : Sto} {H' : Hp} {u v : PV} {p q : V} {t : Addr} (so : StOk K b ρ' S' H') (h : H' t = none) (r1 : RelP K ρ' H' u p) (r2 : RelP K ρ' H' v q) :
    Grow b ρ' ρ' S' S' H' (upd H' t (.tup [p, q])) ∧ StOk K b ρ' S' (upd H' t (.tup [p, q])) ∧ RelP K ρ' (upd H' t (.tup [p, q])) (.tup [u, v]) (.ref t) :=
  ⟨.alloc h, so.alloc h, .tup (SqT.of upd_same) (.cons (r1.mono (.new h) (List.prefix_refl _)) (.cons (r2.mono (.new h) (List.prefix_refl _)) .nil))⟩
theorem enumL_get : ∀ {xs : List PV} {n i : Nat} {it : PV}, (enumL n xs)[i]? = some it → ∃ x, xs[i]? = some x ∧ it = .tup [.int ((n + i : Nat) : Int), x]
  | [], _, _, _, h => by simp [enumL] at h
  | x :: xs, n, 0, it, h => by
    have e : PV.tup [.int (n : Int), x] = it := by simpa [enumL] using h
    exact ⟨x, rfl, by rw [← e]; simp⟩
  | x :: xs, n, i + 1, it, h => by
    obtain ⟨y, h1, h2⟩ := enumL_get (xs := xs) (n := n + 1) (i := i) (it := it) (by simpa [enumL] using h)
    exact ⟨y, by simpa using h1, by rw [h2]; congr 3; omega⟩
theorem enumL_len : ∀ (xs : List PV) (n : Nat), (enumL n xs).length = xs.length
  | [], _ => rfl
  | x :: xs, n => by simp [enumL, enumL_len xs (n + 1)]
theorem walk_en {xs : List PV} {g : List (Nat × List PV)} {p : Addr} (sd : Side K b ρ H xs g p) : WalkOk K b ρ H (enumL 0 xs, g) (Ite K p) := by
  refine ⟨xs.length, fun H' => ∃ vs, SqL K H' p vs ∧ vs.length = xs.length, fun i H' w H2 => ∃ t u, w = .ref t ∧ H' t = none ∧ H2 = upd H' t (.tup [.int (i : Nat), u]) ∧ ∀ vs, SqL K H' p vs → vs[i]? = some u,
    ⟨fun i H' hi ⟨vs, q, hl⟩ => ⟨vs, vs[i], q, by simp [show i < vs.length by omega]⟩, fun H' ⟨vs, q, hl⟩ => ⟨vs, q, by omega⟩, fun i H' w H2 hi ⟨vs, q, hl⟩ y => y⟩, enumL_len xs 0, ?_, ?_⟩
  · intro ρ' S' H' k' pr so st
    obtain ⟨vs, r, q⟩ := sd.2 ρ' S' H' k' pr so st
    exact ⟨vs, q, r.length.symm⟩
  · rintro ρ' S' H' i w it H2 k' pr so st hi ⟨t, u, rfl, ht, rfl, y⟩
    obtain ⟨vs, r, q⟩ := sd.2 ρ' S' H' k' pr so st
    obtain ⟨x, hx, rfl⟩ := enumL_get hi
    obtain ⟨v, h1, h2⟩ := r.get hx
    have e := y vs q
    rw [h1] at e
    cases e
    rw [Nat.zero_add]
    exact pair_ok so ht (.int _) h2
theorem pairs_get {xs ys : List PV} {i : Nat} {it : PV} (h : (pairs xs ys)[i]? = some it) : ∃ x y, xs[i]? = some x ∧ ys[i]? = some y ∧ it = .tup [x, y] := by
  unfold pairs at h
  rw [List.getElem?_map] at h
  cases e : (xs.zip ys)[i]? with
  | none => rw [e] at h; cases h
  | some p =>
    rw [e] at h
    cases h
    obtain ⟨h1, h2⟩ := List.getElem?_zip_eq_some.mp e
    exact ⟨p.1, p.2, h1, h2, rfl⟩
/-- a row of either kind that is walked -/
def SideM (K : PySem.W.Frag) (b : Nat) (ρ : List Addr) (H : Hp) (xs : List PV) (g : List (Nat × List PV)) (k : Bool) (p : Addr) : Prop :=
  (∃ vs, RelPs K ρ H xs vs ∧ sqK K k H p vs) ∧ ∀ ρ' S' H', Keep H H' → ρ <+: ρ' → StOk K b ρ' S' H' → stands S' g = true → ∃ vs, RelPs K ρ' H' xs vs ∧ sqK K k H' p vs
theorem side_any (so : StOk K b ρ S H) {v : PV} {w : V} {q : MP.Walk} (r : RelP K ρ H v w) (e : walkV S v = some q) : ∃ k p, w = .ref p ∧ SideM K b ρ H q.1 q.2 k p := by
  by_cases nt : isTup v = true
  · cases v with
    | tup xs =>
      cases e
      obtain ⟨p, vs, rfl, hq, rs⟩ := RelP.of_tup r
      exact ⟨true, p, rfl, ⟨vs, rs, hq⟩, fun ρ' S' H' k pr so' st => ⟨vs, rs.mono k pr, k.sqT hq⟩⟩
    | _ => cases nt
  · obtain ⟨p, rfl, sd⟩ := side_ok so r e (by simpa using nt)
    exact ⟨false, p, rfl, sd⟩
theorem walk_zm {xs ys : List PV} {g g' : List (Nat × List PV)} {k m : Bool} {p q : Addr} (sd : SideM K b ρ H xs g k p) (sd' : SideM K b ρ H ys g' m q) : WalkOk K b ρ H (pairs xs ys, g ++ g') (itsM K k m p q) := by
  refine ⟨min xs.length ys.length, fun H' => (∃ vs, sqK K k H' p vs ∧ vs.length = xs.length) ∧ ∃ vs, sqK K m H' q vs ∧ vs.length = ys.length,
    fun i H' w H2 => ∃ t u v, w = .ref t ∧ H' t = none ∧ H2 = upd H' t (.tup [u, v]) ∧ (∀ vs, sqK K k H' p vs → vs[i]? = some u) ∧ ∀ vs, sqK K m H' q vs → vs[i]? = some v,
    ⟨fun i H' hi ⟨⟨vs, h1, l1⟩, ws, h2, l2⟩ => ?_, fun H' ⟨⟨vs, h1, l1⟩, ws, h2, l2⟩ => ⟨vs, ws, h1, h2, by omega, by omega, by omega⟩, fun i H' w H2 hi _ y => y⟩, by simp [pairs], ?_, ?_⟩
  · have a1 : i < vs.length := by omega
    have a2 : i < ws.length := by omega
    exact ⟨vs, ws, vs[i], ws[i], h1, h2, by simp [a1], by simp [a2]⟩
  · intro ρ' S' H' k' pr so st
    obtain ⟨s1, s2⟩ := stands_app st
    obtain ⟨vs, r, h⟩ := sd.2 ρ' S' H' k' pr so s1
    obtain ⟨ws, r2, h2⟩ := sd'.2 ρ' S' H' k' pr so s2
    exact ⟨⟨vs, h, r.length.symm⟩, ws, h2, r2.length.symm⟩
  · rintro ρ' S' H' i w it H2 k' pr so st hi ⟨t, u, v, rfl, ht, rfl, y1, y2⟩
    obtain ⟨s1, s2⟩ := stands_app st
    obtain ⟨vs, r, h⟩ := sd.2 ρ' S' H' k' pr so s1
    obtain ⟨ws, r2, h2⟩ := sd'.2 ρ' S' H' k' pr so s2
    obtain ⟨x, z, hx, hz, rfl⟩ := pairs_get hi
    obtain ⟨u', e1, q1⟩ := r.get hx
    obtain ⟨v', e2, q2⟩ := r2.get hz
    have f1 := y1 vs h
    have f2 := y2 ws h2
    rw [e1] at f1
    rw [e2] at f2
    cases f1
    cases f2
    exact pair_ok so ht q1 q2
theorem SideM.mono {xs : List PV} {g : List (Nat × List PV)} {k : Bool} {p : Addr} {H1 : Hp} {ρ1 : List Addr} (sd : SideM K b ρ H xs g k p) {S1 : Sto} (kp : Keep H H1) (pr : ρ <+: ρ1) (so : StOk K b ρ1 S1 H1) (st : stands S1 g = true) : SideM K b ρ1 H1 xs g k p :=
  ⟨sd.2 ρ1 S1 H1 kp pr so st, fun ρ' S' H' k' pr' so' st' => sd.2 ρ' S' H' (kp.trans k') (pr.trans pr') so' st'⟩
end
theorem i_seq (ha : PE X x (tE X.K TX b none W (ev C b a))) : PI X tg x (tI X.K TX b W (evi C b (.seq a))) := by
  refine ⟨fun pins s τ H R I hq => (pi_seq ha).run pins s τ H R I ?_⟩
  obtain ⟨ρ, σ, S, so, eo, h⟩ := hq
  unfold evi at h
  refine ⟨ρ, σ, S, so, eo, At.mono (At.bd (rel := relE X.K) h) fun w H1 ⟨ρ1, v, S1, _, g1, so1, r1, h1⟩ => ?_⟩
  obtain ⟨k, e, h2⟩ := At.opt h1
  by_cases nt : isTup v = true
  · cases v with
    | tup xs =>
      cases e
      obtain ⟨p, vs, rfl, hq, rs⟩ := RelP.of_tup r1
      exact ⟨p, rfl, .inr ⟨⟨vs, hq⟩, At.ok (rel := WalkOk X.K b) so1 h2 (walk_tp hq rs)⟩⟩
    | _ => cases nt
  · obtain ⟨p, rfl, sd⟩ := side_ok so1 r1 e (by simpa using nt)
    obtain ⟨vs, rs, hs⟩ := sd.1
    exact ⟨p, rfl, .inl ⟨⟨vs, hs⟩, At.ok (rel := WalkOk X.K b) so1 h2 (walk_lst sd)⟩⟩
theorem small_ok {i : Int} (h : small i = true) : -(2 ^ 62) ≤ i ∧ i < 2 ^ 62 := by
  have h' := Bool.and_eq_true_iff.mp h
  exact ⟨of_decide_eq_true h'.1, of_decide_eq_true h'.2⟩
theorem i_rng1 {p : Pos} (hg : Gl X "range") (hm : X.mg "range" = none) (ha : PE X x (tE X.K TX b none W (ev C b a))) (hs : starEach [x] X.env = [(false, eval x X.env)]) : PI X tg (.Call (.Name "range" p) [x] [] pos) (tI X.K TX b W (evi C b (.rng1 a))) := by
  refine ⟨fun pins s τ H R I hq => (pi_range1 hg hm (pa_cons ha pa_nil hs) hs).run pins s τ H R I ?_⟩
  obtain ⟨ρ, σ, S, so, eo, h⟩ := hq
  unfold evi at h
  refine ⟨ρ, σ, S, so, eo, At.mono (At.bd (rel := relE X.K) h) fun w H1 ⟨ρ1, v, S1, _, g1, so1, r1, h1⟩ => ?_⟩
  split at h1
  · split at h1
    · rename_i hs
      obtain ⟨s1, s2⟩ := small_ok hs
      obtain rfl := RelP.of_int r1
      exact ⟨_, rfl, s1, s2, At.ok (rel := WalkOk X.K b) so1 h1 walk_rng⟩
    · exact h1.elim
  · exact h1.elim
theorem i_rng2 {p : Pos} (hg : Gl X "range") (hm : X.mg "range" = none) (ha : PE X x (tE X.K TX b none W (ev C b a))) (hb : PE X y (tE X.K TX b none W (ev C b c))) (hs : ∀ es, starEach (x :: es) X.env = (false, eval x X.env) :: starEach es X.env)
    (hs2 : starEach [y] X.env = [(false, eval y X.env)]) : PI X tg (.Call (.Name "range" p) [x, y] [] pos) (tI X.K TX b W (evi C b (.rng2 a c))) := by
  refine ⟨fun pins s τ H R I hq => (pi_range2 hg hm (pa_cons ha (pa_cons hb pa_nil hs2) (hs _)) (by rw [hs, hs2]) hs2).run pins s τ H R I ?_⟩
  obtain ⟨ρ, σ, S, so, eo, h⟩ := hq
  unfold evi at h
  refine ⟨ρ, σ, S, so, eo, At.mono (At.bd (rel := relE X.K) h) fun w H1 ⟨ρ1, v, S1, _, g1, so1, r1, h1⟩ => ?_⟩
  refine ⟨ρ1, σ, S1, so1, eo.grow g1, At.mono (At.bd (rel := relE X.K) h1) fun w2 H2 ⟨ρ2, u, S2, _, g2, so2, r2, h2⟩ => ?_⟩
  split at h2
  · split at h2
    · rename_i hs
      have hs' := Bool.and_eq_true_iff.mp hs
      obtain ⟨s1, s2⟩ := small_ok hs'.1
      obtain ⟨s3, s4⟩ := small_ok hs'.2
      obtain rfl := RelP.of_int r1
      obtain rfl := RelP.of_int r2
      exact ⟨_, _, rfl, ⟨s1, s2, s3, s4⟩, At.ok (rel := WalkOk X.K b) so2 h2 walk_rng⟩
    · exact h2.elim
  · exact h2.elim
theorem i_zip {elts : List Expr} {kk : Nat} {p tpos : Pos} (hg : Gl X "zip") (hm : X.mg "zip" = none) (ha : PE X x (tE X.K TX b none W (ev C b a))) (hb : PE X y (tE X.K TX b none W (ev C b c))) (hs : ∀ es, starEach (x :: es) X.env = (false, eval x X.env) :: starEach es X.env)
    (hs2 : starEach [y] X.env = [(false, eval y X.env)]) : PI X (.Tuple elts kk tpos) (.Call (.Name "zip" p) [x, y] [] pos) (tI X.K TX b W (evi C b (.zip a c))) := by
  refine ⟨fun pins s τ H R I hq => (pi_zipM hg hm (pa_cons ha (pa_cons hb pa_nil hs2) (hs _)) (hs _) (by rw [hs2]; rfl)).run pins s τ H R I ?_⟩
  obtain ⟨ρ, σ, S, so, eo, h⟩ := hq
  unfold evi at h
  refine ⟨ρ, σ, S, so, eo, At.mono (At.bd (rel := relE X.K) h) fun w H1 ⟨ρ1, v, S1, _, g1, so1, r1, h1⟩ => ?_⟩
  refine ⟨ρ1, σ, S1, so1, eo.grow g1, At.mono (At.bd (rel := relE X.K) h1) fun w2 H2 ⟨ρ2, u, S2, _, g2, so2, r2, h2⟩ => ?_⟩
  have r1' := RelP.mono g2.keep g2.pre r1
  obtain ⟨k, e, h3⟩ := At.opt h2
  unfold zipV at e
  split at e
  · rename_i wa wb f1 f2
    cases e
    obtain ⟨k1, p1, rfl, sd⟩ := side_any so2 r1' f1
    obtain ⟨k2, p2, rfl, sd'⟩ := side_any so2 r2 f2
    obtain ⟨vs, rs1, q1⟩ := sd.1
    obtain ⟨ws, rs2, q2⟩ := sd'.1
    exact ⟨k1, k2, p1, p2, vs, ws, rfl, q1, q2, At.ok (rel := WalkOk X.K b) so2 h3 (walk_zm sd sd')⟩
  · cases e
theorem i_rng3 {p p2 p3 : Pos} {k3 : Nat} (hg : Gl X "range") (hm : X.mg "range" = none) (ha : PE X x (tE X.K TX b none W (ev C b a))) (hb : PE X y (tE X.K TX b none W (ev C b c))) (hs : ∀ es, starEach (x :: es) X.env = (false, eval x X.env) :: starEach es X.env)
    (hs2 : ∀ es, starEach (y :: es) X.env = (false, eval y X.env) :: starEach es X.env) : PI X tg (.Call (.Name "range" p) [x, y, .UnaryOp .USub (.Constant (.int 1) k3 p3) p2] [] pos) (tI X.K TX b W (evi C b (.rng3 a c))) := by
  have pm : PE X (.UnaryOp .USub (.Constant (.int 1) k3 p3) p2) (tC (.int (-1))) := PE.weak (pe_un un_neg pe_int) fun τ H Q q => ⟨1, rfl, q⟩
  refine ⟨fun pins s τ H R I hq => (pi_range3 hg hm (pa_cons ha (pa_cons hb (pa_cons pm pa_nil) (hs2 _)) (hs _)) (hs _) (by rw [hs2]; rfl)).run pins s τ H R I ?_⟩
  obtain ⟨ρ, σ, S, so, eo, h⟩ := hq
  unfold evi at h
  refine ⟨ρ, σ, S, so, eo, At.mono (At.bd (rel := relE X.K) h) fun w H1 ⟨ρ1, v, S1, _, g1, so1, r1, h1⟩ => ?_⟩
  refine ⟨ρ1, σ, S1, so1, eo.grow g1, At.mono (At.bd (rel := relE X.K) h1) fun w2 H2 ⟨ρ2, u, S2, _, g2, so2, r2, h2⟩ => ?_⟩
  split at h2
  · split at h2
    · rename_i hs
      have hs' := Bool.and_eq_true_iff.mp hs
      obtain ⟨s1, s2⟩ := small_ok hs'.1
      obtain ⟨s3, s4⟩ := small_ok hs'.2
      obtain rfl := RelP.of_int r1
      obtain rfl := RelP.of_int r2
      exact ⟨_, _, _, _, rfl, .neg s1 s2 s3 s4, At.ok (rel := WalkOk X.K b) so2 h2 walk_rngD⟩
    · exact h2.elim
  · exact h2.elim
theorem i_enum {elts : List Expr} {kk : Nat} {p tpos : Pos} (hg : Gl X "enumerate") (hm : X.mg "enumerate" = none) (ha : PE X x (tE X.K TX b none W (ev C b a))) (hs : starEach [x] X.env = [(false, eval x X.env)]) :
    PI X (.Tuple elts kk tpos) (.Call (.Name "enumerate" p) [x] [] pos) (tI X.K TX b W (evi C b (.enum a))) := by
  refine ⟨fun pins s τ H R I hq => (pi_enum hg hm (pa_cons ha pa_nil hs) hs).run pins s τ H R I ?_⟩
  obtain ⟨ρ, σ, S, so, eo, h⟩ := hq
  unfold evi at h
  refine ⟨ρ, σ, S, so, eo, At.mono (At.bd (rel := relE X.K) h) fun w H1 ⟨ρ1, v, S1, _, g1, so1, r1, h1⟩ => ?_⟩
  obtain ⟨k, e, h2⟩ := At.opt h1
  unfold enumV at e
  split at e
  · rename_i wv nt e1
    cases e
    obtain ⟨p, rfl, sd⟩ := side_ok so1 r1 e1 nt
    obtain ⟨vs, rs, q⟩ := sd.1
    exact ⟨p, vs, rfl, q, At.ok (rel := WalkOk X.K b) so1 h2 (walk_en sd)⟩
  · cases e
end
end MP
end
section
set_option Elab.async false
set_option linter.all false
set_option maxRecDepth 100000
set_option maxHeartbeats 1000000
/-! MPSound10: comprehensions, the held exception; every expression that is looked at runs like its MP. -/
namespace MP
open PySem PySem.Spec PyProof.Rows L2
section
variable [RT] {T : Tab} {TX : Exc} {C : Nat → List PV → Sto → R PV} {X : Cx} {W : WX} {N : List Str} {sc : Scope} {b : Nat} {cl : Bool} {ex : Option Held}
variable {x y z tg : Expr} {a c d : E} {pos : Pos}
/-! ### an exception's attribute, isinstance of it -/
theorem zip_lookup {K : PySem.W.Frag} {ρ : List Addr} {H : Hp} : ∀ {fs : List Str} {as : List PV} {ws : List V} {j : Nat} {f : Str} {v : PV}, fs.Nodup → RelPs K ρ H as ws → fs[j]? = some f → as[j]? = some v → ∃ w, (fs.zip ws).lookup f = some w ∧ RelP K ρ H v w
  | [], _, _, _, _, _, _, _, e, _ => by simp at e
  | _ :: _, [], _, _, _, _, _, .nil, _, e => by simp at e
  | g :: fs, u :: as, w :: ws, 0, f, v, _, .cons r _, e1, e2 => by
    have e1 : g = f := by simpa using e1
    have e2 : u = v := by simpa using e2
    subst e1
    subst e2
    exact ⟨w, by simp [List.lookup], r⟩
  | g :: fs, u :: as, w :: ws, j + 1, f, v, nd, .cons _ t, e1, e2 => by
    have nd' := List.nodup_cons.mp nd
    have e1 : fs[j]? = some f := by simpa using e1
    obtain ⟨w', h1, h2⟩ := zip_lookup nd'.2 t e1 (by simpa using e2)
    refine ⟨w', ?_, h2⟩
    have ne : (f == g) = false := by
      have : f ≠ g := fun z => nd'.1 (by rw [← z]; exact List.mem_of_getElem? e1)
      simpa using this
    rw [List.zip_cons_cons, List.lookup_cons, ne]
    exact h1
theorem s_eat (cx : Ctx T TX C X W N sc cl ex) {i j k : Nat} {n f : Str} {p : Pos} {kc : Nat} (hh : hxOf ex = some (k, kc)) (hk : k = i) (h1 : atB N i n = true) (h2 : visB sc n = true) (h3 : nameB n = true) (hf : (T.cls[kc]?.bind fun p => p.2.1[j]?) = some f)
    (hnd : ∀ p, T.cls[kc]? = some p → p.2.1.Nodup) : PE X (.Attribute (.Name n p) f pos) (tE X.K TX b ex W (ev C b (.eat i j))) := by
  obtain ⟨q, hq, e1, e2⟩ : ∃ q, ex = some q ∧ q.i = k ∧ q.c = kc := by
    cases ex with
    | none => cases hh
    | some q => have e : (q.i, q.c) = (k, kc) := by simpa [hxOf] using hh
                exact ⟨q, rfl, congrArg Prod.fst e, congrArg Prod.snd e⟩
  subst hk
  subst e1
  subst e2
  obtain ⟨oe, pn, calm, ⟨Y, hY⟩, hz, ⟨vs, hv⟩, tab⟩ := cx.held q hq
  cases hp : T.cls[q.c]? with
  | none => rw [hp] at hf; cases hf
  | some pp =>
    rw [hp] at hf
    have hf : pp.2.1[j]? = some f := hf
    obtain ⟨t1, _⟩ := tab pp hp
    obtain ⟨ga, gg, sb, hd, nf⟩ := t1 f (List.mem_of_getElem? hf)
    have at_ := cx.attrs q.c pp hp
    have nd := hnd pp hp
    obtain ⟨n1, n2, _⟩ := nameB_ok h3
    have pn' : PE X (.Name n p) (tVar q.i) := pe_var (by rw [cx.names]; exact atB_ok h1) (by rw [cx.scope]; exact visB_ok h2) n1 n2
    refine ⟨fun pins s τ H Q I ht => ?_⟩
    obtain ⟨ρ, σ, S, so, eo, h⟩ := ht
    obtain ⟨as, s1, s2, x0, x1, x2, x3⟩ := eo.held q hq
    unfold ev at h
    rw [s1] at h
    obtain ⟨v, ev', h⟩ := At.opt (show At _ _ _ _ _ _ _ _ (MP.opt as[j]? S) Q from h)
    refine attr_of (by rfl) (thn (pn'.run pins s τ H (fun w H1 => w = .ref q.a ∧ H1 = H) I ⟨_, s2, rfl, rfl⟩) fun u s1' ⟨w, H1, I1, rw', e3, e4⟩ => ?_)
    subst e3
    subst e4
    obtain rfl : u = Value.ref q.a := rw'
    rcases x3 with ⟨z, _⟩ | ⟨_, dd, fs, ws, e5, e6, el, r⟩
    · rw [at_] at z
      rw [z] at hf
      simp at hf
    · rw [at_] at el
      obtain ⟨w, l1, l2⟩ := zip_lookup nd r hf ev'
      rw [← el] at l1
      obtain ⟨mA, ns, hr⟩ : ObjOk X.prog X.w H1 s1'.heap dd (.xd fs) := I1.hok dd _ e6
      obtain ⟨od, ho, hl⟩ := lookIn_ns ns
      obtain ⟨u, hu, ru⟩ := RelO.some_of (v := w) (o := mA f) (by rw [← l1]; exact hr f)
      have pin : s1'.heap.get? q.a = some oe := by
        have hm : (q.a, oe) ∈ X.pn := by rw [hY]; exact List.mem_cons_self
        exact (I1.pin (q.a, oe) (List.mem_append_left _ hm)).1
      have J : PySem.W.InstAt s1'.heap q.a oe (TX.at_ q.c) (some od) := ⟨pin, by rw [hz.1, x1], by unfold PySem.W.notCls; rw [hv] <;> rfl, by rw [hz.2, e5]; exact ho⟩
      exact HandSPX.exc_get I1.kIn J ga gg sb (PySem.W.findObj_own hd nf rfl (by rw [hl, hu])) (handed_of ru) ⟨w, H1, I1.tok _, ru, At.ok so h l2⟩
/-- isinstance of an exception that is held, with a dict or without -/
def rIsD (K : PySem.W.Frag) (D a : Addr) (d : Option Addr) : List V → Hp → VK → Prop := fun xs H Q => ∃ (c : V) (cv : Value) (b : Bool), xs = [.ref a, c] ∧ (∀ u, RelV c u → u = cv) ∧ PySem.W.kitOne K (.ref D) cv = some b ∧ (∀ dd, d = some dd → ∃ fs, H dd = some (.xd fs)) ∧ Q (.bl b) H
theorem call_isD {X : Cx} {a D : Addr} {d : Option Addr} {oe : Obj} {pn : List (Addr × Obj)} (C : ExcC X.K D) (hz : Zc (.ref D) d oe) (hf : ∃ vs, oe.data = .fields vs) : CallR (X.suite a ((a, oe) :: pn)) (.builtin "isinstance") (rIsD X.K D a d) := by
  rintro pins s σ H xs us Q I r ⟨c, cv, b, rfl, hcv, e, hd, q⟩
  obtain ⟨u1, u2, rfl, r1, r2⟩ : ∃ u1 u2, us = [u1, u2] ∧ RelV (.ref a) u1 ∧ RelV c u2 := by
    cases r with
    | cons x t => cases t with
      | cons y t => cases t; exact ⟨_, _, rfl, x, y⟩
  obtain rfl : u1 = Value.ref a := r1
  obtain rfl := hcv _ r2
  have pin := (I.pin (a, oe) (List.mem_append.mpr (.inl List.mem_cons_self))).1
  obtain ⟨fv, hfv⟩ := hf
  have nc : PySem.W.notCls oe := by unfold PySem.W.notCls; rw [hfv] <;> rfl
  obtain ⟨cd, hcd⟩ : ∃ cd, PySem.W.clsIn X.K D = some cd := by
    cases q : PySem.W.clsIn X.K D with
    | none => have z := C.hd; unfold PySem.W.hasDictIn at z; rw [q] at z; cases z
    | some cd => exact ⟨cd, rfl⟩
  have hc : (PySem.W.clsIn X.K D).isSome = true := by rw [hcd]; rfl
  have done : ∀ od, PySem.W.InstAt s.heap a oe D od → wpAny (model X.prog X.w) (X.suite a ((a, oe) :: pn)).A (call (.builtin "isinstance") [.ref a, u2]) (EP (X.suite a ((a, oe) :: pn)) pins σ Q) (X.suite a ((a, oe) :: pn)).xe s := fun od J =>
    PySem.W.kia_one (PySem.W.kitx_exc hc C.hg C.hk C.hs C.ha C.hn C.ht C.hm) I.kIn J e (fun z => nomatch z) fun tk => ⟨.bl b, H, I.kept (t' := tk) fun _ _ z => z, rfl, q⟩
  cases d with
  | none => exact done none ⟨pin, hz.1, nc, by rw [hz.2]; trivial⟩
  | some dd =>
    obtain ⟨fs, hx⟩ := hd dd rfl
    obtain ⟨mA, ns, hr⟩ : ObjOk X.prog X.w H s.heap dd (.xd fs) := I.hok dd _ hx
    obtain ⟨od, ho, _⟩ := lookIn_ns ns
    exact done (some od) ⟨pin, hz.1, nc, by rw [hz.2]; exact ho⟩
theorem s_eisi (cx : Ctx T TX C X W N sc cl ex) {i k kc : Nat} {n m g : Str} {p p2 p3 : Pos} (hh : hxOf ex = some (k, kc)) (hk : k = i) (h1 : atB N i n = true) (h2 : visB sc n = true) (h3 : nameB n = true) (hm : gloB sc m = true) (em : m = "isinstance") (bm : T.bi.contains m = true)
    (hg : gloB sc g = true) (hc : ((T.cls[kc]?).any fun p => p.2.2.contains g) = true) : PE X (.Call (.Name m p) [.Name n p2, .Name g p3] [] pos) (tE X.K TX b ex W (ev C b (.eisi i))) := by
  obtain ⟨q, hq, e1, e2⟩ : ∃ q, ex = some q ∧ q.i = k ∧ q.c = kc := by
    cases ex with
    | none => cases hh
    | some q => have e : (q.i, q.c) = (k, kc) := by simpa [hxOf] using hh
                exact ⟨q, rfl, congrArg Prod.fst e, congrArg Prod.snd e⟩
  subst hk
  subst e1
  subst e2
  obtain ⟨oe, pn, calm, ⟨Y, hY⟩, hz, hv, tab⟩ := cx.held q hq
  cases hp : T.cls[q.c]? with
  | none => rw [hp] at hc; simp at hc
  | some pp =>
    rw [hp] at hc
    have hc : pp.2.2.contains g = true := by simpa using hc
    obtain ⟨_, t2⟩ := tab pp hp
    obtain ⟨g1, g2, _, g4⟩ := cx.gl hm
    obtain ⟨k1, k2, _, k4⟩ := cx.gl hg
    subst em
    have mn : X.mg "isinstance" = none := (cx.free _ bm).2 (by decide +kernel)
    obtain ⟨n1, n2, _⟩ := nameB_ok h3
    have pn' : PE X (.Name n p2) (tVar q.i) := pe_var (by rw [cx.names]; exact atB_ok h1) (by rw [cx.scope]; exact visB_ok h2) n1 n2
    refine ⟨fun pins s τ H Q I ht => ?_⟩
    obtain ⟨ρ, σ, S, so, eo, h⟩ := ht
    obtain ⟨as, s1, s2, x0, x1, x2, x3⟩ := eo.held q hq
    unfold ev at h
    rw [s1] at h
    have h : At X.K TX b _ (relE X.K) ρ S H (.ok (.bl true) S) Q := h
    obtain ⟨EC, sup⟩ := t2
    have at_ := cx.attrs q.c pp hp
    have xdd : ∀ dd, q.d = some dd → ∃ fs, H dd = some (.xd fs) := fun dd e => by
      rcases x3 with ⟨_, z⟩ | ⟨_, d2, fs, _, z, hx, _⟩
      · rw [z] at e; cases e
      · rw [z] at e; cases e; exact ⟨fs, hx⟩
    obtain ⟨cv, u, hu, ru, un, kit⟩ := sup g hc
    have pg' : PE X (.Name g p3) (tC cv) := by
      rcases hu with hu | ⟨hu, hb, _⟩
      · exact pe_glob k1 hu ru k2
      · exact pe_bltn k1 hu hb ru k4 k2
    have ci : CallR X (.builtin "isinstance") (rIsD X.K (TX.at_ q.c) q.a q.d) := by
      have hz' : Zc (.ref (TX.at_ q.c)) q.d oe := by rw [← x1]; exact hz
      have z := call_isD (X := Y) (a := q.a) (D := TX.at_ q.c) (d := q.d) (oe := oe) (pn := pn) (by have e := EC; rw [hY] at e; exact e) hz' hv
      rw [hY]
      exact z
    exact (pe_callB ci g1 mn boot_isinstance (pa_cons pn' (pa_cons pg' pa_nil)) g4 g2).run pins s τ H Q I ⟨_, s2, cv, u, true, rfl, un, kit, xdd, At.ok (rel := relE X.K) so h (.bl true)⟩
/-! ### comprehensions -/
/-- a list that no number tells of, made meanwhile -/
theorem Grow.aside {ρ ρ' : List Addr} {S S' : Sto} {H H' : Hp} {D : Addr} {vs : List V} {o : HO} (g : Grow b ρ ρ' S S' H H') (hD : H D = none) (h : H' D = some (.lst vs)) : Grow b ρ ρ' S S' H (upd H' D o) :=
  ⟨g.keep.trans (.wlst h), g.pre, g.len, fun a u e n => let ⟨e1, n1⟩ := g.frame a u e n; ⟨by rw [upd_ne (ne_of_none e hD)]; exact e1, n1⟩, g.und⟩
theorem StOk.aside {K : PySem.W.Frag} {ρ : List Addr} {S : Sto} {H : Hp} {D : Addr} {vs : List V} {o : HO} (so : StOk K b ρ S H) (nd : D ∉ ρ) (h : H D = some (.lst vs)) : StOk K b ρ S (upd H D o) :=
  ⟨so.len, fun k c a q e => (so.cell k c a q e).keep (.wlst h) (List.prefix_refl _) fun _ u _ z => by rw [upd_ne fun (z' : a = D) => nd (by rw [← z']; exact List.mem_of_getElem? e)]; exact z, so.inj, so.base⟩
/-- it becomes a cell -/
theorem StOk.adopt {K : PySem.W.Frag} {ρ : List Addr} {S : Sto} {H : Hp} {D : Addr} {xs : List PV} {vs : List V} (so : StOk K b ρ S H) (nd : D ∉ ρ) (h : H D = some (.lst vs)) (r : RelPs K ρ H xs vs) : StOk K b (ρ ++ [D]) (S.push (.lst xs)) H := by
  have pp : ρ <+: ρ ++ [D] := List.prefix_append _ _
  have L := so.len
  have gc : ∀ {k : Nat} {d : Cell}, (S.push (.lst xs)).cells[k]? = some d → (k < S.cells.length ∧ S.cells[k]? = some d) ∨ (k = S.cells.length ∧ d = .lst xs) := fun {k d} q => by
    rcases get_snoc (show (S.cells ++ [.lst xs])[k]? = some d from q) with q | q
    · exact .inl ⟨(List.getElem?_eq_some_iff.mp q).1, q⟩
    · exact .inr q
  have ga : ∀ {k : Nat} {a : Addr}, (ρ ++ [D])[k]? = some a → (k < S.cells.length ∧ ρ[k]? = some a) ∨ (k = S.cells.length ∧ a = D) := fun {k a} e => by
    rcases get_snoc e with e | ⟨e, f⟩
    · have := (List.getElem?_eq_some_iff.mp e).1
      exact .inl ⟨by omega, e⟩
    · exact .inr ⟨by omega, f⟩
  have old : ∀ {k : Nat} {a : Addr}, ρ[k]? = some a → a ≠ D := fun e z => nd (by rw [← z]; exact List.mem_of_getElem? e)
  refine ⟨by simp [Sto.push, so.len], fun k d a q e => ?_, fun j k a d d' e1 e2 q1 q2 n1 n2 => ?_, by have := so.base; simp [Sto.push]; omega⟩
  · rcases gc q with ⟨l1, q⟩ | ⟨l1, hd⟩ <;> rcases ga e with ⟨l2, e⟩ | ⟨l2, ha⟩
    · exact (so.cell k d a q e).keep (.refl _) pp fun _ u _ z => z
    · omega
    · omega
    · rw [hd, ha]; exact ⟨vs, r.mono (.refl _) pp, h⟩
  · rcases gc q1 with ⟨l1, q1⟩ | ⟨l1, hd1⟩ <;> rcases gc q2 with ⟨l2, q2⟩ | ⟨l2, hd2⟩ <;> rcases ga e1 with ⟨m1, f1⟩ | ⟨m1, f1⟩ <;> rcases ga e2 with ⟨m2, f2⟩ | ⟨m2, f2⟩ <;> try omega
    · exact so.inj j k a d d' f1 f2 q1 q2 n1 n2
    · exact absurd f2 (old f1)
    · exact absurd f1 (old f2)
theorem Grow.adopt {ρ ρ' : List Addr} {S S' : Sto} {H H' : Hp} {D : Addr} {c : Cell} (g : Grow b ρ ρ' S S' H H') (hb : b ≤ S'.cells.length) (hD : H D = none) : Grow b ρ (ρ' ++ [D]) S (S'.push c) H H' :=
  ⟨g.keep, g.pre.trans (List.prefix_append _ _), Nat.le_trans g.len (by simp [Sto.push]), fun a u e n => let ⟨e1, n1⟩ := g.frame a u e n; ⟨e1, fun m => (List.mem_append.mp m).elim n1 fun z => ne_of_none e hD (List.mem_singleton.mp z)⟩, fun e => by
    obtain ⟨h1, h2⟩ := g.und e
    refine ⟨h1, fun n hn u k d hk q => ?_⟩
    rw [show (S'.push c).cells = S'.cells ++ [c] from rfl, List.getElem?_append_left (by omega)] at q
    exact h2 n hn u k d hk q⟩
theorem noExc_At {α β : Type} {K : PySem.W.Frag} {E E' : XK} {rel : List Addr → Hp → α → β → Prop} {ρ : List Addr} {S : Sto} {H : Hp} {r : R α} {Q : β → Hp → Prop} (h : At K TX b E rel ρ S H (noExc r) Q) : At K TX b E' rel ρ S H r Q := by
  cases r with
  | ok v S' => exact h
  | exc c as S' => exact h.elim
  | bad => exact h
/-- the turns' reading: from any place of the walk -/
theorem At.noE {α β : Type} {K : PySem.W.Frag} {E E' : XK} {rel : List Addr → Hp → α → β → Prop} {ρ : List Addr} {S : Sto} {H : Hp} {r : R α} {Q : β → Hp → Prop} (h : At K TX b (fun _ _ _ => False) rel ρ S H r Q) : At K TX b E rel ρ S H r Q := by
  cases r with
  | ok v S' => exact h
  | exc c as S' => exact fun ρ' H' cls d g so x => (h ρ' H' cls d g so x).elim
  | bad => exact h
end
end MP
end
section
set_option Elab.async false
set_option linter.all false
set_option maxRecDepth 100000
set_option maxHeartbeats 1000000
/-! MPSound11: comprehensions; every expression that is looked at runs like its MP. -/
namespace MP
open PySem PySem.Spec PyProof.Rows L2
section
variable [RT] {T : Tab} {TX : Exc} {C : Nat → List PV → Sto → R PV} {X : Cx} {W : WX} {N : List Str} {sc : Scope} {b : Nat} {cl : Bool} {ex : Option Held}
variable {x y z tg : Expr} {a c d : E} {pos : Pos}
abbrev noW : WX := fun _ _ _ _ => False
theorem Ctx.blk (cx : Ctx T TX C X W N sc true none) (s : Shared) (H : Hp) (scope : Scope) (A : Addr) (cs : List (Str × Addr)) (fp : List Addr) : Ctx T TX C (X.blk s H scope (compEnvC scope cs A X.env) fp) noW N (relS scope sc) true none :=
  ⟨by rw [← cx.scope]; rfl, cx.names, cx.nd, takes0, cx.calm, cx.unit, cx.free, cx.glb, ⟨cx.wide.depth, cx.wide.seer, cx.wide.tree, cx.wide.top⟩, cx.rcs, cx.kit, cx.inits, cx.meths, cx.xin, cx.fns, cx.num, cx.exc, cx.exm, cx.attrs, fun x hx => by cases hx⟩
theorem wipe_env {K : PySem.W.Frag} {ρ : List Addr} {H : Hp} {σ : Env} {τ : L2.St} (e : EnvOk K TX none ρ H σ τ) (own : List Nat) : EnvOk K TX none ρ H (MP.wipe σ own) (L2.wipe τ own) := e.wipe own
/-- a target stores nowhere but at its own names -/
theorem own_len (τ : L2.St) (own : List Nat) : (L2.wipe τ own).length = τ.length := wipe_length τ own
/-- slots set at places of own are forgotten by wipe -/
theorem wipe_set {τ : L2.St} {own : List Nat} {i : Nat} {o : Option V} (h : i ∈ own) : L2.wipe (τ.set i o) own = L2.wipe τ own := by
  induction own with
  | nil => cases h
  | cons v vs ih =>
    show (L2.wipe (τ.set i o) vs).set v none = (L2.wipe τ vs).set v none
    rcases List.mem_cons.mp h with rfl | h
    · by_cases hm : i ∈ vs
      · rw [ih hm]
      · have e : ∀ (us : List Nat), i ∉ us → ∀ τ : L2.St, L2.wipe (τ.set i o) us = (L2.wipe τ us).set i o := by
          intro us
          induction us with
          | nil => intro _ τ; rfl
          | cons u us ihu =>
            intro hn τ
            have hn' : i ≠ u ∧ i ∉ us := ⟨fun z => hn (by rw [z]; exact List.mem_cons_self), fun z => hn (List.mem_cons_of_mem _ z)⟩
            show (L2.wipe (τ.set i o) us).set u none = ((L2.wipe τ us).set u none).set i o
            rw [ihu hn'.2 τ, List.set_comm _ _ hn'.1]
        rw [e vs hm, List.set_set]
    · rw [ih h]
theorem wipe_wipe {τ : L2.St} {own : List Nat} : L2.wipe (L2.wipe τ own) own = L2.wipe τ own := by
  have e : ∀ us : List Nat, (∀ u ∈ us, u ∈ own) → L2.wipe (L2.wipe τ us) own = L2.wipe τ own := by
    intro us
    induction us with
    | nil => intro _; rfl
    | cons u us ih =>
      intro h
      show L2.wipe ((L2.wipe τ us).set u none) own = _
      rw [wipe_set (h u List.mem_cons_self), ih fun v hv => h v (List.mem_cons_of_mem _ hv)]
  exact e own fun u h => h
mutual
theorem g_own {X : Cx} (hc : X.calm = true) (hN : X.N = N) (hd : N.Nodup) (hsc : X.env.scope = sc) {lo : Bool} (hf : lo = false → ∀ x, sc.names.lookup x = some .cell → X.fn x = true) {own : List Nat} : ∀ {t : Tg} {tg : Expr}, tgB N lo sc t tg = true → (∀ i ∈ t.slots, i ∈ own) →
    PG X tg (fun v τ H Q => ∃ ρ σ σ' u, EnvOk X.K TX none ρ H σ τ ∧ RelP X.K ρ H u v ∧ bindT t u σ = some σ' ∧ ∀ τ', EnvOk X.K TX none ρ H σ' τ' → L2.wipe τ' own = L2.wipe τ own → Q τ' H)
  | .name i, tg, h, hi => by
    unfold tgB at h
    split at h
    · rename_i n p
      have h' := Bool.and_eq_true_iff.mp h
      have hl : Loc X.env.scope n ∧ (X.fn n = true ∨ X.env.scope.names.lookup n = some .local) := by
        rw [hsc]
        have h2 := h'.2
        cases lo with
        | true => exact ⟨.inl (kindB_ok h2), .inr (kindB_ok h2)⟩
        | false =>
          have h3 := locB_ok (sc := sc) (x := n) h2
          exact ⟨h3, h3.elim .inr fun e => .inl (hf rfl n e)⟩
      have g := pg_name (X := X) (i := i) (x := n) (pos := p) (by rw [hN]; exact hd) (by rw [hN]; exact atB_ok h'.1) hl.1 hl.2
      refine ⟨fun pins s τ H v u Q I r hq => g.run pins s τ H v u Q I r ?_⟩
      obtain ⟨ρ, σ, σ', w, eo, rp, e, k⟩ := hq
      unfold bindT at e
      cases e
      exact k _ (eo.set i rp) (wipe_set (hi i (by simp [Tg.slots])))
    · cases h
  | .tup ts, tg, h, hi => by
    unfold tgB at h
    split at h
    · rename_i es k p
      have ih := gs_own hc hN hd hsc hf (own := own) h (by simpa [Tg.slots] using hi)
      refine ⟨fun pins s τ H v u Q I r hq => ?_⟩
      obtain ⟨ρ, σ, σ', w, eo, rp, e, kk⟩ := hq
      unfold bindT at e
      cases w with
      | tup xs =>
        obtain ⟨a, vs, rfl, hq, rs⟩ := rp.of_tup
        have e' : bindTs ts xs σ = some σ' := e
        refine (pg_tup hc ih.1 rfl ih.2.1).run pins s τ H _ u Q I r ⟨a, vs, rfl, hq, ?_, ρ, σ, σ', xs, eo, rs, e', kk⟩
        rw [← rs.length]
        exact ih.2.2 σ σ' xs e'
      | lst xs =>
        obtain ⟨a, vs, rfl, hq, rs⟩ := rp.of_lst
        have e' : bindTs ts xs σ = some σ' := e
        refine (pg_unl hc ih.1 rfl ih.2.1).run pins s τ H _ u Q I r ⟨a, vs, rfl, hq.sq, ?_, ρ, σ, σ', xs, eo, rs, e', kk⟩
        rw [← rs.length]
        exact ih.2.2 σ σ' xs e'
      | _ => cases e
    · cases h
theorem gs_own {X : Cx} (hc : X.calm = true) (hN : X.N = N) (hd : N.Nodup) (hsc : X.env.scope = sc) {lo : Bool} (hf : lo = false → ∀ x, sc.names.lookup x = some .cell → X.fn x = true) {own : List Nat} : ∀ {ts : Tgs} {es : List Expr}, tgsB N lo sc ts es = true → (∀ i ∈ ts.slots, i ∈ own) →
    PGs X es (fun vs τ H Q => ∃ ρ σ σ' us, EnvOk X.K TX none ρ H σ τ ∧ RelPs X.K ρ H us vs ∧ bindTs ts us σ = some σ' ∧ ∀ τ', EnvOk X.K TX none ρ H σ' τ' → L2.wipe τ' own = L2.wipe τ own → Q τ' H) ∧
      (assignEach es X.env).findIdx? (·.1) = none ∧ ∀ σ σ' us, bindTs ts us σ = some σ' → us.length = (assignEach es X.env).length
  | .nil, [], _, _ => by
    have g := gs_ok (TX := TX) hc hN hd hsc hf (ts := .nil) (es := []) rfl
    refine ⟨⟨fun pins s τ H vs us Q I r hq => pgs_nil.run pins s τ H vs us Q I r ?_⟩, g.2⟩
    obtain ⟨ρ, σ, σ', us', eo, rs, e, k⟩ := hq
    cases us' with
    | nil =>
      cases rs
      unfold bindTs at e
      cases e
      exact ⟨rfl, k _ eo rfl⟩
    | cons _ _ => simp [bindTs] at e
  | .nil, _ :: _, h, _ => by simp [tgsB] at h
  | .cons _ _, [], h, _ => by simp [tgsB] at h
  | .cons t ts, e :: es, h, hi => by
    have g := gs_ok (TX := TX) hc hN hd hsc hf (ts := .cons t ts) (es := e :: es) h
    have h' := Bool.and_eq_true_iff.mp (by simpa [tgsB] using h)
    have hi' : (∀ i ∈ t.slots, i ∈ own) ∧ ∀ i ∈ ts.slots, i ∈ own :=
      ⟨fun i q => hi i (by simp [Tgs.slots, q]), fun i q => hi i (by simp [Tgs.slots, q])⟩
    have g1 := g_own hc hN hd hsc hf (own := own) h'.1 hi'.1
    obtain ⟨g2, g3, g4⟩ := gs_own hc hN hd hsc hf (own := own) h'.2 hi'.2
    have ha : assignEach (e :: es) X.env = (false, assign e X.env) :: assignEach es X.env := by
      have h1 := h'.1
      cases t with
      | name i => cases e <;> first | rfl | simp [tgB] at h1
      | tup ts => cases e <;> first | rfl | simp [tgB] at h1
    refine ⟨⟨fun pins s τ H vs us Q I r hq => (pgs_cons g1 g2 (by rw [ha]; rfl)).run pins s τ H vs us Q I r ?_⟩, g.2⟩
    obtain ⟨ρ, σ, σ', us', eo, rs, e, k⟩ := hq
    cases rs with
    | nil => simp [bindTs] at e
    | cons r1 r2 =>
      unfold bindTs at e
      split at e
      · rename_i σ1 e1
        exact ⟨_, _, rfl, ρ, σ, σ1, _, eo, r1, e1, fun τ' eo' w' => ⟨ρ, σ1, σ', _, eo', r2, e, fun τ'' eo'' w'' => k τ'' eo'' (w''.trans w')⟩⟩
      · cases e
end
abbrev gO (K : PySem.W.Frag) (TX : Exc) (own : List Nat) (t : Tg) : TG := fun v τ H Q => ∃ ρ σ σ' u, EnvOk K TX none ρ H σ τ ∧ RelP K ρ H u v ∧ bindT t u σ = some σ' ∧ ∀ τ', EnvOk K TX none ρ H σ' τ' → L2.wipe τ' own = L2.wipe τ own → Q τ' H
/-- a comprehension's run tells its reading; Z: what becomes of the list -/
theorem lc_core {K : PySem.W.Frag} {t : Tg} {own : List Nat} {it : It} {co : Eo} {e : E} {τ : L2.St} {H : Hp} {Q : VK} {ρ : List Addr} {σ : Env} {S : Sto} {Z : List PV → Sto → R PV} (so : StOk K b ρ S H) (eo : EnvOk K TX none ρ H σ τ)
    (h : At K TX b (fun cls d H' => W cls d τ H') (WalkOk K b) ρ S H (evi C b it σ S) fun J H1 => ∃ ρ1 w S1, Grow b ρ ρ1 S S1 H H1 ∧ StOk K b ρ1 S1 H1 ∧ WalkOk K b ρ1 H1 w J ∧
      At K TX b (fun _ _ _ => False) (relE K) ρ1 S1 H1 ((lcLoop (fun S => stands S w.2) (fun x => bindT t x (MP.wipe σ own)) (evc C b co) (ev C b e) w.1 [] S1).bd Z) Q)
    (fin : ∀ (D : Addr) (ρ1 : List Addr) (S1 : Sto) (H1 : Hp) (ρi : List Addr) (Si : Sto) (acc : List PV) (vs : List V) (Hc : Hp), H1 D = none → StOk K b ρ1 S1 H1 → Grow b ρ1 ρi S1 Si H1 Hc → StOk K b ρi Si Hc → D ∉ ρi → Hc D = some (.lst vs) → RelPs K ρi Hc acc vs → At K TX b (fun _ _ _ => False) (relE K) ρ1 S1 H1 (Z acc Si) Q → lk Q (.ref D) Hc) :
    tLc (tI K TX b W (evi C b it)) (gO K TX own t) (tTs K TX b none noW (evc C b co)) (tE K TX b none noW (ev C b e)) ((own.map fun i => ((N[i]?).getD Str.empty, i)).map (·.2)) τ H (lk Q) := by
  have mapown : (own.map fun i => ((N[i]?).getD Str.empty, i)).map (·.2) = own := by
    rw [List.map_map]
    exact List.map_id' own
  rw [mapown]
  refine ⟨ρ, σ, S, so, eo, At.mono h fun J H1 ⟨ρ1, w, S1, g1, so1, wo, h1⟩ => fun D hD => ?_⟩
  have eo1 := eo.grow g1
  obtain ⟨n, G, Y, wk, hn, hG, hY⟩ := wo.ex
  have nD : D ∉ ρ1 := so1.nin hD
  let run (xs acc : List PV) (Si : Sto) : R PV := (lcLoop (fun S => stands S w.2) (fun x => bindT t x (MP.wipe σ own)) (evc C b co) (ev C b e) xs acc Si).bd Z
  refine lc_it wk (fun i Hc => ∃ ρi Si acc vs, Grow b ρ1 ρi S1 Si H1 Hc ∧ StOk K b ρi Si Hc ∧ D ∉ ρi ∧ Hc D = some (.lst vs) ∧ RelPs K ρi Hc acc vs ∧ At K TX b (fun _ _ _ => False) (relE K) ρ1 S1 H1 (run (w.1.drop i) acc Si) Q)
    ⟨ρ1, S1, [], [], .alloc hD, so1.alloc hD, nD, upd_same, .nil, by simpa [run] using h1⟩ ?_ ?_ ?_
  · rintro i Hc hi ⟨ρi, Si, acc, vs, gi, soi, ni, hDi, rs, hq⟩
    refine hG ρi Si Hc gi.keep gi.pre soi ?_
    cases hst : stands Si w.2 with
    | true => rfl
    | false =>
      exfalso
      have : run (w.1.drop i) acc Si = .bad := by
        show R.bd _ _ = _
        cases w.1.drop i with
        | nil => unfold lcLoop; rw [hst]; rfl
        | cons x xs => unfold lcLoop; rw [hst]; rfl
      rw [this] at hq
      exact hq
  · rintro i xv Hc Hc' hin ⟨ρi, Si, acc, vs, gi, soi, ni, hDi, rs, hq⟩ hy
    have hlt : i < w.1.length := by rw [hn]; exact hin
    have hget : w.1[i]? = some (w.1[i]) := by simp [hlt]
    have hst : stands Si w.2 = true := by
      cases hst : stands Si w.2 with
      | true => rfl
      | false =>
        exfalso
        have : run (w.1.drop i) acc Si = .bad := by
          show R.bd _ _ = _
          cases w.1.drop i with
          | nil => unfold lcLoop; rw [hst]; rfl
          | cons x xs => unfold lcLoop; rw [hst]; rfl
        rw [this] at hq
        exact hq
    obtain ⟨gy, soy, ry⟩ := hY ρi Si Hc i xv _ Hc' gi.keep gi.pre soi hst hget hy
    have gi' := gi.trans gy
    obtain ⟨hDy, ny⟩ := gy.frame D _ hDi ni
    have rs' : RelPs K ρi Hc' acc vs := rs.mono gy.keep gy.pre
    rw [List.drop_eq_getElem_cons hlt] at hq
    have hq : At K TX b (fun _ _ _ => False) (relE K) ρ1 S1 H1 ((lcLoop (fun S => stands S w.2) (fun x => bindT t x (MP.wipe σ own)) (evc C b co) (ev C b e) (w.1[i] :: w.1.drop (i + 1)) acc Si).bd Z) Q := hq
    unfold lcLoop at hq
    rw [hst, if_pos rfl] at hq
    have eoi := ((eo1.grow gi').wipe own)
    cases hbd : bindT t w.1[i] (MP.wipe σ own) with
    | none => rw [hbd] at hq; exact hq.elim
    | some σ1 =>
      rw [hbd] at hq
      refine ⟨ρi, MP.wipe σ own, σ1, w.1[i], eoi, ry, hbd, fun τ1 eo1' hw => ⟨hw.trans wipe_wipe, ?_⟩⟩
      have hq : At K TX b (fun _ _ _ => False) (relE K) ρ1 S1 H1 ((((evc C b co) σ1 Si).bd fun c S1' => _).bd Z) Q := hq
      refine ⟨ρi, σ1, Si, soy, eo1', ?_⟩
      -- the test, then the element
      cases hc : evc C b co σ1 Si with
      | bad => rw [hc] at hq; exact hq.elim
      | exc c as S' => rw [hc] at hq; exact fun ρ' H' cls d g s x => hq ρ' H' cls d (gi'.trans g) s x
      | ok c S2 =>
        rw [hc] at hq
        intro ρ2 H2 c' g2 so2 ec
        obtain rfl : c = c' := ec
        obtain ⟨hD2, n2⟩ := g2.frame D _ hDy ny
        have rs2 := rs'.mono g2.keep g2.pre
        cases c with
        | false => exact iteF ⟨ρ2, S2, acc, vs, gi'.trans g2, so2, n2, hD2, rs2, hq⟩
        | true =>
          refine iteT ⟨ρ2, σ1, S2, so2, eo1'.grow g2, ?_⟩
          have hq : At K TX b (fun _ _ _ => False) (relE K) ρ1 S1 H1 (((ev C b e σ1 S2).bd fun y S3 => _).bd Z) Q := hq
          cases hv : ev C b e σ1 S2 with
          | bad => rw [hv] at hq; exact hq.elim
          | exc c as S' => rw [hv] at hq; exact fun ρ' H' cls d g s x => hq ρ' H' cls d ((gi'.trans g2).trans g) s x
          | ok y S3 =>
            rw [hv] at hq
            intro ρ3 H3 yv g3 so3 ry3
            obtain ⟨hD3, n3⟩ := g3.frame D _ hD2 n2
            have rs3 := rs2.mono g3.keep g3.pre
            have g03 := (gi'.trans g2).trans g3
            have hq : At K TX b (fun _ _ _ => False) (relE K) ρ1 S1 H1 ((if acc.length < lenMax then lcLoop (fun S => stands S w.2) (fun x => bindT t x (MP.wipe σ own)) (evc C b co) (ev C b e) (w.1.drop (i + 1)) (acc ++ [y]) S3 else (R.bad : R (List PV))).bd Z) Q := hq
            split at hq
            · rename_i hlen
              refine ⟨vs, hD3, by rw [line_eq, ← rs3.length]; exact hlen, ρ3, S3, acc ++ [y], vs ++ [yv], g03.aside hD hD3, so3.aside n3 hD3, n3, upd_same, (rs3.app (.cons ry3 .nil)).mono (.wlst hD3) (List.prefix_refl _), hq⟩
            · exact hq.elim
  · rintro Hc ⟨ρi, Si, acc, vs, gi, soi, ni, hDi, rs, hq⟩
    have en : w.1.drop n = [] := by rw [← hn]; exact List.drop_length
    rw [en] at hq
    have hq : At K TX b (fun _ _ _ => False) (relE K) ρ1 S1 H1 ((lcLoop (fun S => stands S w.2) (fun x => bindT t x (MP.wipe σ own)) (evc C b co) (ev C b e) [] acc Si).bd Z) Q := hq
    unfold lcLoop at hq
    split at hq
    · exact fin D ρ1 S1 H1 ρi Si acc vs Hc hD so1 gi soi ni hDi rs hq
    · exact hq.elim
theorem lc_read {K : PySem.W.Frag} {t : Tg} {own : List Nat} {it : It} {co : Eo} {e : E} {τ : L2.St} {H : Hp} {Q : VK} (hq : tE K TX b none W (ev C b (.lc t own it co e)) τ H Q) :
    tLc (tI K TX b W (evi C b it)) (gO K TX own t) (tTs K TX b none noW (evc C b co)) (tE K TX b none noW (ev C b e)) ((own.map fun i => ((N[i]?).getD Str.empty, i)).map (·.2)) τ H (lk Q) := by
  obtain ⟨ρ, σ, S, so, eo, h⟩ := hq
  unfold ev at h
  refine lc_core (Z := fun ys S2 => .ok (.lst ys) S2) so eo (At.mono (At.bd (rel := WalkOk K b) h) fun J H1 ⟨ρ1, w, S1, _, g1, so1, wo, h1⟩ => ⟨ρ1, w, S1, g1, so1, wo, noExc_At h1⟩) fun D ρ1 S1 H1 ρi Si acc vs Hc hD so1 gi soi ni hDi rs hz => ?_
  refine .inr ⟨D, .lst vs, hDi, trivial, fun o => ?_⟩
  exact hz ρi _ _ (gi.aside hD hDi) (soi.aside ni hDi) (.lst (.inl ⟨o, upd_same⟩) (rs.mono (.wlst hDi) (List.prefix_refl _)))
theorem noExc_bd {α β γ : Type} {K : PySem.W.Frag} {E E' : XK} {rel : List Addr → Hp → γ → β → Prop} {ρ : List Addr} {S : Sto} {H : Hp} {r : R α} {f : α → Sto → R γ} {Q : β → Hp → Prop} (hf : ∀ a S c as S', f a S ≠ .exc c as S') (h : At K TX b E rel ρ S H ((noExc r).bd f) Q) : At K TX b E' rel ρ S H (r.bd f) Q := by
  cases r with
  | ok v S' =>
    have h : At K TX b E rel ρ S H (f v S') Q := h
    show At K TX b E' rel ρ S H (f v S') Q
    cases e : f v S' with
    | ok w S2 => rw [e] at h; exact h
    | exc c as S2 => exact absurd e (hf _ _ _ _ _)
    | bad => rw [e] at h; exact h
  | exc c as S' => exact h.elim
  | bad => exact h
theorem lc_readN {K : PySem.W.Frag} {t : Tg} {own : List Nat} {it : It} {co : Eo} {e : E} {τ : L2.St} {H : Hp} {Q : VK} (hq : tE K TX b none W (ev C b (.new (.lc t own it co e))) τ H Q) :
    tLc (tI K TX b W (evi C b it)) (gO K TX own t) (tTs K TX b none noW (evc C b co)) (tE K TX b none noW (ev C b e)) ((own.map fun i => ((N[i]?).getD Str.empty, i)).map (·.2)) τ H (lk Q) := by
  obtain ⟨ρ, σ, S, so, eo, h⟩ := hq
  rw [ev, ev] at h
  have h := bd_assoc h
  refine lc_core (Z := fun ys S2 => .ok (.ref S2.len) (S2.push (.lst ys))) so eo (At.mono (At.bd (rel := WalkOk K b) h) fun J H1 ⟨ρ1, w, S1, _, g1, so1, wo, h1⟩ => ⟨ρ1, w, S1, g1, so1, wo, ?_⟩) fun D ρ1 S1 H1 ρi Si acc vs Hc hD so1 gi soi ni hDi rs hz => ?_
  · have h1 := noExc_bd (E' := fun _ _ _ => False) (fun a S c as S' => by cases a <;> (intro z; cases z)) h1
    exact bd_assoc h1
  · exact .inl (hz (ρi ++ [D]) Hc (.ref D) (gi.adopt soi.base hD) (soi.adopt ni hDi rs) (.ref soi.new))
theorem s_lc (cx : Ctx T TX C X W N sc true none) {t : Tg} {own : List Nat} {it : It} {co : Eo} {e : E} {elt iter : Expr} {ifs : List Expr} {scope : Scope} (hb : blkC N sc scope (own.map fun i => ((N[i]?).getD Str.empty, i)) = true)
    (htg : tgB N true (relS scope sc) t tg = true) (hown : ∀ i ∈ t.slots, i ∈ own) (hi : PI X tg iter (tI X.K TX b W (evi C b it))) (hs : ∀ x, foldedSetIterable iter X.env x = pure x)
    (ht : ∀ Y : Cx, Y.K = X.K → Ctx T TX C Y noW N (relS scope sc) true none → PTs Y ifs (tTs Y.K TX b none noW (evc C b co)))
    (he : ∀ Y : Cx, Y.K = X.K → Ctx T TX C Y noW N (relS scope sc) true none → PE Y elt (tE Y.K TX b none noW (ev C b e))) :
    PE X (.ListComp elt [⟨tg, iter, ifs, 0⟩] scope pos) (tE X.K TX b none W (ev C b (.lc t own it co e))) := by
  refine PE.weak (PE.lock (pe_lc (g := gO X.K TX own t) (tt := tTs X.K TX b none noW (evc C b co)) (te := tE X.K TX b none noW (ev C b e)) (cx.calm rfl) (by rw [cx.names]; exact cx.nd) hi (blkOk_by (by rw [cx.names, cx.scope]; exact hb))
    (fun s H A cs fp => g_own (X := X.blk s H scope (compEnvC scope cs A X.env) fp) (TX := TX) (own := own) (cx.calm rfl) cx.names cx.nd (cx.blk s H scope A cs fp).scope (lo := true) (fun q => by cases q) htg hown)
    (fun s H A cs fp => ht (X.blk s H scope (compEnvC scope cs A X.env) fp) rfl (cx.blk s H scope A cs fp)) (fun s H A cs fp => he (X.blk s H scope (compEnvC scope cs A X.env) fp) rfl (cx.blk s H scope A cs fp)) hs)) fun τ H Q q => lc_read q
theorem n_lc (cx : Ctx T TX C X W N sc true none) {t : Tg} {own : List Nat} {it : It} {co : Eo} {e : E} {elt iter : Expr} {ifs : List Expr} {scope : Scope} (hb : blkC N sc scope (own.map fun i => ((N[i]?).getD Str.empty, i)) = true)
    (htg : tgB N true (relS scope sc) t tg = true) (hown : ∀ i ∈ t.slots, i ∈ own) (hi : PI X tg iter (tI X.K TX b W (evi C b it))) (hs : ∀ x, foldedSetIterable iter X.env x = pure x)
    (ht : ∀ Y : Cx, Y.K = X.K → Ctx T TX C Y noW N (relS scope sc) true none → PTs Y ifs (tTs Y.K TX b none noW (evc C b co)))
    (he : ∀ Y : Cx, Y.K = X.K → Ctx T TX C Y noW N (relS scope sc) true none → PE Y elt (tE Y.K TX b none noW (ev C b e))) :
    PE X (.ListComp elt [⟨tg, iter, ifs, 0⟩] scope pos) (tE X.K TX b none W (ev C b (.new (.lc t own it co e)))) := by
  refine PE.weak (PE.lock (pe_lc (g := gO X.K TX own t) (tt := tTs X.K TX b none noW (evc C b co)) (te := tE X.K TX b none noW (ev C b e)) (cx.calm rfl) (by rw [cx.names]; exact cx.nd) hi (blkOk_by (by rw [cx.names, cx.scope]; exact hb))
    (fun s H A cs fp => g_own (X := X.blk s H scope (compEnvC scope cs A X.env) fp) (TX := TX) (own := own) (cx.calm rfl) cx.names cx.nd (cx.blk s H scope A cs fp).scope (lo := true) (fun q => by cases q) htg hown)
    (fun s H A cs fp => ht (X.blk s H scope (compEnvC scope cs A X.env) fp) rfl (cx.blk s H scope A cs fp)) (fun s H A cs fp => he (X.blk s H scope (compEnvC scope cs A X.env) fp) rfl (cx.blk s H scope A cs fp)) hs)) fun τ H Q q => lc_readN q
end
end MP
end
section
set_option Elab.async false
set_option linter.all false
set_option maxRecDepth 100000
set_option maxHeartbeats 1000000
/-! MPSound12: every expression that is looked at runs like its MP. -/
namespace MP
open PySem PySem.Spec PyProof.Rows L2
section
variable [RT] {T : Tab} {TX : Exc} {C : Nat → List PV → Sto → R PV} {N : List Str} {b : Nat}
/-- the attributes of each class have their own names -/
def Tab.ok (T : Tab) : Bool := T.cls.all fun p => decide p.2.1.Nodup
theorem Tab.nd (h : T.ok = true) {k : Nat} {p : Str × List Str × List Str} (e : T.cls[k]? = some p) : p.2.1.Nodup := of_decide_eq_true (List.all_eq_true.mp h p (List.mem_of_getElem? e))
theorem evs_len : ∀ {es : Es} {fs : List Expr} {sc : Scope} {cl : Bool} {hx : Option (Nat × Nat)}, trsB T N sc cl hx es fs = true → ∀ {σ : Env} {S : Sto} {vs : List PV} {S' : Sto}, evs C b es σ S = .ok vs S' → vs.length = fs.length
  | .nil, [], _, _, _, _, σ, S, vs, S', h => by unfold evs at h; cases h; rfl
  | .nil, _ :: _, _, _, _, q, _, _, _, _, _ => by simp [trsB] at q
  | .cons _ _, [], _, _, _, q, _, _, _, _, _ => by simp [trsB] at q
  | .cons e es, f :: fs, _, _, _, q, σ, S, vs, S', h => by
    have q' := Bool.and_eq_true_iff.mp (by simpa [trsB] using q)
    unfold evs at h
    cases h1 : ev C b e σ S with
    | bad => rw [h1] at h; cases h
    | exc c as S1 => rw [h1] at h; cases h
    | ok v S1 =>
      rw [h1] at h
      have h : (evs C b es σ S1).bd (fun vs S2 => R.ok (v :: vs) S2) = .ok vs S' := h
      cases h2 : evs C b es σ S1 with
      | bad => rw [h2] at h; cases h
      | exc c as S2 => rw [h2] at h; cases h
      | ok us S2 =>
        rw [h2] at h
        have ih := evs_len q'.2 h2
        cases h
        simp [ih]
theorem plain_of {sc : Scope} {cl : Bool} {hx : Option (Nat × Nat)} {e : E} {f : Expr} (h : trB T N sc cl hx e f = true) (env : PySem.Env)
    (ne : ∀ op p x, f ≠ .UnaryOp op x p) (nb : ∀ op vs p, f ≠ .BoolOp op vs p) (ni : ∀ t x y p, f ≠ .IfExp t x y p) (nc : ∀ x ops cs p, f ≠ .Compare x ops cs p) :
    ∀ whole, isTrue f env whole = (do let v ← whole; standAt f.pos; holding [v] (truthy v)) := by
  intro whole
  cases f with
  | UnaryOp op x p => exact absurd rfl (ne op p x)
  | BoolOp op vs p => exact absurd rfl (nb op vs p)
  | IfExp t x y p => exact absurd rfl (ni t x y p)
  | Compare x ops cs p => exact absurd rfl (nc x ops cs p)
  | _ => rfl
theorem no_set {sc : Scope} {cl : Bool} {hx : Option (Nat × Nat)} {es : List Expr} {k : Nat} {p : Pos} : ∀ e : E, trB T N sc cl hx e (.Set es k p) = true → False
  | .new e, h => by
    unfold trB at h
    simp only [Bool.and_eq_true] at h
    exact no_set e h.1.1
  | .frz e, h => by
    unfold trB at h
    simp only [Bool.and_eq_true] at h
    exact no_set e h.1.1
  | .var _, h | .cst _, h | .tup _, h | .lst _, h | .bin _ _ _, h | .neg _, h | .not _, h | .and _ _, h | .or _ _, h | .cmp _ _ _, h | .chain _ _ _ _ _, h | .ife _ _ _, h | .ix _ _, h | .slc _ _ _, h | .call _ _, h | .bi _ _, h | .isi _ _, h | .eat _ _, h | .eisi _, h | .lc _ _ _ _ _, h | .att _ _, h | .meth _ _ _ _, h | .mk _ _ _ _, h | .isr _ _, h | .dnew _, h | .dget _ _ _, h | .sdef _ _ _, h | .disp _ _, h | .fstr _, h | .maxD _ _, h => by simp [trB, constB] at h
theorem folded_of {sc : Scope} {it : It} {tg f : Expr} (h : tiB T N sc it tg f = true) (env : PySem.Env) : ∀ x, foldedSetIterable f env x = pure x := by
  intro x
  cases f with
  | Set es k p =>
    exfalso
    cases it with
    | seq e => unfold tiB at h; exact no_set e h
    | rng1 e => simp [tiB] at h
    | rng2 a c => simp [tiB] at h
    | rng3 a c => simp [tiB] at h
    | zip a c => unfold tiB at h; split at h <;> simp_all
    | enum a => unfold tiB at h; split at h <;> simp_all
  | _ => rfl
mutual
theorem sE (hT : T.ok = true) : ∀ (e : E) {f : Expr} {X : Cx} {W : WX} {sc : Scope} {cl : Bool} {ex : Option Held}, Ctx T TX C X W N sc cl ex → trB T N sc cl (hxOf ex) e f = true → PE X f (tE X.K TX b ex W (ev C b e))
  | .var i, f, X, W, sc, cl, ex, cx, h => by
    unfold trB at h
    split at h
    · simp only [Bool.and_eq_true] at h
      obtain ⟨⟨⟨h1, h2⟩, h3⟩, h4⟩ := h
      refine s_var cx h1 h2 h3 fun p hp e => ?_
      rw [hp] at h4
      simp [e] at h4
    · cases h
  | .cst v, f, X, W, sc, cl, ex, cx, h => s_const cx (by unfold trB at h; exact h)
  | .tup es, f, X, W, sc, cl, ex, cx, h => by
    unfold trB at h
    split at h
    · have h' := Bool.and_eq_true_iff.mp h
      exact s_tup (sEs hT es cx h'.1) fun σ S vs S' q => by rw [evs_len h'.1 q]; exact of_decide_eq_true h'.2
    · cases h
  | .lst es, f, X, W, sc, cl, ex, cx, h => by
    unfold trB at h
    split at h
    · have h' := Bool.and_eq_true_iff.mp h
      exact s_lst (sEs hT es cx h'.1) fun σ S vs S' q => by rw [evs_len h'.1 q]; exact of_decide_eq_true h'.2
    · cases h
  | .bin o a c, f, X, W, sc, cl, ex, cx, h => by
    unfold trB at h
    split at h
    · simp only [Bool.and_eq_true] at h
      rw [opB_ok h.1.1]
      exact s_bin cx (sE hT a cx h.1.2) (sE hT c cx h.2)
    · cases h
  | .neg a, f, X, W, sc, cl, ex, cx, h => by
    unfold trB at h
    split at h
    · exact s_neg (sE hT a cx h)
    · cases h
  | .not a, f, X, W, sc, cl, ex, cx, h => by
    unfold trB at h
    split at h
    · exact s_not (sE hT a cx h)
    · cases h
  | .and a c, f, X, W, sc, cl, ex, cx, h => by
    unfold trB at h
    split at h
    · have h' := Bool.and_eq_true_iff.mp h
      exact s_and (sE hT a cx h'.1) (pe_one (sE hT c cx h'.2))
    · have h' := Bool.and_eq_true_iff.mp h
      exact s_and (sE hT a cx h'.1) (sE hT c cx h'.2)
    · cases h
  | .or a c, f, X, W, sc, cl, ex, cx, h => by
    unfold trB at h
    split at h
    · have h' := Bool.and_eq_true_iff.mp h
      exact s_or (sE hT a cx h'.1) (pe_one (sE hT c cx h'.2))
    · have h' := Bool.and_eq_true_iff.mp h
      exact s_or (sE hT a cx h'.1) (sE hT c cx h'.2)
    · cases h
  | .cmp o a c, f, X, W, sc, cl, ex, cx, h => by
    unfold trB at h
    split at h
    · simp only [Bool.and_eq_true, Bool.not_eq_true'] at h
      obtain ⟨⟨⟨h1, h2⟩, h3⟩, h4⟩ := h
      have e := cmB_ok h1
      subst e
      exact s_cmp cx (sE hT a cx h2) (sE hT c cx h3) h4
    · cases h
  | .chain o o' a c d, f, X, W, sc, cl, ex, cx, h => by
    unfold trB at h
    split at h
    · simp only [Bool.and_eq_true, Bool.not_eq_true'] at h
      obtain ⟨⟨⟨⟨⟨h1, h1'⟩, h2⟩, h3⟩, h4⟩, h5⟩ := h
      have e := cmB_ok h1
      have e' := cmB_ok h1'
      subst e
      subst e'
      exact s_chain cx (sE hT a cx h2) (sE hT c cx h3) (sE hT d cx h4) h5
    · cases h
  | .ife c a d, f, X, W, sc, cl, ex, cx, h => by
    unfold trB at h
    split at h
    · simp only [Bool.and_eq_true] at h
      exact s_ife (sT hT c cx h.1.1) (sE hT a cx h.1.2) (sE hT d cx h.2)
    · cases h
  | .ix a c, f, X, W, sc, cl, ex, cx, h => by
    unfold trB at h
    split at h
    · simp only [Bool.and_eq_true, Bool.not_eq_true'] at h
      exact s_ix cx (sE hT a cx h.1.1) (sE hT c cx h.1.2) h.2
    · cases h
  | .slc a lo hi, f, X, W, sc, cl, ex, cx, h => by
    unfold trB at h
    split at h
    · simp only [Bool.and_eq_true] at h
      exact s_slc (sE hT a cx h.1.1) (sEo hT lo cx h.1.2) (sEo hT hi cx h.2)
    · cases h
  | .call n es, f, X, W, sc, cl, ex, cx, h => by
    unfold trB at h
    split at h
    · simp only [Bool.and_eq_true] at h
      obtain ⟨⟨⟨h1, h2⟩, h3⟩, h4⟩ := h
      subst h1
      have hs := h4
      cases es with
      | nil => simp [trsB] at h4
      | cons e1 es1 =>
        have h4' := Bool.and_eq_true_iff.mp (by simpa [trsB] using h4)
        exact s_call cx h2 (of_decide_eq_true h3) (sEs hT (.cons e1 es1) cx hs) (star_of h4'.1 _ _) (stars_of h4'.2 _ _)
    · cases h
  | .bi n es, f, X, W, sc, cl, ex, cx, h => by
    unfold trB at h
    split at h
    · simp only [Bool.and_eq_true] at h
      obtain ⟨⟨⟨⟨h1, h2⟩, h3⟩, h4⟩, h5⟩ := h
      subst h1
      have hs := h5
      cases es with
      | nil => simp [trsB] at h5
      | cons e1 es1 =>
        have h5' := Bool.and_eq_true_iff.mp (by simpa [trsB] using h5)
        exact s_bi cx h2 (of_decide_eq_true h3) h4 (sEs hT (.cons e1 es1) cx hs) (star_of h5'.1 _ _) (stars_of h5'.2 _ _)
    · cases h
  | .isi a t, f, X, W, sc, cl, ex, cx, h => by
    unfold trB at h
    split at h
    · simp only [Bool.and_eq_true] at h
      obtain ⟨⟨⟨⟨⟨⟨h1, h2⟩, h3⟩, h4⟩, h5⟩, h6⟩, h7⟩ := h
      exact s_isi cx h1 h2 (of_decide_eq_true h3) (of_decide_eq_true h4) h5 h6 (sE hT a cx h7) fun es => star_of h7 es _
    · cases h
  | .eat i j, f, X, W, sc, cl, ex, cx, h => by
    unfold trB at h
    split at h
    · split at h
      · rename_i k c hh
        simp only [Bool.and_eq_true] at h
        obtain ⟨⟨⟨⟨h1, h2⟩, h3⟩, h4⟩, h5⟩ := h
        exact s_eat cx hh (of_decide_eq_true h1) h2 h3 h4 (of_decide_eq_true h5) fun p hp => Tab.nd hT hp
      · cases h
    · cases h
  | .eisi i, f, X, W, sc, cl, ex, cx, h => by
    unfold trB at h
    split at h
    · split at h
      · rename_i k c hh
        simp only [Bool.and_eq_true] at h
        obtain ⟨⟨⟨⟨⟨⟨⟨⟨h1, h2⟩, h3⟩, h4⟩, h5⟩, h6⟩, h7⟩, h8⟩, h9⟩ := h
        exact s_eisi cx hh (of_decide_eq_true h1) h2 h3 h4 h5 (of_decide_eq_true h6) h7 h8 h9
      · cases h
    · cases h
  | .lc t own it co e, f, X, W, sc, cl, ex, cx, h => by
    unfold trB at h
    split at h
    · simp only [Bool.and_eq_true] at h
      obtain ⟨⟨⟨⟨⟨⟨⟨h1, h2⟩, h3⟩, h4⟩, h0⟩, h5⟩, h6⟩, h7⟩ := h
      subst h1
      have hn : ex = none := by
        cases ex with
        | none => rfl
        | some x => simp [hxOf] at h2
      subst hn
      refine s_lc cx h3 h4 (fun i hi => of_decide_eq_true (List.all_eq_true.mp h0 i hi)) (sIt hT it cx h5) (folded_of h5 _) (fun Y hY cy => ?_) fun Y hY cy => sE hT e cy h7
      split at h6
      · split at h6
        · exact ⟨fun pins s τ H Q I hq => pts_nil.run pins s τ H Q I (by
            obtain ⟨ρ, σ, S, so, eo, q⟩ := hq
            exact At.ok (rel := relT) so (by unfold evc at q; exact q) rfl)⟩
        · cases h6
      · have h6' := Bool.and_eq_true_iff.mp h6
        cases co with
        | none => exact absurd h6'.2 (by simp)
        | some c =>
          have q := h6'.1
          unfold troB at q
          have p := sT hT c (ex := none) cy q
          refine ⟨fun pins s τ H Q I hq => (pts_one p).run pins s τ H Q I ?_⟩
          obtain ⟨ρ, σ, S, so, eo, q⟩ := hq
          exact ⟨ρ, σ, S, so, eo, by unfold evc at q; exact q⟩
      · cases h6
    · cases h
  | .new (.lst es), f, X, W, sc, cl, ex, cx, h => by
    unfold trB at h
    simp only [Bool.and_eq_true] at h
    have h := h.1.1
    unfold trB at h
    split at h
    · have h' := Bool.and_eq_true_iff.mp h
      exact n_lst (sEs hT es cx h'.1) fun σ S vs S' q => by rw [evs_len h'.1 q]; exact of_decide_eq_true h'.2
    · cases h
  | .new (.bin o a c), f, X, W, sc, cl, ex, cx, h => by
    unfold trB at h
    simp only [Bool.and_eq_true] at h
    have h := h.1.1
    unfold trB at h
    split at h
    · simp only [Bool.and_eq_true] at h
      rw [opB_ok h.1.1]
      exact n_bin cx (sE hT a cx h.1.2) (sE hT c cx h.2)
    · cases h
  | .new (.slc a lo hi), f, X, W, sc, cl, ex, cx, h => by
    unfold trB at h
    simp only [Bool.and_eq_true] at h
    have h := h.1.1
    unfold trB at h
    split at h
    · simp only [Bool.and_eq_true] at h
      exact n_slc (sE hT a cx h.1.1) (sEo hT lo cx h.1.2) (sEo hT hi cx h.2)
    · cases h
  | .new (.bi n es), f, X, W, sc, cl, ex, cx, h => by
    unfold trB at h
    simp only [Bool.and_eq_true] at h
    have hf : n = .list ∨ n = .sorted := by
      have z := h.1.2
      cases n <;> first | exact .inl rfl | exact .inr rfl | cases z
    have h := h.1.1
    unfold trB at h
    split at h
    · simp only [Bool.and_eq_true] at h
      obtain ⟨⟨⟨⟨h1, h2⟩, h3⟩, h4⟩, h5⟩ := h
      subst h1
      have hs := h5
      cases es with
      | nil => simp [trsB] at h5
      | cons e1 es1 =>
        have h5' := Bool.and_eq_true_iff.mp (by simpa [trsB] using h5)
        exact n_bi cx hf h2 (of_decide_eq_true h3) h4 (sEs hT (.cons e1 es1) cx hs) (star_of h5'.1 _ _) (stars_of h5'.2 _ _)
    · cases h
  | .new (.lc t own it co e), f, X, W, sc, cl, ex, cx, h => by
    unfold trB at h
    simp only [Bool.and_eq_true] at h
    have h := h.1.1
    unfold trB at h
    split at h
    · simp only [Bool.and_eq_true] at h
      obtain ⟨⟨⟨⟨⟨⟨⟨h1, h2⟩, h3⟩, h4⟩, h0⟩, h5⟩, h6⟩, h7⟩ := h
      subst h1
      have hn : ex = none := by
        cases ex with
        | none => rfl
        | some x => simp [hxOf] at h2
      subst hn
      refine n_lc cx h3 h4 (fun i hi => of_decide_eq_true (List.all_eq_true.mp h0 i hi)) (sIt hT it cx h5) (folded_of h5 _) (fun Y hY cy => ?_) fun Y hY cy => sE hT e cy h7
      split at h6
      · split at h6
        · exact ⟨fun pins s τ H Q I hq => pts_nil.run pins s τ H Q I (by
            obtain ⟨ρ, σ, S, so, eo, q⟩ := hq
            exact At.ok (rel := relT) so (by unfold evc at q; exact q) rfl)⟩
        · cases h6
      · have h6' := Bool.and_eq_true_iff.mp h6
        cases co with
        | none => exact absurd h6'.2 (by simp)
        | some c =>
          have q := h6'.1
          unfold troB at q
          have p := sT hT c (ex := none) cy q
          refine ⟨fun pins s τ H Q I hq => (pts_one p).run pins s τ H Q I ?_⟩
          obtain ⟨ρ, σ, S, so, eo, q⟩ := hq
          exact ⟨ρ, σ, S, so, eo, by unfold evc at q; exact q⟩
      · cases h6
    · cases h
  | .new (.var _), f, X, W, sc, cl, ex, cx, h => by
    unfold trB at h
    simp [E.fresh] at h
  | .new (.cst _), f, X, W, sc, cl, ex, cx, h => by
    unfold trB at h
    simp [E.fresh] at h
  | .new (.tup _), f, X, W, sc, cl, ex, cx, h => by
    unfold trB at h
    simp [E.fresh] at h
  | .new (.neg _), f, X, W, sc, cl, ex, cx, h => by
    unfold trB at h
    simp [E.fresh] at h
  | .new (.not _), f, X, W, sc, cl, ex, cx, h => by
    unfold trB at h
    simp [E.fresh] at h
  | .new (.and _ _), f, X, W, sc, cl, ex, cx, h => by
    unfold trB at h
    simp [E.fresh] at h
  | .new (.or _ _), f, X, W, sc, cl, ex, cx, h => by
    unfold trB at h
    simp [E.fresh] at h
  | .new (.cmp _ _ _), f, X, W, sc, cl, ex, cx, h => by
    unfold trB at h
    simp [E.fresh] at h
  | .new (.chain _ _ _ _ _), f, X, W, sc, cl, ex, cx, h => by
    unfold trB at h
    simp [E.fresh] at h
  | .new (.ife _ _ _), f, X, W, sc, cl, ex, cx, h => by
    unfold trB at h
    simp [E.fresh] at h
  | .new (.ix _ _), f, X, W, sc, cl, ex, cx, h => by
    unfold trB at h
    simp [E.fresh] at h
  | .new (.call _ _), f, X, W, sc, cl, ex, cx, h => by
    unfold trB at h
    simp [E.fresh] at h
  | .new (.isi _ _), f, X, W, sc, cl, ex, cx, h => by
    unfold trB at h
    simp [E.fresh] at h
  | .new (.eat _ _), f, X, W, sc, cl, ex, cx, h => by
    unfold trB at h
    simp [E.fresh] at h
  | .new (.eisi _), f, X, W, sc, cl, ex, cx, h => by
    unfold trB at h
    simp [E.fresh] at h
  | .new (.new _), f, X, W, sc, cl, ex, cx, h => by
    unfold trB at h
    simp [E.fresh] at h
  | .new (.frz _), f, X, W, sc, cl, ex, cx, h => by
    unfold trB at h
    simp [E.fresh] at h
  | .new (.att _ _), f, X, W, sc, cl, ex, cx, h => by
    unfold trB at h
    simp [E.fresh] at h
  | .new (.meth _ _ _ _), f, X, W, sc, cl, ex, cx, h => by
    unfold trB at h
    simp [E.fresh] at h
  | .new (.mk _ _ _ _), f, X, W, sc, cl, ex, cx, h => by
    unfold trB at h
    simp [E.fresh] at h
  | .new (.isr _ _), f, X, W, sc, cl, ex, cx, h => by
    unfold trB at h
    simp [E.fresh] at h
  | .new (.dnew _), f, X, W, sc, cl, ex, cx, h => by
    unfold trB at h
    simp [E.fresh] at h
  | .new (.dget _ _ _), f, X, W, sc, cl, ex, cx, h => by
    unfold trB at h
    simp [E.fresh] at h
  | .new (.sdef _ _ _), f, X, W, sc, cl, ex, cx, h => by
    unfold trB at h
    simp [E.fresh] at h
  | .new (.disp _ _), f, X, W, sc, cl, ex, cx, h => by
    unfold trB at h
    simp [E.fresh] at h
  | .new (.fstr _), f, X, W, sc, cl, ex, cx, h => by
    unfold trB at h
    simp [E.fresh] at h
  | .new (.maxD _ _), f, X, W, sc, cl, ex, cx, h => by
    unfold trB at h
    simp [E.fresh] at h
  | .frz e, f, X, W, sc, cl, ex, cx, h => by
    unfold trB at h
    simp only [Bool.and_eq_true] at h
    exact s_frz (sE hT e cx h.1.1)
  | .att e ps, f, X, W, sc, cl, ex, cx, h => by
    unfold trB at h
    split at h
    · simp only [Bool.and_eq_true] at h
      exact s_att cx (sE hT e cx h.1.1) h.1.2 h.2
    · cases h
  | .meth _ _ _ _, f, X, W, sc, cl, ex, cx, h => by simp [trB] at h
  | .mk _ _ _ _, f, X, W, sc, cl, ex, cx, h => by simp [trB] at h
  | .isr _ _, f, X, W, sc, cl, ex, cx, h => by simp [trB] at h
  | .dnew _, f, X, W, sc, cl, ex, cx, h => by
    unfold trB at h
    split at h
    · exact s_dnew
    · cases h
  | .dget d c a, f, X, W, sc, cl, ex, cx, h => by
    unfold trB at h
    split at h
    · rename_i x m ap y w cp
      simp only [Bool.and_eq_true] at h
      obtain ⟨⟨⟨⟨⟨h1, h2⟩, h3⟩, h4⟩, h5⟩, h6⟩ := h
      obtain rfl := of_decide_eq_true h1
      exact s_dget cx (sE hT d cx h4) (sE hT c cx h5) (sE hT a cx h6) h3 h2 (fun es => star_of h5 es _) (star_of h6 [] _)
    · cases h
  | .sdef _ _ _, f, X, W, sc, cl, ex, cx, h => by simp [trB] at h
  | .disp _ _, f, X, W, sc, cl, ex, cx, h => by simp [trB] at h
  | .maxD _ _, f, X, W, sc, cl, ex, cx, h => by simp [trB] at h
  | .fstr es, f, X, W, sc, cl, ex, cx, h => by
    unfold trB at h
    split at h
    · exact s_fstr (sFs hT es cx h)
    · cases h
theorem sT (hT : T.ok = true) : ∀ (e : E) {f : Expr} {X : Cx} {W : WX} {sc : Scope} {cl : Bool} {ex : Option Held}, Ctx T TX C X W N sc cl ex → trB T N sc cl (hxOf ex) e f = true → PT X f (tTs X.K TX b ex W (evT C b e))
  | .not a, f, X, W, sc, cl, ex, cx, h => by
    unfold trB at h
    split at h
    · exact t_not (sT hT a cx h)
    · cases h
  | .and a c, f, X, W, sc, cl, ex, cx, h => by
    unfold trB at h
    split at h
    · have h' := Bool.and_eq_true_iff.mp h
      exact (t_and (sT hT a cx h'.1) (pw_and1 (sT hT c cx h'.2))).pt
    · have h' := Bool.and_eq_true_iff.mp h
      exact (t_and (sT hT a cx h'.1) (sW hT c .And rfl cx h'.2)).pt
    · cases h
  | .or a c, f, X, W, sc, cl, ex, cx, h => by
    unfold trB at h
    split at h
    · have h' := Bool.and_eq_true_iff.mp h
      exact (t_or (sT hT a cx h'.1) (pw_or1 (sT hT c cx h'.2))).pt
    · have h' := Bool.and_eq_true_iff.mp h
      exact (t_or (sT hT a cx h'.1) (sW hT c .Or rfl cx h'.2)).pt
    · cases h
  | .cmp o a c, f, X, W, sc, cl, ex, cx, h => by
    unfold trB at h
    split at h
    · simp only [Bool.and_eq_true, Bool.not_eq_true'] at h
      obtain ⟨⟨⟨h1, h2⟩, h3⟩, h4⟩ := h
      have e := cmB_ok h1
      subst e
      exact t_cmp cx (sE hT a cx h2) (sE hT c cx h3) h4
    · cases h
  | .chain o o' a c d, f, X, W, sc, cl, ex, cx, h => by
    unfold trB at h
    split at h
    · simp only [Bool.and_eq_true, Bool.not_eq_true'] at h
      obtain ⟨⟨⟨⟨⟨h1, h1'⟩, h2⟩, h3⟩, h4⟩, h5⟩ := h
      have e := cmB_ok h1
      have e' := cmB_ok h1'
      subst e
      subst e'
      exact t_chain cx (sE hT a cx h2) (sE hT c cx h3) (sE hT d cx h4) h5
    · cases h
  | .var i, f, X, W, sc, cl, ex, cx, h => by
    unfold trB at h
    split at h
    · simp only [Bool.and_eq_true] at h
      obtain ⟨⟨⟨h1, h2⟩, h3⟩, h4⟩ := h
      refine t_tru (s_var cx h1 h2 h3 fun p hp e => ?_) (fun σ S => ?_) fun _ => rfl
      · rw [hp] at h4
        simp [e] at h4
      · rw [evT, ev]
        split <;> rfl
    · cases h
  | .ix a c, f, X, W, sc, cl, ex, cx, h => by
    have h0 := h
    unfold trB at h
    split at h
    · simp only [Bool.and_eq_true, Bool.not_eq_true'] at h
      have p := s_ix (pos := by assumption) cx (sE hT a cx h.1.1) (sE hT c cx h.1.2) h.2
      refine t_tru p (fun σ S => ?_) fun _ => rfl
      rw [evT, ev]
      cases ev C b a σ S with
      | ok v S1 =>
        show ((ev C b c σ S1).bd _) = ((ev C b c σ S1).bd _).bd _
        cases ev C b c σ S1 <;> rfl
      | exc c as S1 => rfl
      | bad => rfl
    · cases h
  | .call n es, f, X, W, sc, cl, ex, cx, h => by
    have h0 := h
    unfold trB at h
    split at h
    · simp only [Bool.and_eq_true] at h
      obtain ⟨⟨⟨h1, h2⟩, h3⟩, h4⟩ := h
      subst h1
      have hs := h4
      cases es with
      | nil => simp [trsB] at h4
      | cons e1 es1 =>
        have h4' := Bool.and_eq_true_iff.mp (by simpa [trsB] using h4)
        exact t_tru (s_call cx h2 (of_decide_eq_true h3) (sEs hT (.cons e1 es1) cx hs) (star_of h4'.1 _ _) (stars_of h4'.2 _ _)) (fun σ S => by rw [evT, ev]) fun _ => rfl
    · cases h
  | .bi n es, f, X, W, sc, cl, ex, cx, h => by
    have h0 := h
    unfold trB at h
    split at h
    · simp only [Bool.and_eq_true] at h
      obtain ⟨⟨⟨⟨h1, h2⟩, h3⟩, h4⟩, h5⟩ := h
      subst h1
      have hs := h5
      cases es with
      | nil => simp [trsB] at h5
      | cons e1 es1 =>
        have h5' := Bool.and_eq_true_iff.mp (by simpa [trsB] using h5)
        exact t_tru (s_bi cx h2 (of_decide_eq_true h3) h4 (sEs hT (.cons e1 es1) cx hs) (star_of h5'.1 _ _) (stars_of h5'.2 _ _)) (fun σ S => by rw [evT, ev]) fun _ => rfl
    · cases h
  | .isi a t, f, X, W, sc, cl, ex, cx, h => by
    unfold trB at h
    split at h
    · simp only [Bool.and_eq_true] at h
      obtain ⟨⟨⟨⟨⟨⟨h1, h2⟩, h3⟩, h4⟩, h5⟩, h6⟩, h7⟩ := h
      refine t_val (s_isi cx h1 h2 (of_decide_eq_true h3) (of_decide_eq_true h4) h5 h6 (sE hT a cx h7) fun es => star_of h7 es _) (fun σ S => ?_) fun _ => rfl
      rw [evT, ev]
      cases ev C b a σ S <;> rfl
    · cases h
  | .eisi i, f, X, W, sc, cl, ex, cx, h => by
    unfold trB at h
    split at h
    · split at h
      · rename_i k c hh
        simp only [Bool.and_eq_true] at h
        obtain ⟨⟨⟨⟨⟨⟨⟨⟨h1, h2⟩, h3⟩, h4⟩, h5⟩, h6⟩, h7⟩, h8⟩, h9⟩ := h
        refine t_val (s_eisi cx hh (of_decide_eq_true h1) h2 h3 h4 h5 (of_decide_eq_true h6) h7 h8 h9) (fun σ S => ?_) fun _ => rfl
        rw [evT, ev]
        split <;> rfl
      · cases h
    · cases h
  | .att e ps, f, X, W, sc, cl, ex, cx, h => by
    have h0 := h
    unfold trB at h
    split at h
    · simp only [Bool.and_eq_true] at h
      exact t_tru (s_att cx (sE hT e cx h.1.1) h.1.2 h.2) (fun σ S => by rw [evT, ev]) fun _ => rfl
    · cases h
  | .meth _ _ _ _, f, X, W, sc, cl, ex, cx, h => by simp [trB] at h
  | .isr _ _, f, X, W, sc, cl, ex, cx, h => by simp [trB] at h
  | .new _, _, X, W, sc, cl, ex, cx, h => ⟨fun _ _ _ _ _ _ ⟨ρ, σ, S, so, eo, q⟩ => by unfold evT at q; exact q.elim⟩
  | .frz _, _, X, W, sc, cl, ex, cx, h => ⟨fun _ _ _ _ _ _ ⟨ρ, σ, S, so, eo, q⟩ => by unfold evT at q; exact q.elim⟩
  | .mk _ _ _ _, _, X, W, sc, cl, ex, cx, h => ⟨fun _ _ _ _ _ _ ⟨ρ, σ, S, so, eo, q⟩ => by unfold evT at q; exact q.elim⟩
  | .dnew _, _, X, W, sc, cl, ex, cx, h => ⟨fun _ _ _ _ _ _ ⟨ρ, σ, S, so, eo, q⟩ => by unfold evT at q; exact q.elim⟩
  | .dget _ _ _, _, X, W, sc, cl, ex, cx, h => ⟨fun _ _ _ _ _ _ ⟨ρ, σ, S, so, eo, q⟩ => by unfold evT at q; exact q.elim⟩
  | .sdef _ _ _, _, X, W, sc, cl, ex, cx, h => ⟨fun _ _ _ _ _ _ ⟨ρ, σ, S, so, eo, q⟩ => by unfold evT at q; exact q.elim⟩
  | .disp _ _, _, X, W, sc, cl, ex, cx, h => ⟨fun _ _ _ _ _ _ ⟨ρ, σ, S, so, eo, q⟩ => by unfold evT at q; exact q.elim⟩
  | .fstr _, _, X, W, sc, cl, ex, cx, h => ⟨fun _ _ _ _ _ _ ⟨ρ, σ, S, so, eo, q⟩ => by unfold evT at q; exact q.elim⟩
  | .maxD _ _, _, X, W, sc, cl, ex, cx, h => ⟨fun _ _ _ _ _ _ ⟨ρ, σ, S, so, eo, q⟩ => by unfold evT at q; exact q.elim⟩
  | .cst _, _, X, W, sc, cl, ex, cx, h => ⟨fun _ _ _ _ _ _ ⟨ρ, σ, S, so, eo, q⟩ => by unfold evT at q; exact q.elim⟩
  | .tup _, _, X, W, sc, cl, ex, cx, h => ⟨fun _ _ _ _ _ _ ⟨ρ, σ, S, so, eo, q⟩ => by unfold evT at q; exact q.elim⟩
  | .lst _, _, X, W, sc, cl, ex, cx, h => ⟨fun _ _ _ _ _ _ ⟨ρ, σ, S, so, eo, q⟩ => by unfold evT at q; exact q.elim⟩
  | .bin _ _ _, _, X, W, sc, cl, ex, cx, h => ⟨fun _ _ _ _ _ _ ⟨ρ, σ, S, so, eo, q⟩ => by unfold evT at q; exact q.elim⟩
  | .neg _, _, X, W, sc, cl, ex, cx, h => ⟨fun _ _ _ _ _ _ ⟨ρ, σ, S, so, eo, q⟩ => by unfold evT at q; exact q.elim⟩
  | .ife _ _ _, _, X, W, sc, cl, ex, cx, h => ⟨fun _ _ _ _ _ _ ⟨ρ, σ, S, so, eo, q⟩ => by unfold evT at q; exact q.elim⟩
  | .slc _ _ _, _, X, W, sc, cl, ex, cx, h => ⟨fun _ _ _ _ _ _ ⟨ρ, σ, S, so, eo, q⟩ => by unfold evT at q; exact q.elim⟩
  | .eat _ _, _, X, W, sc, cl, ex, cx, h => ⟨fun _ _ _ _ _ _ ⟨ρ, σ, S, so, eo, q⟩ => by unfold evT at q; exact q.elim⟩
  | .lc _ _ _ _ _, _, X, W, sc, cl, ex, cx, h => ⟨fun _ _ _ _ _ _ ⟨ρ, σ, S, so, eo, q⟩ => by unfold evT at q; exact q.elim⟩
/-- the rest of a chain of and, or -/
theorem sW (hT : T.ok = true) : ∀ (e : E) {f : Expr} {X : Cx} {W : WX} {sc : Scope} {cl : Bool} {ex : Option Held} (op : BoolOp) {x y : Expr} {r : List Expr} {p : Pos}, f = .BoolOp op (x :: y :: r) p → Ctx T TX C X W N sc cl ex → trB T N sc cl (hxOf ex) e f = true → PW X f (tTs X.K TX b ex W (evT C b e))
  | .and a c, f, X, W, sc, cl, ex, op, _, _, _, _, hf, cx, h => by
    unfold trB at h
    split at h
    · have h' := Bool.and_eq_true_iff.mp h
      exact (t_and (sT hT a cx h'.1) (pw_and1 (sT hT c cx h'.2)))
    · have h' := Bool.and_eq_true_iff.mp h
      exact (t_and (sT hT a cx h'.1) (sW hT c .And rfl cx h'.2))
    · cases h
  | .or a c, f, X, W, sc, cl, ex, op, _, _, _, _, hf, cx, h => by
    unfold trB at h
    split at h
    · have h' := Bool.and_eq_true_iff.mp h
      exact (t_or (sT hT a cx h'.1) (pw_or1 (sT hT c cx h'.2)))
    · have h' := Bool.and_eq_true_iff.mp h
      exact (t_or (sT hT a cx h'.1) (sW hT c .Or rfl cx h'.2))
    · cases h
  | .var _, f, X, W, sc, cl, ex, op, _, _, _, _, hf, cx, h => by subst hf; simp [trB, constB] at h
  | .cst _, f, X, W, sc, cl, ex, op, _, _, _, _, hf, cx, h => by subst hf; simp [trB, constB] at h
  | .tup _, f, X, W, sc, cl, ex, op, _, _, _, _, hf, cx, h => by subst hf; simp [trB, constB] at h
  | .lst _, f, X, W, sc, cl, ex, op, _, _, _, _, hf, cx, h => by subst hf; simp [trB, constB] at h
  | .bin _ _ _, f, X, W, sc, cl, ex, op, _, _, _, _, hf, cx, h => by subst hf; simp [trB, constB] at h
  | .neg _, f, X, W, sc, cl, ex, op, _, _, _, _, hf, cx, h => by subst hf; simp [trB, constB] at h
  | .not _, f, X, W, sc, cl, ex, op, _, _, _, _, hf, cx, h => by subst hf; simp [trB, constB] at h
  | .cmp _ _ _, f, X, W, sc, cl, ex, op, _, _, _, _, hf, cx, h => by subst hf; simp [trB, constB] at h
  | .chain _ _ _ _ _, f, X, W, sc, cl, ex, op, _, _, _, _, hf, cx, h => by subst hf; simp [trB, constB] at h
  | .ife _ _ _, f, X, W, sc, cl, ex, op, _, _, _, _, hf, cx, h => by subst hf; simp [trB, constB] at h
  | .ix _ _, f, X, W, sc, cl, ex, op, _, _, _, _, hf, cx, h => by subst hf; simp [trB, constB] at h
  | .slc _ _ _, f, X, W, sc, cl, ex, op, _, _, _, _, hf, cx, h => by subst hf; simp [trB, constB] at h
  | .call _ _, f, X, W, sc, cl, ex, op, _, _, _, _, hf, cx, h => by subst hf; simp [trB, constB] at h
  | .bi _ _, f, X, W, sc, cl, ex, op, _, _, _, _, hf, cx, h => by subst hf; simp [trB, constB] at h
  | .isi _ _, f, X, W, sc, cl, ex, op, _, _, _, _, hf, cx, h => by subst hf; simp [trB, constB] at h
  | .eat _ _, f, X, W, sc, cl, ex, op, _, _, _, _, hf, cx, h => by subst hf; simp [trB, constB] at h
  | .eisi _, f, X, W, sc, cl, ex, op, _, _, _, _, hf, cx, h => by subst hf; simp [trB, constB] at h
  | .lc _ _ _ _ _, f, X, W, sc, cl, ex, op, _, _, _, _, hf, cx, h => by subst hf; simp [trB, constB] at h
  | .new _, _, X, W, sc, cl, ex, op, _, _, _, _, hf, cx, h => ⟨fun _ _ _ _ _ _ _ ⟨ρ, σ, S, so, eo, q⟩ => by unfold evT at q; exact q.elim⟩
  | .frz _, _, X, W, sc, cl, ex, op, _, _, _, _, hf, cx, h => ⟨fun _ _ _ _ _ _ _ ⟨ρ, σ, S, so, eo, q⟩ => by unfold evT at q; exact q.elim⟩
  | .mk _ _ _ _, _, X, W, sc, cl, ex, op, _, _, _, _, hf, cx, h => ⟨fun _ _ _ _ _ _ _ ⟨ρ, σ, S, so, eo, q⟩ => by unfold evT at q; exact q.elim⟩
  | .dnew _, _, X, W, sc, cl, ex, op, _, _, _, _, hf, cx, h => ⟨fun _ _ _ _ _ _ _ ⟨ρ, σ, S, so, eo, q⟩ => by unfold evT at q; exact q.elim⟩
  | .dget _ _ _, _, X, W, sc, cl, ex, op, _, _, _, _, hf, cx, h => ⟨fun _ _ _ _ _ _ _ ⟨ρ, σ, S, so, eo, q⟩ => by unfold evT at q; exact q.elim⟩
  | .sdef _ _ _, _, X, W, sc, cl, ex, op, _, _, _, _, hf, cx, h => ⟨fun _ _ _ _ _ _ _ ⟨ρ, σ, S, so, eo, q⟩ => by unfold evT at q; exact q.elim⟩
  | .disp _ _, _, X, W, sc, cl, ex, op, _, _, _, _, hf, cx, h => ⟨fun _ _ _ _ _ _ _ ⟨ρ, σ, S, so, eo, q⟩ => by unfold evT at q; exact q.elim⟩
  | .fstr _, _, X, W, sc, cl, ex, op, _, _, _, _, hf, cx, h => ⟨fun _ _ _ _ _ _ _ ⟨ρ, σ, S, so, eo, q⟩ => by unfold evT at q; exact q.elim⟩
  | .maxD _ _, _, X, W, sc, cl, ex, op, _, _, _, _, hf, cx, h => ⟨fun _ _ _ _ _ _ _ ⟨ρ, σ, S, so, eo, q⟩ => by unfold evT at q; exact q.elim⟩
  | .att _ _, f, X, W, sc, cl, ex, op, _, _, _, _, hf, cx, h => by subst hf; simp [trB, constB] at h
  | .meth _ _ _ _, f, X, W, sc, cl, ex, op, _, _, _, _, hf, cx, h => by subst hf; simp [trB, constB] at h
  | .isr _ _, f, X, W, sc, cl, ex, op, _, _, _, _, hf, cx, h => by subst hf; simp [trB, constB] at h
theorem sEs (hT : T.ok = true) : ∀ (es : Es) {fs : List Expr} {X : Cx} {W : WX} {sc : Scope} {cl : Bool} {ex : Option Held}, Ctx T TX C X W N sc cl ex → trsB T N sc cl (hxOf ex) es fs = true → PA X fs (tAs X.K TX b ex W (evs C b es))
  | .nil, [], X, W, sc, cl, ex, cx, h => a_nil
  | .nil, _ :: _, X, W, sc, cl, ex, cx, h => by simp [trsB] at h
  | .cons _ _, [], X, W, sc, cl, ex, cx, h => by simp [trsB] at h
  | .cons e es, f :: fs, X, W, sc, cl, ex, cx, h => by
    have h' := Bool.and_eq_true_iff.mp (by simpa [trsB] using h)
    exact a_cons (sE hT e cx h'.1) (sEs hT es cx h'.2) (star_of h'.1 _ _)
theorem sFs (hT : T.ok = true) : ∀ (es : Es) {fs : List Expr} {X : Cx} {W : WX} {sc : Scope} {cl : Bool} {ex : Option Held}, Ctx T TX C X W N sc cl ex → trfB T N sc cl (hxOf ex) es fs = true → ∃ ts, PJ X fs ts ∧ ∀ acc τ H Q, tF X.K TX b C ex es acc τ H Q → tJs ts acc τ H Q
  | .nil, [], X, W, sc, cl, ex, cx, h => ⟨[], .nil, fun acc τ H Q q => f_nil q⟩
  | .nil, _ :: _, X, W, sc, cl, ex, cx, h => by simp [trfB] at h
  | .cons _ _, [], X, W, sc, cl, ex, cx, h => by simp [trfB] at h
  | .cons e es, g :: fs, X, W, sc, cl, ex, cx, h => by
    unfold trfB at h
    have h' := Bool.and_eq_true_iff.mp h
    obtain ⟨ts, pj, ht⟩ := sFs hT es cx h'.2
    have h1 := h'.1
    split at h1
    · have h2 := Bool.and_eq_true_iff.mp h1
      have pe := sE hT e cx h2.1
      have h3 := h2.2
      split at h3
      · exact ⟨_, .cons pe pj, fun acc τ H Q q => f_const q ht⟩
      · cases h3
    · exact ⟨_, .cons (pe_fmt (sE hT e cx h1)) pj, fun acc τ H Q q => f_cons q ht⟩
    · cases h1
theorem sEo (hT : T.ok = true) : ∀ (e : Eo) {f : Option Expr} {X : Cx} {W : WX} {sc : Scope} {cl : Bool} {ex : Option Held}, Ctx T TX C X W N sc cl ex → troB T N sc cl (hxOf ex) e f = true → PO X f (tOs X.K TX b ex W (evo C b e))
  | .none, none, X, W, sc, cl, ex, cx, h => o_none
  | .none, some _, X, W, sc, cl, ex, cx, h => by simp [troB] at h
  | .some e, none, X, W, sc, cl, ex, cx, h => by simp [troB] at h
  | .some e, some f, X, W, sc, cl, ex, cx, h => o_some (sE hT e cx (by unfold troB at h; exact h))
theorem sIt (hT : T.ok = true) : ∀ (it : It) {tg f : Expr} {X : Cx} {W : WX} {sc : Scope}, Ctx T TX C X W N sc true none → tiB T N sc it tg f = true → PI X tg f (tI X.K TX b W (evi C b it))
  | .seq e, tg, f, X, W, sc, cx, h => i_seq (sE hT e cx (by unfold tiB at h; exact h))
  | .rng1 e, tg, f, X, W, sc, cx, h => by
    unfold tiB at h
    split at h
    · simp only [Bool.and_eq_true] at h
      obtain ⟨⟨⟨h1, h2⟩, h3⟩, h4⟩ := h
      have e2 := of_decide_eq_true h2
      subst e2
      exact i_rng1 (cx.gl h1).1 ((cx.free _ h3).2 (by decide +kernel)) (sE hT e cx h4) (star_of h4 _ _)
    · cases h
  | .rng2 a c, tg, f, X, W, sc, cx, h => by
    unfold tiB at h
    split at h
    · simp only [Bool.and_eq_true] at h
      obtain ⟨⟨⟨⟨h1, h2⟩, h3⟩, h4⟩, h5⟩ := h
      have e2 := of_decide_eq_true h2
      subst e2
      exact i_rng2 (cx.gl h1).1 ((cx.free _ h3).2 (by decide +kernel)) (sE hT a cx h4) (sE hT c cx h5) (fun es => star_of h4 es _) (star_of h5 _ _)
    · cases h
  | .rng3 a c, tg, f, X, W, sc, cx, h => by
    unfold tiB at h
    split at h
    · simp only [Bool.and_eq_true] at h
      obtain ⟨⟨⟨⟨h1, h2⟩, h3⟩, h4⟩, h5⟩ := h
      have e2 := of_decide_eq_true h2
      subst e2
      exact i_rng3 (cx.gl h1).1 ((cx.free _ h3).2 (by decide +kernel)) (sE hT a cx h4) (sE hT c cx h5) (fun es => star_of h4 es _) (fun es => star_of h5 es _)
    · cases h
  | .zip a c, tg, f, X, W, sc, cx, h => by
    unfold tiB at h
    split at h
    · simp only [Bool.and_eq_true] at h
      obtain ⟨⟨⟨⟨h1, h2⟩, h3⟩, h4⟩, h5⟩ := h
      have e2 := of_decide_eq_true h2
      subst e2
      exact i_zip (cx.gl h1).1 ((cx.free _ h3).2 (by decide +kernel)) (sE hT a cx h4) (sE hT c cx h5) (fun es => star_of h4 es _) (star_of h5 _ _)
    · cases h
  | .enum a, tg, f, X, W, sc, cx, h => by
    unfold tiB at h
    split at h
    · simp only [Bool.and_eq_true] at h
      obtain ⟨⟨⟨h1, h2⟩, h3⟩, h4⟩ := h
      have e2 := of_decide_eq_true h2
      subst e2
      exact i_enum (cx.gl h1).1 ((cx.free _ h3).2 (by decide +kernel)) (sE hT a cx h4) (star_of h4 _ _)
    · cases h
end
end
end MP
end
section
set_option Elab.async false
set_option linter.all false
set_option maxRecDepth 100000
set_option maxHeartbeats 1000000
/-! MPSound13: the look at statements; forms of statements. -/
namespace MP
open PySem PySem.Spec PyProof.Rows L2
section
variable (T : Tab) (N : List Str)
/-- a value that is no comprehension and may be given to names -/
def notComp : Expr → Bool
  | .ListComp _ _ _ _ => false
  | .SetComp _ _ _ _ => false
  | .DictComp _ _ _ _ _ => false
  | _ => true
/-- a tuple that is written out is unpacked as it stands only if its parts are constants -/
def unpackB : Expr → Bool
  | .Tuple vs _ _ => vs.all (foldedForSure 8)
  | _ => true
def isLc : E → Bool
  | .lc _ _ _ _ _ => true
  | .new (.lc _ _ _ _ _) => true
  | _ => false
mutual
def trS (sc : Scope) (cl : Bool) (hx : Option (Nat × Nat)) : St → Stmt → Bool
  | .asg t e, s => match s with
    | .Assign [g] v pos => match t with
      | .of (.name i) => match g with
        | .Name x p => atB N i x && locB sc x && !(hx.any fun q => decide (q.1 = i)) && trB T N sc cl hx e v && (notComp v || match v with
          | .ListComp _ _ s vp => isLc e && cl && decide (sc.kind = .function) && kindB sc x .local && (p.line == vp.line) && !(s.names.any fun q => q.1 == x && (q.2 == .local || q.2 == .cell))
          | _ => false)
        | _ => false
      | .of (.tup ts) => cl && tgB N false sc (.tup ts) g && trB T N sc cl hx e v && notComp v && unpackB v
      | .sub a i => cl && (match g with
        | .Subscript x y _ => trB T N sc cl hx a x && trB T N sc cl hx i y && !isSlice y
        | _ => false) && trB T N sc cl hx e v && notComp v
      | .att _ _ => false
    | _ => false
  | .augA _ _ _, _ => false
  | .par i j a c, s => match s with
    | .Assign [.Tuple [.Name x px, .Name y py] _ _] (.Tuple [u, v] _ _) _ => cl && atB N i x && atB N j y && !decide (i = j) && kindB sc x .local && kindB sc y .local && decide (sc.kind = .function) && (px.line == py.line) && !decide (x = y)
        && !([u, v].all (foldedForSure 8)) && !([u, v].all (constantsAlone 8)) && trB T N sc cl hx a u && trB T N sc cl hx c v
    | _ => false
  | .aug i o e, s => match s with
    | .AugAssign (.Name x _) .Add v _ => cl && (match o with
      | .add => true
      | _ => false) && atB N i x && locB sc x && trB T N sc cl hx e v
    | _ => false
  | .expr e, s => match s with
    | .Expr v _ => trB T N sc cl hx e v && notComp v
    | _ => false
  | .append a e, s => match s with
    | .Expr (.Call (.Attribute x f ap) [v] [] cp) _ => cl && decide (f = "append") && (ap.endLine == cp.line) && trB T N sc cl hx a x && trB T N sc cl hx e v && (match x with
      | .Name _ _ => true
      | .Subscript _ _ _ => true
      | _ => false)
    | _ => false
  | .ifs c p q, s => match s with
    | .If t u v _ => trB T N sc cl hx c t && trSs sc cl hx p u && trSs sc cl hx q v
    | _ => false
  | .fors t it p, s => match s with
    | .For g f u [] _ => cl && hx.isNone && tgB N false sc t g && tiB T N sc it g f && trSs sc cl hx p u
    | _ => false
  | .whiles c p, s => match s with
    | .While t u [] _ => cl && hx.isNone && trB T N sc cl hx c t && trSs sc cl hx p u
    | _ => false
  | .ret e, s => match s with
    | .Return (some v) _ => trB T N sc cl hx e v
    | _ => false
  | .retN, s => match s with
    | .Return none _ => true
    | _ => false
  | .raise c es, s => match s with
    | .Raise (some (.Call (.Name x _) [] [] _)) none _ => cl && gloB sc x && decide ((T.cls[c]?.map fun p => (p.1, p.2.1)) = some (x, [])) && (match es with
      | .nil => true
      | _ => false)
    | .Raise (some (.Call (.Name x _) (g :: gs) [] _)) none _ => cl && gloB sc x && decide ((T.cls[c]?.map fun p => (p.1, p.2.1.length)) = some (x, (g :: gs).length)) && decide ((g :: gs).length ≤ 1000) && trsB T N sc cl hx es (g :: gs)
    | _ => false
  | .tryo p c i h, s => match s with
    | .Try u [.ExceptHandler (some (.Name x _)) n (v :: vs) _] [] [] _ => cl && hx.isNone && gloB sc x && decide ((T.cls[c]?.map (·.1)) = some x) && trSs sc cl hx p u && (match i, n with
      | some k, some y => atB N k y && kindB sc y .local && trSs sc false (some (k, c)) h (v :: vs)
      | none, none => trSs sc false none h (v :: vs)
      | _, _ => false)
    | _ => false
  | .pass, s => match s with
    | .Pass _ => true
    | _ => false
  | .brk, s => match s with
    | .Break _ => true
    | _ => false
  | .cont, s => match s with
    | .Continue _ => true
    | _ => false
def trSs (sc : Scope) (cl : Bool) (hx : Option (Nat × Nat)) : Ss → List Stmt → Bool
  | .nil, ss => ss.isEmpty
  | .cons s ss, ts => match ts with
    | t :: ts => trS sc cl hx s t && trSs sc cl hx ss ts
    | [] => false
end
end
/-- where a statement stands -/
structure CtxS [RT] (T : Tab) (TX : Exc) (C : Nat → List PV → Sto → R PV) (X : Cx) (W : WX) (N : List Str) (sc : Scope) (cl : Bool) (ex : Option Held) : Prop extends Ctx T TX C X W N sc cl ex where
  stk : X.stack = X.env :: X.outer
  frame : X.env.frame = some X.env.locals
  po : cl = true → PassesOwn (model X.prog X.w) X.A X.env X.xe
  fn : ∀ x, X.fn x = true
section
variable [RT] {T : Tab} {TX : Exc} {C : Nat → List PV → Sto → R PV} {X : Cx} {W : WX} {N : List Str} {sc : Scope} {b : Nat} {cl : Bool} {ex : Option Held}
variable {x y z tg : Expr} {a c d : E} {pos : Pos}
abbrev tSt (K : PySem.W.Frag) (TX : Exc) (b : Nat) (ex : Option Held) (W : WX) (r : Env → Sto → RS) : TS := tS K TX b ex W r
theorem swaps_of {v : Expr} (h : notComp v = true) (o : Option Expr) (l : Nat) (env : PySem.Env) : swapsWith v o l env = pure false := by
  cases v <;> first | rfl | cases h
theorem sole_of {v : Expr} (h : notComp v = true) (t : Expr) (l : Nat) (env : PySem.Env) : swapsWithSole [t] v l env = pure false := swaps_of h _ _ _
theorem stores_sub {v u i : Expr} {p : Pos} (env : PySem.Env) : swappedStores [.Subscript u i p] v env = pure none := by
  cases v <;> rfl
theorem stores_tup {v : Expr} {ts : List Expr} {k : Nat} {p : Pos} (h : unpackB v = true) (env : PySem.Env) : swappedStores [.Tuple ts k p] v env = pure none := by
  cases v with
  | Tuple vs k2 p2 =>
    have h : vs.all (foldedForSure 8) = true := h
    unfold swappedStores
    simp only [pure_bind]
    split
    · rfl
    · split
      · rfl
      · split
        · rfl
        · first | rfl | rw [if_pos h]
  | _ => rfl
theorem stores_par {u v : Expr} {x y : Str} {px py p p2 : Pos} {k k2 : Nat} (env : PySem.Env) (hk : env.scope.kind = .function) (hx : env.scope.names.lookup x = some .local) (hy : env.scope.names.lookup y = some .local) (hl : (px.line == py.line) = true) (hne : x ≠ y)
    (h1 : ([u, v].all (foldedForSure 8)) = false) (h2 : ([u, v].all (constantsAlone 8)) = false) (su : ∀ w q, u ≠ .Starred w q) (sv : ∀ w q, v ≠ .Starred w q) : swappedStores [.Tuple [.Name x px, .Name y py] k p] (.Tuple [u, v] k2 p2) env = pure (some [x, y]) := by
  have hb : env.blockKind = .function := by unfold Env.blockKind; rw [hk]; rfl
  have kx : env.kindOf x = some .local := hx
  have ky : env.kindOf y = some .local := hy
  have hl' : px.line = py.line := by simpa using hl
  have nu : (match u with
    | .Starred .. => true
    | _ => false) = false := by cases u <;> first | rfl | exact absurd rfl (su _ _)
  have nv : (match v with
    | .Starred .. => true
    | _ => false) = false := by cases v <;> first | rfl | exact absurd rfl (sv _ _)
  unfold swappedStores
  simp only [pure_bind, List.length_cons, List.length_nil, hb, bne_self_eq_false, Bool.or_false, List.any_cons, List.any_nil, nu, nv, kx, ky, List.head?_cons, Option.map_some, Option.getD_some, Expr.pos, List.filterMap_cons, hl', beq_self_eq_true, Bool.and_self, if_true, List.filterMap_nil, h1, h2, Bool.false_eq_true, if_false]
  have e2 : ([x, y] : List Str).eraseDups.length = 2 := by
    have : (y == x) = false := by simpa using fun e => hne e.symm
    simp [List.eraseDups_cons, List.filter, this]
  simp [e2]
end
end MP
end
section
set_option Elab.async false
set_option linter.all false
set_option maxRecDepth 100000
set_option maxHeartbeats 1000000
/-! MPSound14: each form of a statement. -/
namespace MP
open PySem PySem.Spec PyProof.Rows L2
section
variable [RT] {T : Tab} {TX : Exc} {C : Nat → List PV → Sto → R PV} {X : Cx} {W : WX} {N : List Str} {sc : Scope} {b : Nat} {cl : Bool} {ex : Option Held}
variable {x y z tg : Expr} {a c d : E} {pos : Pos}
theorem u_name (cx : CtxS T TX C X W N sc cl ex) {i : Nat} {n : Str} {v : Expr} {p : Pos} (h1 : atB N i n = true) (h2 : locB sc n = true) (h3 : ∀ q, hxOf ex = some q → q.1 ≠ i) (he : PE X v (tE X.K TX b ex W (ev C b a))) (hs : swapsWith v (some (.Name n p)) pos.line X.env = pure false) :
    PS X (.Assign [.Name n p] v pos) (tSt X.K TX b ex W (xst C b (.asg (.of (.name i)) a))) := by
  refine PS.weak (ps_set (i := i) (by rw [cx.names]; exact cx.nd) (by rw [cx.names]; exact atB_ok h1) (by rw [cx.scope]; exact locB_ok h2) he hs (.inl (cx.fn n))) fun D τ H ⟨ρ, σ, S, so, eo, h⟩ => ?_
  unfold xst at h
  refine ⟨ρ, σ, S, so, eo, At.mono (AtS.st (rel := relE X.K) eo h) fun w H1 ⟨ρ1, v, S1, _, g1, so1, eo1, r1, h1⟩ => ?_⟩
  unfold bindT at h1
  exact h1 ρ1 H1 _ .refl so1 (eo1.setH i r1 fun q hq => h3 (q.i, q.c) (by rw [hq]; rfl))
/-- the ends, or they are met once a thing is locked -/
def lkD (D : Ends) : Ends := { D with nx := fun σ H => D.nx σ H ∨ ∃ p u, H p = some u ∧ Mut (some u) ∧ ∀ o, D.nx σ (upd H p (.frz o u)) }
theorem PS.lock {X : Cx} {s : Stmt} {t : TS} (h : PS X s t) : PS X s (fun D σ H => t (lkD D) σ H) :=
  ⟨fun pins s σ H D I q => thn (h.run pins s σ H _ I q) fun f s' z => by
    cases f with
    | next =>
      obtain ⟨σ', H', J, z⟩ := z
      rcases z with z | ⟨p, u, e, mu, z⟩
      · exact ⟨σ', H', J, z⟩
      · obtain ⟨o, J'⟩ := J.lock e mu
        exact ⟨σ', _, J', z o⟩
    | _ => exact z⟩
theorem u_lc (cx : CtxS T TX C X W N sc true none) {i : Nat} {n : Str} {p : Pos} {t : Tg} {own : List Nat} {it : It} {co : Eo} {e : E} {elt iter : Expr} {ifs : List Expr} {scope : Scope} {vp : Pos} (h1 : atB N i n = true) (h2 : kindB sc n .local = true) (hkf : sc.kind = .function) (hl : (p.line == vp.line) = true)
    (hnm : (scope.names.any fun q => q.1 == n && (q.2 == .local || q.2 == .cell)) = false) (hb : blkC N sc scope (own.map fun i => ((N[i]?).getD Str.empty, i)) = true)
    (htg : tgB N true (relS scope sc) t tg = true) (hown : ∀ i ∈ t.slots, i ∈ own) (hi : PI X tg iter (tI X.K TX b W (evi C b it))) (hs : ∀ x, foldedSetIterable iter X.env x = pure x)
    (ht : ∀ Y : Cx, Y.K = X.K → Ctx T TX C Y noW N (relS scope sc) true none → PTs Y ifs (tTs Y.K TX b none noW (evc C b co)))
    (he : ∀ Y : Cx, Y.K = X.K → Ctx T TX C Y noW N (relS scope sc) true none → PE Y elt (tE Y.K TX b none noW (ev C b e))) :
    PS X (.Assign [.Name n p] (.ListComp elt [⟨tg, iter, ifs, 0⟩] scope vp) pos) (tSt X.K TX b none W (xst C b (.asg (.of (.name i)) (.lc t own it co e)))) := by
  have cx' := cx.toCtx
  have ln : X.env.scope.names.lookup n = some .local := by rw [cx.scope]; exact kindB_ok h2
  refine PS.weak (PS.lock (ps_setLc (i := i) (g := gO X.K TX own t) (tt := tTs X.K TX b none noW (evc C b co)) (te := tE X.K TX b none noW (ev C b e)) (cx.calm rfl) (by rw [cx.names]; exact cx.nd) (by rw [cx.names]; exact atB_ok h1) ln
    (sw_true (by rw [cx.scope]; exact hkf) ln hl hnm) hi (blkOk_by (by rw [cx.names, cx.scope]; exact hb))
    (fun s H A cs fp => g_own (X := X.blk s H scope (compEnvC scope cs A X.env) fp) (TX := TX) (own := own) (cx.calm rfl) cx.names cx.nd (cx'.blk s H scope A cs fp).scope (lo := true) (fun q => by cases q) htg hown)
    (fun s H A cs fp => ht (X.blk s H scope (compEnvC scope cs A X.env) fp) rfl (cx'.blk s H scope A cs fp)) (fun s H A cs fp => he (X.blk s H scope (compEnvC scope cs A X.env) fp) rfl (cx'.blk s H scope A cs fp)) hs)) fun D τ H ⟨ρ, σ, S, so, eo, h⟩ => ?_
  unfold xst at h
  exact lc_read (N := N) (C := C) (it := it) ⟨ρ, σ, S, so, eo, At.mono (AtS.st (rel := relE X.K) eo h) fun w H1 ⟨ρ1, v, S1, _, g1, so1, eo1, r1, h1⟩ => by
    unfold bindT at h1
    exact h1 ρ1 H1 _ .refl so1 (eo1.set i r1)⟩
theorem u_lcN (cx : CtxS T TX C X W N sc true none) {i : Nat} {n : Str} {p : Pos} {t : Tg} {own : List Nat} {it : It} {co : Eo} {e : E} {elt iter : Expr} {ifs : List Expr} {scope : Scope} {vp : Pos} (h1 : atB N i n = true) (h2 : kindB sc n .local = true) (hkf : sc.kind = .function) (hl : (p.line == vp.line) = true)
    (hnm : (scope.names.any fun q => q.1 == n && (q.2 == .local || q.2 == .cell)) = false) (hb : blkC N sc scope (own.map fun i => ((N[i]?).getD Str.empty, i)) = true)
    (htg : tgB N true (relS scope sc) t tg = true) (hown : ∀ i ∈ t.slots, i ∈ own) (hi : PI X tg iter (tI X.K TX b W (evi C b it))) (hs : ∀ x, foldedSetIterable iter X.env x = pure x)
    (ht : ∀ Y : Cx, Y.K = X.K → Ctx T TX C Y noW N (relS scope sc) true none → PTs Y ifs (tTs Y.K TX b none noW (evc C b co)))
    (he : ∀ Y : Cx, Y.K = X.K → Ctx T TX C Y noW N (relS scope sc) true none → PE Y elt (tE Y.K TX b none noW (ev C b e))) :
    PS X (.Assign [.Name n p] (.ListComp elt [⟨tg, iter, ifs, 0⟩] scope vp) pos) (tSt X.K TX b none W (xst C b (.asg (.of (.name i)) (.new (.lc t own it co e))))) := by
  have cx' := cx.toCtx
  have ln : X.env.scope.names.lookup n = some .local := by rw [cx.scope]; exact kindB_ok h2
  refine PS.weak (PS.lock (ps_setLc (i := i) (g := gO X.K TX own t) (tt := tTs X.K TX b none noW (evc C b co)) (te := tE X.K TX b none noW (ev C b e)) (cx.calm rfl) (by rw [cx.names]; exact cx.nd) (by rw [cx.names]; exact atB_ok h1) ln
    (sw_true (by rw [cx.scope]; exact hkf) ln hl hnm) hi (blkOk_by (by rw [cx.names, cx.scope]; exact hb))
    (fun s H A cs fp => g_own (X := X.blk s H scope (compEnvC scope cs A X.env) fp) (TX := TX) (own := own) (cx.calm rfl) cx.names cx.nd (cx'.blk s H scope A cs fp).scope (lo := true) (fun q => by cases q) htg hown)
    (fun s H A cs fp => ht (X.blk s H scope (compEnvC scope cs A X.env) fp) rfl (cx'.blk s H scope A cs fp)) (fun s H A cs fp => he (X.blk s H scope (compEnvC scope cs A X.env) fp) rfl (cx'.blk s H scope A cs fp)) hs)) fun D τ H ⟨ρ, σ, S, so, eo, h⟩ => ?_
  unfold xst at h
  exact lc_readN (N := N) (C := C) (it := it) ⟨ρ, σ, S, so, eo, At.mono (AtS.st (rel := relE X.K) eo h) fun w H1 ⟨ρ1, v, S1, _, g1, so1, eo1, r1, h1⟩ => by
    unfold bindT at h1
    exact h1 ρ1 H1 _ .refl so1 (eo1.set i r1)⟩
theorem u_tup (cx : CtxS T TX C X W N sc true none) {ts : Tgs} {g v : Expr} (hg : tgB N false sc (.tup ts) g = true) (he : PE X v (tE X.K TX b none W (ev C b a))) (hn : notComp v = true) (hu : unpackB v = true) : PS X (.Assign [g] v pos) (tSt X.K TX b none W (xst C b (.asg (.of (.tup ts)) a))) := by
  have pg := g_ok (TX := TX) (X := X) (cx.calm rfl) cx.names cx.nd cx.scope (lo := false) (fun _ x _ => cx.fn x) hg
  obtain ⟨es, k, p, rfl⟩ : ∃ es k p, g = .Tuple es k p := by
    unfold tgB at hg
    split at hg
    · exact ⟨_, _, _, rfl⟩
    · cases hg
  refine PS.weak (ps_asg he pg (sole_of hn _ _ _) (stores_tup hu _) (by rfl)) fun D τ H ⟨ρ, σ, S, so, eo, h⟩ => ?_
  unfold xst at h
  refine ⟨ρ, σ, S, so, eo, At.mono (AtS.st (rel := relE X.K) eo h) fun w H1 ⟨ρ1, v, S1, _, g1, so1, eo1, r1, h1⟩ => ?_⟩
  cases e : bindT (.tup ts) v σ with
  | none => rw [e] at h1; exact h1.elim
  | some σ1 =>
    rw [e] at h1
    exact ⟨ρ1, σ, σ1, v, eo1, r1, e, fun τ' eo' => h1 ρ1 H1 τ' .refl so1 eo'⟩
theorem und_set {n : Nat} {v : PV} (hv : v.und n = true) : ∀ {xs : List PV} (j : Nat), PV.unds n xs = true → PV.unds n (xs.set j v) = true
  | [], _, _ => rfl
  | x :: xs, 0, h => by
    have h' := Bool.and_eq_true_iff.mp (by simpa [PV.unds] using h)
    simp [PV.unds, hv, h'.2]
  | x :: xs, j + 1, h => by
    have h' := Bool.and_eq_true_iff.mp (by simpa [PV.unds] using h)
    simp [PV.unds, h'.1, und_set hv j h'.2]
theorem und_app {n : Nat} {v : PV} (hv : v.und n = true) : ∀ {xs : List PV}, PV.unds n xs = true → PV.unds n (xs ++ [v]) = true
  | [], _ => by simp [PV.unds, hv]
  | x :: xs, h => by
    have h' := Bool.and_eq_true_iff.mp (by simpa [PV.unds] using h)
    simp [PV.unds, h'.1, und_app hv h'.2]
/-- a list or a dict is written -/
def rSetA (K : PySem.W.Frag) (b : Nat) : TSet := fun o k v H Q => rSetL o k v H Q ∨ ∃ ρ S j y x a c, StOk K b ρ S H ∧ ρ[j]? = some a ∧ o = .ref a ∧ RelP K ρ H y k ∧ RelP K ρ H x v ∧ dPut S j y x = some c ∧ ∀ H', Grow b ρ ρ S (S.wr b j c x.pure) H H' → StOk K b ρ (S.wr b j c x.pure) H' → Keep H H' → Q H'
theorem set_any (hu : X.A.units + 1 < cLine) : PSet X (rSetA X.K b) := by
  intro pins s σ H o k v uo uk uv Q I ro rk rv h
  rcases h with h | ⟨ρ, S, j, y, x, a, c, so, ea, rfl, ry, rx, hp, q⟩
  · exact set_list pins s σ H o k v uo uk uv Q I ro rk rv h
  · obtain rfl : uo = Value.ref a := ro
    exact g_put hu I so ea ry rk rx rv hp fun s' H' I' g so' kp => ⟨H', I', q H' g so' kp⟩
theorem u_sub (cx : CtxS T TX C X W N sc true ex) {u i v : Expr} {p : Pos} (ha : PE X u (tE X.K TX b ex W (ev C b c))) (hi : PE X i (tE X.K TX b ex W (ev C b d))) (hsl : isSlice i = false) (he : PE X v (tE X.K TX b ex W (ev C b a))) (hn : notComp v = true) :
    PS X (.Assign [.Subscript u i p] v pos) (tSt X.K TX b ex W (xst C b (.asg (.sub c d) a))) := by
  have pg := pg_sub (pos := p) ha hi (set_any (b := b) (by have := cx.unit; omega)) (by
    intro w
    cases i <;> first | rfl | cases hsl)
  refine PS.weak (ps_asg he pg (sole_of hn _ _ _) (stores_sub _) (by rfl)) fun D τ H ⟨ρ, σ, S, so, eo, h⟩ => ?_
  unfold xst at h
  refine ⟨ρ, σ, S, so, eo, At.mono (AtS.st (rel := relE X.K) eo h) fun w H1 ⟨ρ1, v, S1, _, g1, so1, eo1, r1, h1⟩ => ?_⟩
  refine ⟨ρ1, σ, S1, so1, eo1, At.mono (AtS.st (rel := relE X.K) eo1 h1) fun w2 H2 ⟨ρ2, o, S2, _, g2, so2, eo2, r2, h2⟩ => ?_⟩
  refine ⟨ρ2, σ, S2, so2, eo2, At.mono (AtS.st (rel := relE X.K) eo2 h2) fun w3 H3 ⟨ρ3, k, S3, _, g3, so3, eo3, r3, h3⟩ => ?_⟩
  have r1' := RelP.mono (g2.trans g3).keep (g2.trans g3).pre r1
  have r2' := RelP.mono g3.keep g3.pre r2
  unfold subR at h3
  split at h3
  · obtain ⟨p, rfl, ep⟩ := r2'.of_ref
    split at h3
    · rename_i xs hx
      split at h3
      · split at h3
        · rename_i j hj
          obtain rfl := RelP.of_int r3
          obtain ⟨vs, rs, hp⟩ := so3.lst hx ep
          refine .inl ⟨p, vs, _, j, rfl, rfl, hp, by rw [← rs.length]; exact hj, ?_⟩
          exact h3 ρ3 _ τ (.write hx ep hp (fun m hm hv => und_set hv j hm)) (so3.write hx ep (rs.set r1' j)) (eo3.mono (.wlst hp) (List.prefix_refl _))
        · exact h3.elim
      · exact h3.elim
    · split at h3
      · rename_i c' hc
        exact .inr ⟨ρ3, S3, _, _, _, p, c', so3, ep, rfl, r3, r1', hc, fun H' g so' kp => h3 ρ3 H' τ g so' (eo3.mono kp (List.prefix_refl _))⟩
      · exact h3.elim
  · exact h3.elim
theorem u_par (cx : CtxS T TX C X W N sc true none) {i j : Nat} {n m : Str} {u v : Expr} {px py p p2 : Pos} {k k2 : Nat} (h1 : atB N i n = true) (h2 : atB N j m = true) (hij : i ≠ j) (hn : kindB sc n .local = true) (hm : kindB sc m .local = true) (hk : sc.kind = .function)
    (hl : (px.line == py.line) = true) (hne : n ≠ m) (hf : ([u, v].all (foldedForSure 8)) = false) (hc : ([u, v].all (constantsAlone 8)) = false) (ha : PE X u (tE X.K TX b none W (ev C b a))) (hb : PE X v (tE X.K TX b none W (ev C b c)))
    (su : ∀ es, starEach (u :: es) X.env = (false, eval u X.env) :: starEach es X.env) (sv : starEach [v] X.env = [(false, eval v X.env)]) (nu : ∀ w q, u ≠ .Starred w q) (nv : ∀ w q, v ≠ .Starred w q) :
    PS X (.Assign [.Tuple [.Name n px, .Name m py] k p] (.Tuple [u, v] k2 p2) pos) (tSt X.K TX b none W (xst C b (.par i j a c))) := by
  have ln : X.env.scope.names.lookup n = some .local := by rw [cx.scope]; exact kindB_ok hn
  have lm : X.env.scope.names.lookup m = some .local := by rw [cx.scope]; exact kindB_ok hm
  refine PS.weak (ps_par (i := i) (j := j) (cx.calm rfl) (by rw [cx.names]; exact cx.nd) (by rw [cx.names]; exact atB_ok h1) (by rw [cx.names]; exact atB_ok h2) hij ln lm (pa_cons ha (pa_cons hb pa_nil sv) (su _))
    (stores_par _ (by rw [cx.scope]; exact hk) ln lm hl hne hf hc nu nv) rfl) fun D τ H ⟨ρ, σ, S, so, eo, h⟩ => ?_
  unfold xst at h
  refine ⟨ρ, σ, S, so, eo, At.mono (AtS.st (rel := relE X.K) eo h) fun w H1 ⟨ρ1, v, S1, _, g1, so1, eo1, r1, h1⟩ => ?_⟩
  refine ⟨ρ1, σ, S1, so1, eo1, At.mono (AtS.st (rel := relE X.K) eo1 h1) fun w2 H2 ⟨ρ2, o, S2, _, g2, so2, eo2, r2, h2⟩ => ?_⟩
  exact ⟨w, w2, rfl, h2 ρ2 H2 _ .refl so2 ((eo2.set i (RelP.mono g2.keep g2.pre r1)).set j r2)⟩
theorem u_aug (cx : CtxS T TX C X W N sc true ex) {i : Nat} {n : Str} {v : Expr} {p : Pos} (h1 : atB N i n = true) (h2 : locB sc n = true) (h3 : ∀ q, hxOf ex = some q → q.1 ≠ i) (he : PE X v (tE X.K TX b ex W (ev C b a))) : PS X (.AugAssign (.Name n p) .Add v pos) (tSt X.K TX b ex W (xst C b (.aug i .add a))) := by
  refine PS.weak (ps_aug (i := i) (by rw [cx.names]; exact cx.nd) (by rw [cx.names]; exact atB_ok h1) (by rw [cx.scope]; exact locB_ok h2) he ip_add (.inl (cx.fn n))) fun D τ H ⟨ρ, σ, S, so, eo, h⟩ => ?_
  unfold xst at h
  split at h
  · rename_i u hu
    have hne : ∀ q, ex = some q → q.i ≠ i := fun q hq => h3 (q.i, q.c) (by rw [hq]; rfl)
    obtain ⟨w0, e0, r0⟩ := eo.val i u hu hne
    refine ⟨w0, e0, ρ, σ, S, so, eo, At.mono (AtS.st (rel := relE X.K) eo h) fun w H1 ⟨ρ1, v, S1, _, g1, so1, eo1, r1, h1⟩ => ?_⟩
    split at h1
    · obtain rfl := RelP.of_int r1
      obtain rfl := r0.of_int
      exact ⟨_, _, rfl, rfl, h1 ρ1 H1 _ .refl so1 (eo1.setH i (.int _) hne)⟩
    · exact h1.elim
  · exact h.elim
theorem u_expr {v : Expr} (he : PE X v (tE X.K TX b ex W (ev C b a))) (hn : notComp v = true) : PS X (.Expr v pos) (tSt X.K TX b ex W (xst C b (.expr a))) := by
  refine PS.weak (ps_expr he (swaps_of hn _ _ _)) fun D τ H ⟨ρ, σ, S, so, eo, h⟩ => ?_
  unfold xst at h
  exact ⟨ρ, σ, S, so, eo, At.mono (AtS.st (rel := relE X.K) eo h) fun w H1 ⟨ρ1, v, S1, _, g1, so1, eo1, r1, h1⟩ => h1 ρ1 H1 τ .refl so1 eo1⟩
theorem u_append {u v : Expr} {ap cp : Pos} (ha : PE X u (tE X.K TX b ex W (ev C b c))) (he : PE X v (tE X.K TX b ex W (ev C b a))) (hbase : attributeBase u "append" X.env (eval u X.env) = eval u X.env) (hline : (ap.endLine == cp.line) = true)
    (sv : starEach [v] X.env = [(false, eval v X.env)]) : PS X (.Expr (.Call (.Attribute u "append" ap) [v] [] cp) pos) (tSt X.K TX b ex W (xst C b (.append c a))) := by
  refine PS.weak (ps_expr (pe_bm PySem.F.plainAttrs_list PySem.F.slot_list_append PySem.F.type_list_append mt_append ha (pa_cons he pa_nil sv) hbase (by rw [sv]; rfl) hline sv rfl) rfl) fun D τ H ⟨ρ, σ, S, so, eo, h⟩ => ?_
  unfold xst at h
  refine ⟨ρ, σ, S, so, eo, At.mono (AtS.st (rel := relE X.K) eo h) fun w H1 ⟨ρ1, o, S1, _, g1, so1, eo1, r1, h1⟩ => ?_⟩
  split at h1
  · split at h1
    · rename_i A _ ys hy
      obtain ⟨p, rfl, ep⟩ := RelP.of_ref r1
      obtain ⟨us, _, hp⟩ := so1.lst hy ep
      refine ⟨.inl ⟨rfl, _, .inl (.inl hp)⟩, ρ1, σ, S1, so1, eo1, At.mono (AtS.st (rel := relE X.K) eo1 h1) fun w2 H2 ⟨ρ2, v, S2, _, g2, so2, eo2, r2, h2⟩ => ?_⟩
      have ep2 := pre_get g2.pre ep
      split at h2
      · rename_i xs hx
        split at h2
        · rename_i hlen
          obtain ⟨vs, rs, hp2⟩ := so2.lst hx ep2
          refine ⟨p, vs, w2, rfl, rfl, hp2, by rw [line_eq, ← rs.length]; exact hlen, ?_⟩
          exact h2 ρ2 _ τ (.write hx ep2 hp2 (fun m hm hv => und_app hv hm)) (so2.write hx ep2 (rs.app (.cons r2 .nil))) (eo2.mono (.wlst hp2) (List.prefix_refl _))
        · exact h2.elim
      · exact h2.elim
    · exact h1.elim
  · exact h1.elim
theorem u_if {t u : List Stmt} {p q : Ss} (hc : PT X x (tTs X.K TX b ex W (evT C b a))) (h1 : PSs X t (tSt X.K TX b ex W (xss C b p))) (h2 : PSs X u (tSt X.K TX b ex W (xss C b q))) : PS X (.If x t u pos) (tSt X.K TX b ex W (xst C b (.ifs a p q))) := by
  refine PS.weak (ps_if hc h1 h2) fun D τ H ⟨ρ, σ, S, so, eo, h⟩ => ?_
  unfold xst at h
  refine ⟨ρ, σ, S, so, eo, At.mono (AtS.st (rel := relT) eo h) fun w H1 ⟨ρ1, v, S1, _, g1, so1, eo1, r1, h1⟩ => ?_⟩
  obtain rfl : v = w := r1
  cases v with
  | true => exact iteT ⟨ρ1, σ, S1, so1, eo1, h1⟩
  | false => exact iteF ⟨ρ1, σ, S1, so1, eo1, h1⟩
theorem u_ret {v : Expr} (he : PE X v (tE X.K TX b ex W (ev C b a))) : PS X (.Return (some v) pos) (tSt X.K TX b ex W (xst C b (.ret a))) := by
  refine PS.weak (ps_ret he) fun D τ H ⟨ρ, σ, S, so, eo, h⟩ => ?_
  unfold xst at h
  exact ⟨ρ, σ, S, so, eo, At.mono (AtS.st (rel := relE X.K) eo h) fun w H1 ⟨ρ1, v, S1, _, g1, so1, eo1, r1, h1⟩ => h1 ρ1 H1 w .refl so1 r1⟩
theorem u_retN : PS X (.Return none pos) (tSt X.K TX b ex W (xst C b .retN)) := by
  refine PS.weak ps_retN fun D τ H ⟨ρ, σ, S, so, eo, h⟩ => ?_
  unfold xst at h
  exact h ρ H .non .refl so .non
theorem u_pass : PS X (.Pass pos) (tSt X.K TX b ex W (xst C b .pass)) := PS.weak ps_pass fun D τ H ⟨ρ, σ, S, so, eo, h⟩ => by
  unfold xst at h
  exact h ρ H τ .refl so eo
theorem u_brk : PS X (.Break pos) (tSt X.K TX b ex W (xst C b .brk)) := PS.weak ps_break fun D τ H ⟨ρ, σ, S, so, eo, h⟩ => by
  unfold xst at h
  exact h ρ H τ .refl so eo
theorem u_cont : PS X (.Continue pos) (tSt X.K TX b ex W (xst C b .cont)) := PS.weak ps_continue fun D τ H ⟨ρ, σ, S, so, eo, h⟩ => by
  unfold xst at h
  exact h ρ H τ .refl so eo
theorem u_nil : PSs X [] (tSt X.K TX b ex W (xss C b .nil)) := PSs.weak pss_nil fun D τ H ⟨ρ, σ, S, so, eo, h⟩ => by
  unfold xss at h
  exact h ρ H τ .refl so eo
theorem u_cons {s : Stmt} {ss : List Stmt} {p : MP.St} {q : Ss} (h1 : PS X s (tSt X.K TX b ex W (xst C b p))) (h2 : PSs X ss (tSt X.K TX b ex W (xss C b q))) : PSs X (s :: ss) (tSt X.K TX b ex W (xss C b (.cons p q))) := by
  refine PSs.weak (pss_cons h1 h2) fun D τ H ⟨ρ, σ, S, so, eo, h⟩ => ?_
  unfold xss at h
  refine ⟨ρ, σ, S, so, eo, ?_⟩
  cases e : xst C b p σ S with
  | next σ1 S1 =>
    rw [e] at h
    exact fun ρ' H' τ' g so' eo' => ⟨ρ', σ1, S1, so', eo', AtS.grow g h⟩
  | ret v S1 => rw [e] at h; exact h
  | brk σ1 S1 => rw [e] at h; exact h
  | cont σ1 S1 => rw [e] at h; exact h
  | exc k as σ1 S1 => rw [e] at h; exact h
  | bad => rw [e] at h; exact h.elim
end
end MP
end
section
set_option Elab.async false
set_option linter.all false
set_option maxRecDepth 100000
set_option maxHeartbeats 1000000
/-! MPSoundH: exceptions that are made with arguments. -/
namespace MP
open PySem PySem.Spec PyProof.Rows L2
theorem upd_mid {H : Hp} {a d : Addr} {A A' B : HO} (h : d ≠ a) : upd (upd (upd H d A) a B) d A' = upd (upd H d A') a B := by
  funext b
  by_cases h1 : b = d
  · subst h1
    rw [upd_same, upd_ne h, upd_same]
  · rw [upd_ne h1]
    by_cases h2 : b = a
    · subst h2
      rw [upd_same, upd_same]
    · rw [upd_ne h2, upd_ne h2, upd_ne h1, upd_ne h1]
/-- the rows of an own __init__ that stores its arguments -/
def initB : List Str → List Stmt → Bool
  | [], ss => ss.isEmpty
  | f :: fs, ss => match ss with
    | .Assign [.Attribute (.Name s _) g _] (.Name y _) _ :: r => decide (s = "self") && decide (g = f) && decide (y = f) && nameB f && initB fs r
    | _ => false
theorem zip_snoc : ∀ {done : List Str} {wd : List V} {f : Str} {w : V}, done.length = wd.length → ((done ++ [f]).zip (wd ++ [w])).reverse = (f, w) :: (done.zip wd).reverse := by
  intro done wd f w h
  rw [List.zip_append h]
  simp
section
variable {X : Cx} {C : Addr} {fs : List Str}
/-- where an own __init__ stands, done of its rows being run -/
def tIni (K : PySem.W.Frag) (C : Addr) (fs done : List Str) : TS := fun D σ H => ∃ a ws H0, σ = (V.ref a :: ws).map some ∧ ws.length = fs.length ∧ H0 a = some (exo a C none) ∧
  ((done = [] ∧ H = H0 ∧ ∀ dx, H0 dx = none → dx ≠ a → D.nx σ (upd (upd H0 dx (exd dx (fs.zip ws).reverse)) a (exo a C (some dx)))) ∨
    ∃ dx, done ≠ [] ∧ dx ≠ a ∧ H = upd (upd H0 dx (exd dx (done.zip (ws.take done.length)).reverse)) a (exo a C (some dx)) ∧ D.nx σ (upd (upd H0 dx (exd dx (fs.zip ws).reverse)) a (exo a C (some dx))))
theorem pss_ini (hN : X.N = ("self" : Str) :: fs) (nd : (("self" : Str) :: fs).Nodup) (vis : ∀ x ∈ ("self" : Str) :: fs, Vis X.env.scope x) (T : OexC X.K C) (no : ∀ f ∈ fs, PySem.W.findIn X.K (.ref C) f = some none) (few : fs.length ≤ 900) :
    ∀ (todo done : List Str) (ss : List Stmt), fs = done ++ todo → initB todo ss = true → (todo = [] → done ≠ []) → PSs X ss (tIni X.K C fs done)
  | [], done, ss, hd, hb, he => by
    have e : ss = [] := by simpa [initB] using hb
    subst e
    refine PSs.weak pss_nil fun D σ H ⟨a, ws, H0, e1, e2, e3, h⟩ => ?_
    rcases h with ⟨h, _⟩ | ⟨dx, _, _, rfl, h⟩
    · exact absurd h (he rfl)
    · have ed : done = fs := by rw [hd, List.append_nil]
      rw [ed, ← e2, List.take_length]
      exact h
  | f :: todo, done, ss, hd, hb, he => by
    unfold initB at hb
    split at hb
    · rename_i s p1 g p2 y p3 pos r
      simp only [Bool.and_eq_true] at hb
      obtain ⟨⟨⟨⟨h1, h2⟩, h3⟩, h4⟩, h5⟩ := hb
      have h1 : s = "self" := of_decide_eq_true h1
      have h2 : g = f := of_decide_eq_true h2
      have h3 : y = f := of_decide_eq_true h3
      subst h1 h2 h3
      haveI : RT := ⟨fun _ => 0, fun _ => []⟩
      obtain ⟨n1, n2, _⟩ := nameB_ok h4
      have ih := pss_ini hN nd vis T no few todo (done ++ [y]) r (by rw [hd, List.append_assoc]; rfl) h5 (fun _ => by simp)
      have hf : y ∈ fs := by rw [hd]; simp
      have at0 : X.N[0]? = some ("self" : Str) := by rw [hN]; rfl
      have atf : X.N[done.length + 1]? = some y := by rw [hN, hd]; simp
      have ps : PE X (.Name "self" p1) (tVar 0) := pe_var (i := 0) at0 (vis _ List.mem_cons_self) (by decide) (by decide)
      have pf : PE X (.Name y p3) (tVar (done.length + 1)) := pe_var (i := done.length + 1) atf (vis _ (List.mem_cons_of_mem _ hf)) n1 n2
      refine PSs.weak (pss_cons (ps_ost (f := y) ps pf rfl) ih) fun D σ H ⟨a, ws, H0, e1, e2, e3, h⟩ => ?_
      have hl : done.length < ws.length := by rw [e2, hd]; simp
      have gw : σ[done.length + 1]? = some (some (ws[done.length])) := by rw [e1]; simp [hl]
      have g0 : σ[0]? = some (some (.ref a)) := by rw [e1]; rfl
      have tk : ws.take (done ++ [y]).length = ws.take done.length ++ [ws[done.length]] := by
        rw [List.length_append, List.length_singleton, List.take_add_one]
        simp [hl]
      have zl : done.length = (ws.take done.length).length := by rw [List.length_take]; omega
      refine ⟨ws[done.length], gw, .ref a, g0, a, C, rfl, T, no y hf, ?_⟩
      rcases h with ⟨rfl, rfl, h⟩ | ⟨dx, hn, hne, rfl, h⟩
      · refine .inl ⟨e3, fun dx n ne => ⟨a, ws, H, e1, e2, e3, .inr ⟨dx, by simp, ne, ?_, h dx n ne⟩⟩⟩
        rw [tk]
        rfl
      · refine .inr ⟨dx, _, upd_same, by rw [upd_ne hne]; exact upd_same, ?_, a, ws, H0, e1, e2, e3, .inr ⟨dx, by simp, hne, ?_, h⟩⟩
        · rw [List.length_reverse, List.length_zip, ← zl, Nat.min_self]
          have : done.length ≤ fs.length := by rw [hd]; simp
          omega
        · rw [upd_mid hne, tk, zip_snoc zl]
    · cases hb
end
theorem ini_ok {P : Program} {w : World} {K : PySem.W.Frag} {mg : Str → Option Value} {base : Heap} {x qual : Str} {params : Arguments} {body : List Stmt} {scope : Scope} {f C : Addr} {fd : FuncData} {fs : List Str} {k : Nat} (F : FunD K x qual params body scope [] [] f fd) (SC : FnScope (("self" : Str) :: fs) (("self" : Str) :: fs) scope)
    (hb : initB fs body = true) (T : OexC K C) (no : ∀ f ∈ fs, PySem.W.findIn K (.ref C) f = some none) (few : fs.length ≤ 900) (ne : fs ≠ []) : FnOk P w K mg base (L2.CX P w) (k + 1) f fd (("self" : Str) :: fs) (spX C fs) := by
  refine F.ok SC (fun vs H Q E q => ?_) (fun cdv A outer s H vs Q E hr q => ?_)
  · obtain ⟨a, ws, rfl, hl, _⟩ := q
    simp [hl]
  · obtain ⟨a, ws, rfl, hl, ha, q⟩ := q
    refine ⟨_, pss_ini (X := cxOf (L2.CX P w) P w K mg base (("self" : Str) :: fs) qual scope f cdv A outer s H E) (C := C) (fs := fs) rfl SC.nd (fun y hy => ?_) T no few fs [] body rfl hb (fun e => absurd e ne), a, ws, H, ?_, hl, ha, .inl ⟨rfl, rfl, q⟩⟩
    · exact (SC.par y hy).imp id fun e => .inl e
    · unfold L2.start
      simp [hl]
theorem lookup_app {f : Str} {w : V} : ∀ {xs : List (Str × V)} {g : Str}, (xs ++ [(f, w)]).lookup g = match xs.lookup g with
    | some v => some v
    | none => if g = f then some w else none
  | [], g => by
    by_cases h : g = f
    · subst h; simp [List.lookup]
    · have : (g == f) = false := by simpa using h
      simp [List.lookup, this, h]
  | (k, v) :: xs, g => by
    rw [List.cons_append, List.lookup_cons, List.lookup_cons]
    by_cases h : g == k
    · rw [h]
    · rw [Bool.not_eq_true] at h
      rw [h]
      exact lookup_app
theorem lookup_rev : ∀ {fs : List Str} {ws : List V} {g : Str}, fs.Nodup → ((fs.zip ws).reverse).lookup g = (fs.zip ws).lookup g
  | [], _, _, _ => rfl
  | _ :: _, [], _, _ => rfl
  | f :: fs, w :: ws, g, nd => by
    have nd' := List.nodup_cons.mp nd
    rw [List.zip_cons_cons, List.reverse_cons, lookup_app, lookup_rev nd'.2, List.lookup_cons]
    by_cases h : g = f
    · subst h
      have : (fs.zip ws).lookup g = none := by
        haveI : RT := ⟨fun _ => 0, fun _ => []⟩
        exact lk_none nd'.1
      rw [this]
      simp
    · have e : (g == f) = false := by simpa using h
      rw [e]
      cases (fs.zip ws).lookup g with
      | none => simp [h]
      | some v => rfl
section
variable [RT] {T : Tab} {TX : Exc} {C : Nat → List PV → Sto → R PV} {X : Cx} {W : WX} {N : List Str} {sc : Scope} {b : Nat} {cl : Bool} {ex : Option Held}
theorem passF : Passes (L2.CX X.prog X.w) X (fun _ _ _ => False) := fun _ _ _ _ _ _ _ h => by
  obtain ⟨_, _, _, _, _, _, _, _, _, _, _, _, z⟩ := h
  exact z.elim
theorem u_raiseN (cx : CtxS T TX C X W N sc true ex) {k : Nat} {n : Str} {p q : Pos} {pos : Pos} {es : Es} {g : Expr} {gs : List Expr} {pp : Str × List Str × List Str} (hg : gloB sc n = true) (hk : T.cls[k]? = some pp) (hn : pp.1 = n) (hne : pp.2.1 ≠ []) (hlen : (g :: gs).length = pp.2.1.length) (nd : pp.2.1.Nodup) (h1000 : (g :: gs).length ≤ 1000)
    (h : PA X (g :: gs) (tAs X.K TX b ex W (evs C b es))) (hl : ∀ σ S vs S', evs C b es σ S = .ok vs S' → vs.length = (g :: gs).length)
    (he : starEach (g :: gs) X.env = (false, eval g X.env) :: starEach gs X.env) (hpl : (backTo q (starEach gs X.env)).any (·.1) = false) : PS X (.Raise (some (.Call (.Name n p) (g :: gs) [] q)) none pos) (tSt X.K TX b ex W (xst C b (.raise k es))) := by
  obtain ⟨g1, g2, _, _⟩ := cx.gl hg
  obtain ⟨fI, fd, kk, OT, iC, tI, hb, F1, hr⟩ := cx.xin rfl k pp hk hne
  have xk := cx.exc k _ hk
  have lt : k < TX.n := by rw [cx.num]; exact (List.getElem?_eq_some_iff.mp hk).1
  have at0 : TX.attrs k = pp.2.1 := cx.attrs k _ hk
  subst hn
  refine PS.weak (ps_raise (cx.calm rfl) cx.takes (pmk_oex (dvs := []) (ds := []) OT iC tI F1 hr hb .nil passF g1 xk.gl h g2 he hpl)) fun D τ H ⟨ρ, σ, S, so, eo, hq⟩ => ?_
  unfold xst at hq
  refine ⟨ρ, σ, S, so, eo, At.mono (AtS.st (rel := relA X.K) eo hq) fun ws H1 ⟨ρ1, vs, S1, e1, g1', so1, eo1, r1, h1⟩ => ?_⟩
  have len := hl _ _ _ _ e1
  have lw : ws.length = pp.2.1.length := by rw [← r1.length, len, hlen]
  refine ⟨by rw [lw, ← hlen]; exact h1000, fun a ha => ⟨a, ws, by rw [List.append_nil], lw, upd_same, fun dx hdx hd => ?_⟩⟩
  have hdx1 : H1 dx = none := by rw [upd_ne hd] at hdx; exact hdx
  refine ⟨rfl, dx, _, upd_same, by rw [upd_ne hd]; exact upd_same, hdx1, ?_⟩
  have e2 : upd (del (upd (upd (upd H1 a (exo a (TX.at_ k) none)) dx (exd dx (pp.2.1.zip ws).reverse)) a (exo a (TX.at_ k) (some dx))) a) dx (.xd (pp.2.1.zip ws).reverse) = upd H1 dx (.xd (pp.2.1.zip ws).reverse) := by
    funext c
    by_cases c1 : c = dx
    · subst c1; rw [upd_same, upd_same]
    · rw [upd_ne c1, upd_ne c1]
      by_cases c2 : c = a
      · subst c2; rw [del_same, ha]
      · rw [del_ne c2, upd_ne c2, upd_ne c1, upd_ne c2]
  rw [e2]
  refine h1 ρ1 _ τ _ _ (.alloc hdx1) (so1.alloc hdx1) (eo1.mono (.new hdx1) (List.prefix_refl _)) ⟨lt, rfl, ?_, .inr ⟨by rw [at0]; exact hne, dx, _, ws, rfl, upd_same, fun f => ?_, RelPs.mono (.new hdx1) (List.prefix_refl _) r1⟩⟩
  · rw [at0, len, hlen]
  · rw [at0]
    exact lookup_rev nd
end
end MP
end
section
set_option Elab.async false
set_option linter.all false
set_option maxRecDepth 100000
set_option maxHeartbeats 1000000
/-! MPSound15: loops, raise, try; every statement that is looked at runs like its MP. -/
namespace MP
open PySem PySem.Spec PyProof.Rows L2
section
variable [RT] {T : Tab} {TX : Exc} {C : Nat → List PV → Sto → R PV} {X : Cx} {W : WX} {N : List Str} {sc : Scope} {b : Nat} {cl : Bool} {ex : Option Held}
variable {x y z tg : Expr} {a c d : E} {pos : Pos}
theorem u_for (cx : CtxS T TX C X W N sc true none) {t : Tg} {it : It} {p : Ss} {iter : Expr} {body : List Stmt} (hg : tgB N false sc t tg = true) (hi : PI X tg iter (tI X.K TX b W (evi C b it))) (hs : ∀ x, foldedSetIterable iter X.env x = pure x)
    (hb : PSs X body (tSt X.K TX b none W (xss C b p))) : PS X (.For tg iter body [] pos) (tSt X.K TX b none W (xst C b (.fors t it p))) := by
  have pg := g_ok (TX := TX) (X := X) (cx.calm rfl) cx.names cx.nd cx.scope (lo := false) (fun _ x _ => cx.fn x) hg
  refine PS.weak (ps_for (cx.po rfl) (cx.calm rfl) hi pg hb hs) fun D τ H ⟨ρ, σ, S, so, eo, h⟩ => ?_
  unfold xst at h
  refine ⟨ρ, σ, S, so, eo, At.mono (AtS.st (rel := WalkOk X.K b) eo h) fun J H1 ⟨ρ1, w, S1, _, g1, so1, eo1, wo, h1⟩ => ?_⟩
  obtain ⟨n, G, Y, wk, hn, hG, hY⟩ := wo.ex
  let run (xs : List PV) (σi : Env) (Si : Sto) : RS := forLoop (fun S => stands S w.2) (bindT t) (xss C b p) xs σi Si
  have bad : ∀ {xs : List PV} {σi : Env} {Si : Sto}, stands Si w.2 = false → run xs σi Si = .bad := fun {xs σi Si} hst => by
    show forLoop _ _ _ _ _ _ = _
    cases xs with
    | nil => unfold forLoop; rw [hst]; rfl
    | cons x xs => unfold forLoop; rw [hst]; rfl
  refine for_it (g := fun v τ H Q => ∃ ρ σ σ' u, EnvOk X.K TX none ρ H σ τ ∧ RelP X.K ρ H u v ∧ bindT t u σ = some σ' ∧ ∀ τ', EnvOk X.K TX none ρ H σ' τ' → Q τ' H) (tb := tSt X.K TX b none W (xss C b p)) (D := D) wk (fun i τi Hc => ∃ ρi σi Si, Grow b ρ1 ρi S1 Si H1 Hc ∧ StOk X.K b ρi Si Hc ∧ EnvOk X.K TX none ρi Hc σi τi ∧ AtS X.K TX b none W D ρi Si Hc (run (w.1.drop i) σi Si)) ⟨ρ1, σ, S1, .refl, so1, eo1, h1⟩ ?_ ?_ ?_
  · rintro i τi Hc hi ⟨ρi, σi, Si, gi, soi, eoi, hq⟩
    refine hG ρi Si Hc gi.keep gi.pre soi ?_
    cases hst : stands Si w.2 with
    | true => rfl
    | false => rw [bad hst] at hq; exact hq.elim
  · rintro i xv τi Hc Hc' hin ⟨ρi, σi, Si, gi, soi, eoi, hq⟩ hy
    have hlt : i < w.1.length := by rw [hn]; exact hin
    have hget : w.1[i]? = some (w.1[i]) := by simp [hlt]
    have hst : stands Si w.2 = true := by
      cases hst : stands Si w.2 with
      | true => rfl
      | false => rw [bad hst] at hq; exact hq.elim
    obtain ⟨gy, soy, ry⟩ := hY ρi Si Hc i xv _ Hc' gi.keep gi.pre soi hst hget hy
    have hq := AtS.grow gy hq
    have gi := gi.trans gy
    have eoi := eoi.grow gy
    rw [List.drop_eq_getElem_cons hlt] at hq
    have hq : AtS X.K TX b none W D ρi Si Hc' (forLoop (fun S => stands S w.2) (bindT t) (xss C b p) (w.1[i] :: w.1.drop (i + 1)) σi Si) := hq
    unfold forLoop at hq
    rw [hst, if_pos rfl] at hq
    cases hbd : bindT t w.1[i] σi with
    | none => rw [hbd] at hq; exact hq.elim
    | some σ1 =>
      rw [hbd] at hq
      have hq : AtS X.K TX b none W D ρi Si Hc' (match xss C b p σ1 Si with
        | .next σ2 S2 => forLoop (fun S => stands S w.2) (bindT t) (xss C b p) (w.1.drop (i + 1)) σ2 S2
        | .cont σ2 S2 => forLoop (fun S => stands S w.2) (bindT t) (xss C b p) (w.1.drop (i + 1)) σ2 S2
        | .brk σ2 S2 => .next σ2 S2
        | r => r) := hq
      refine ⟨ρi, σi, σ1, w.1[i], eoi, ry, hbd, fun τ1 eo1' => ⟨ρi, σ1, Si, soy, eo1', ?_⟩⟩
      cases e : xss C b p σ1 Si with
      | next σ2 S2 =>
        rw [e] at hq
        exact fun ρ' H' τ' g so' eo' => ⟨ρ', σ2, S2, gi.trans g, so', eo', AtS.grow g hq⟩
      | cont σ2 S2 =>
        rw [e] at hq
        exact fun ρ' H' τ' g so' eo' => ⟨ρ', σ2, S2, gi.trans g, so', eo', AtS.grow g hq⟩
      | brk σ2 S2 => rw [e] at hq; exact hq
      | ret v S2 => rw [e] at hq; exact hq
      | exc k as σ2 S2 => rw [e] at hq; exact hq
      | bad => rw [e] at hq; exact hq.elim
  · rintro τi Hc ⟨ρi, σi, Si, gi, soi, eoi, hq⟩
    have en : w.1.drop n = [] := by rw [← hn]; exact List.drop_length
    rw [en] at hq
    have hq : AtS X.K TX b none W D ρi Si Hc (forLoop (fun S => stands S w.2) (bindT t) (xss C b p) [] σi Si) := hq
    unfold forLoop at hq
    split at hq
    · exact hq ρi Hc τi .refl soi eoi
    · exact hq.elim
theorem u_while (cx : CtxS T TX C X W N sc true none) {p : Ss} {body : List Stmt} (hc : PT X x (tTs X.K TX b none W (evT C b a))) (hb : PSs X body (tSt X.K TX b none W (xss C b p))) : PS X (.While x body [] pos) (tSt X.K TX b none W (xst C b (.whiles a p))) := by
  refine PS.weak (ps_while (cx.po rfl) hc hb) fun D τ H ⟨ρ, σ, S, so, eo, h⟩ => ?_
  unfold xst at h
  refine ⟨fun m τi Hc => ∃ ρi σi Si, StOk X.K b ρi Si Hc ∧ EnvOk X.K TX none ρi Hc σi τi ∧ AtS X.K TX b none W D ρi Si Hc (whileLoop (evT C b a) (xss C b p) m σi Si), ⟨fuel, ρ, σ, S, so, eo, h⟩, ?_⟩
  rintro m τi Hc ⟨ρi, σi, Si, soi, eoi, hq⟩
  cases m with
  | zero => unfold whileLoop at hq; exact hq.elim
  | succ m =>
    unfold whileLoop at hq
    refine ⟨ρi, σi, Si, soi, eoi, At.mono (AtS.st (rel := relT) eoi hq) fun k H1 ⟨ρ1, v, S1, _, g1, so1, eo1, r1, h1⟩ => ?_⟩
    obtain rfl : v = k := r1
    cases v with
    | false => exact iteF (h1 ρ1 H1 τi .refl so1 eo1)
    | true =>
      refine iteT ⟨fun τ' H' => ∃ ρi σi Si, StOk X.K b ρi Si H' ∧ EnvOk X.K TX none ρi H' σi τ' ∧ AtS X.K TX b none W D ρi Si H' (whileLoop (evT C b a) (xss C b p) m σi Si), fun τ' H' q => ⟨m, Nat.lt_succ_self m, q⟩, ρ1, σi, S1, so1, eo1, ?_⟩
      have h1 : AtS X.K TX b none W D ρ1 S1 H1 (match xss C b p σi S1 with
        | .next σ2 S2 => whileLoop (evT C b a) (xss C b p) m σ2 S2
        | .cont σ2 S2 => whileLoop (evT C b a) (xss C b p) m σ2 S2
        | .brk σ2 S2 => .next σ2 S2
        | r => r) := h1
      cases e : xss C b p σi S1 with
      | next σ2 S2 =>
        rw [e] at h1
        exact fun ρ' H' τ' g so' eo' => ⟨ρ', σ2, S2, so', eo', AtS.grow g h1⟩
      | cont σ2 S2 =>
        rw [e] at h1
        exact fun ρ' H' τ' g so' eo' => ⟨ρ', σ2, S2, so', eo', AtS.grow g h1⟩
      | brk σ2 S2 => rw [e] at h1; exact h1
      | ret v S2 => rw [e] at h1; exact h1
      | exc k as σ2 S2 => rw [e] at h1; exact h1
      | bad => rw [e] at h1; exact h1.elim
/-! ### raise -/
/-- X() of a class without an own __init__ -/
theorem make0 {c : Nat} {n : Str} {p : Pos} (hx : ExcK X.K X.mg (TX.at_ c) n []) (hg : Gl X n) (hd : (n == ("__debug__" : Str)) = false) : PMk X (.Call (.Name n p) [] [] pos) (fun _ H Q => Q (.ref (TX.at_ c)) none H) := by
  intro pins s τ H Q I h
  refine wpAny_Call_Name_kw (ld_glob I hg hx.gl ?_ hd)
  refine PySem.W.callWith_K0 I.kIn hx.kp ?_
  show wpAny _ _ (call (.ref (TX.at_ c)) []) _ _ _
  obtain ⟨bm, ns, nm, qn, bs, hdct, sn, sub, ab, col, dd, k0, k1, k2, k3, k5, mN, hC, hN, hni, F⟩ := exc_obj I.kIn (hx.no rfl)
  refine wpAny_call_exc_subT PySem.F.excBase_ValueError F hC hN hni (fun h' e hm => ?_) (Nat.zero_le _)
  exact mk_of I hm (raises_own hx.sb hx.ty) h (I.hok.gone hm.new)
theorem u_raise0 (cx : CtxS T TX C X W N sc true ex) {k : Nat} {n : Str} {p q : Pos} (hg : gloB sc n = true) (hk : (T.cls[k]?.map fun p => (p.1, p.2.1)) = some (n, [])) : PS X (.Raise (some (.Call (.Name n p) [] [] q)) none pos) (tSt X.K TX b ex W (xst C b (.raise k .nil))) := by
  obtain ⟨g1, g2, _, _⟩ := cx.gl hg
  cases e : T.cls[k]? with
  | none => rw [e] at hk; cases hk
  | some pp =>
    rw [e] at hk
    obtain ⟨n', fs, sup⟩ := pp
    have hk : (n', fs) = (n, []) := Option.some.inj hk
    cases hk
    have xk := cx.exc k _ e
    have lt : k < TX.n := by rw [cx.num]; exact (List.getElem?_eq_some_iff.mp e).1
    have at0 : TX.attrs k = [] := cx.attrs k _ e
    refine PS.weak (ps_raise (cx.calm rfl) cx.takes (make0 xk g1 g2)) fun D τ H ⟨ρ, σ, S, so, eo, h⟩ => ?_
    unfold xst evs at h
    exact h ρ H τ _ _ .refl so eo ⟨lt, rfl, by rw [at0]; rfl, .inl ⟨at0, rfl⟩⟩
/-! ### try -/
theorem Ctx.tr (cx : CtxS T TX C X W N sc true none) {W' : WX} {pn : List (Addr × Obj)} {xe : Value → Shared → Prop} (tk : Takes (X.tr pn xe) W') (po : PassesOwn (model X.prog X.w) X.A X.env xe) : CtxS T TX C (X.tr pn xe) W' N sc true none :=
  { scope := cx.scope, names := cx.names, nd := cx.nd, takes := tk, calm := cx.calm, unit := cx.unit, free := cx.free, glb := cx.glb, wide := ⟨cx.wide.depth, cx.wide.seer, cx.wide.tree, cx.wide.top⟩, rcs := cx.rcs, kit := cx.kit, inits := cx.inits, meths := cx.meths, xin := cx.xin, fns := cx.fns, num := cx.num, exc := cx.exc, exm := cx.exm, attrs := cx.attrs, held := (fun x hx => by cases hx), stk := cx.stk, frame := cx.frame, po := fun _ => po, fn := cx.fn }
/-- what a suite asks of the text's classes -/
structure SuiteOk (T : Tab) (TX : Exc) (K : PySem.W.Frag) (mg : Str → Option Value) (c : Nat) : Prop where
  tab : ∀ p : Str × List Str × List Str, T.cls[c]? = some p →
    (∀ f ∈ p.2.1, PySem.W.findIn K (.ref (TX.at_ c)) "__getattribute__" = some (some (.builtin "BaseException.__getattribute__")) ∧ PySem.W.findIn K (.ref (TX.at_ c)) "__getattr__" = some none ∧
      PySem.W.subIn K (.ref (TX.at_ c)) (.type "BaseException") = some true ∧ PySem.W.hasDictIn K (TX.at_ c) = true ∧ PySem.W.findIn K (.ref (TX.at_ c)) f = some none) ∧
    (ExcC K (TX.at_ c) ∧ ∀ z, p.2.2.contains z = true → ∃ (c' : V) (cv : Value), ((mg z = some cv) ∨ (mg z = none ∧ bootBuiltins z = some cv ∧ z ≠ "__name__")) ∧ RelV c' cv ∧ (∀ u, RelV c' u → u = cv) ∧ PySem.W.kitOne K (.ref (TX.at_ c)) cv = some true)
theorem Ctx.su (cx : CtxS T TX C X W N sc true none) (sk : ∀ c, SuiteOk T TX X.K X.mg c) {A : Addr} {oe : Obj} {cls : Value} {dd : Option Addr} {pn : List (Addr × Obj)} (hz : Zc cls dd oe) (hv : ∃ vs, oe.data = .fields vs) (k i : Nat) :
    CtxS T TX C (X.suite A ((A, oe) :: pn)) noW N sc false (some ⟨i, A, k, cls, dd⟩) :=
  { scope := cx.scope, names := cx.names, nd := cx.nd, takes := takes0, calm := (fun h => by cases h), unit := cx.unit, free := cx.free, glb := cx.glb, wide := ⟨cx.wide.depth, cx.wide.seer, cx.wide.tree, cx.wide.top⟩, rcs := cx.rcs, kit := cx.kit, inits := (fun h => by cases h), meths := (fun h => by cases h), xin := (fun h => by cases h), fns := (fun h => by cases h), num := cx.num, exc := cx.exc, exm := cx.exm, attrs := cx.attrs, stk := cx.stk, frame := cx.frame, po := (fun h => by cases h), fn := cx.fn,
    held := fun x hx => by
      cases hx
      exact ⟨oe, pn, rfl, ⟨X, rfl⟩, hz, hv, fun p hp => ⟨((sk k).tab p hp).1, ((sk k).tab p hp).2⟩⟩ }
theorem Ctx.su0 (cx : CtxS T TX C X W N sc true none) {A : Addr} {pn : List (Addr × Obj)} : CtxS T TX C (X.suite A pn) noW N sc false none :=
  { scope := cx.scope, names := cx.names, nd := cx.nd, takes := takes0, calm := (fun h => by cases h), unit := cx.unit, free := cx.free, glb := cx.glb, wide := ⟨cx.wide.depth, cx.wide.seer, cx.wide.tree, cx.wide.top⟩, rcs := cx.rcs, kit := cx.kit, inits := (fun h => by cases h), meths := (fun h => by cases h), xin := (fun h => by cases h), fns := (fun h => by cases h), num := cx.num, exc := cx.exc, exm := cx.exm, attrs := cx.attrs, stk := cx.stk, frame := cx.frame, po := (fun h => by cases h), fn := cx.fn,
    held := fun x hx => by cases hx }
theorem EnvOk.hold {K : PySem.W.Frag} {ρ : List Addr} {H : Hp} {σ : Env} {τ : L2.St} (e : EnvOk K TX none ρ H σ τ) {i : Nat} {A : Addr} {c : Nat} {cls : Value} {dd : Option Addr} {as : List PV} (hi : i < σ.length) (x : ExcOk K TX ρ H c as cls dd) :
    EnvOk K TX (some ⟨i, A, c, cls, dd⟩) ρ H (σ.set i (some (.tup (.int c :: as)))) (τ.set i (some (.ref A))) := by
  refine ⟨by simp [e.len], fun j u h n => ?_, fun x hx => ?_⟩
  · have ne : i ≠ j := n _ rfl
    rw [List.getElem?_set_ne ne] at h
    rw [List.getElem?_set_ne ne]
    exact e.val j u h fun x hx => by cases hx
  · cases hx
    exact ⟨as, by rw [List.getElem?_set_self hi], by rw [List.getElem?_set_self (by rw [← e.len]; exact hi)], x⟩
theorem EnvOk.unhold {K : PySem.W.Frag} {ρ : List Addr} {H : Hp} {σ : Env} {τ : L2.St} {q : Held} (e : EnvOk K TX (some q) ρ H σ τ) : EnvOk K TX none ρ H (σ.set q.i none) (τ.set q.i none) := by
  refine ⟨by simp [e.len], fun j u h n => ?_, fun x hx => by cases hx⟩
  by_cases hj : q.i = j
  · subst hj
    by_cases hi : q.i < σ.length
    · rw [List.getElem?_set_self hi] at h; cases h
    · rw [List.getElem?_eq_none (by simpa using hi)] at h; cases h
  · rw [List.getElem?_set_ne hj] at h
    rw [List.getElem?_set_ne hj]
    exact e.val j u h fun x hx => by cases hx; exact hj
theorem caught_exc {c : Nat} {i : Option Nat} {h : Env → Sto → RS} {d : Nat} {as : List PV} {σ : Env} {S : Sto} : caught c i h (.exc d as σ S) = if d = c then (if holdOk σ i then unslot i (h (hold c as σ i) S) else .bad) else .exc d as σ S := rfl
theorem u_try_as (cx : CtxS T TX C X W N sc true none) {p h : Ss} {k i : Nat} {n m : Str} {np hp : Pos} {body suite : List Stmt} {s0 : Stmt} (hg : gloB sc n = true) (hk : (T.cls[k]?.map (·.1)) = some n) (h1 : atB N i m = true) (h2 : kindB sc m .local = true)
    (hb : ∀ (W' : WX) (Y : Cx), Y.K = X.K ∧ Y.mg = X.mg → CtxS T TX C Y W' N sc true none → PSs Y body (tSt Y.K TX b none W' (xss C b p)))
    (hs : ∀ (A : Addr) (oe : Obj) (cls : Value) (dd : Option Addr) (pn : List (Addr × Obj)), Zc cls dd oe → (∃ vs, oe.data = .fields vs) → PSs (X.suite A ((A, oe) :: pn)) (s0 :: suite) (tSt X.K TX b (some ⟨i, A, k, cls, dd⟩) noW (xss C b h))) :
    PS X (.Try body [.ExceptHandler (some (.Name n np)) (some m) (s0 :: suite) hp] [] [] pos) (tSt X.K TX b none W (xst C b (.tryo p k (some i) h))) := by
  obtain ⟨g1, g2, _, _⟩ := cx.gl hg
  cases e : T.cls[k]? with
  | none => rw [e] at hk; cases hk
  | some pp =>
    rw [e] at hk
    obtain ⟨n', fs, sup⟩ := pp
    have hk : n' = n := Option.some.inj hk
    subst hk
    have xk := cx.exc k _ e
    have lt : k < TX.n := by rw [cx.num]; exact (List.getElem?_eq_some_iff.mp e).1
    have hi : X.N[i]? = some m := by rw [cx.names]; exact atB_ok h1
    refine PS.weak (ps_try_as (i := i) (c := .ref (TX.at_ k)) (tb := fun W' => tSt X.K TX b none W' (xss C b p)) (ts := fun A cls dd => tSt X.K TX b (some ⟨i, A, k, cls, dd⟩) noW (xss C b h)) (Wout := W) cx.stk cx.frame (by rw [cx.names]; exact cx.nd) hi
      (by show X.env.scope.names.lookup m = _; rw [cx.scope]; exact kindB_ok h2) ⟨g1, g2, .inl xk.gl⟩ cx.takes (fun W' pn xe tk po => hb W' (X.tr pn xe) ⟨rfl, rfl⟩ (Ctx.tr cx tk po)) hs) fun D τ H ⟨ρ, σ, S, so, eo, q⟩ => ?_
    unfold xst at q
    refine ⟨ρ, σ, S, so, eo, ?_⟩
    cases r : xss C b p σ S with
    | next σ1 S1 => rw [r] at q; exact q
    | ret v S1 => rw [r] at q; exact q
    | brk σ1 S1 => rw [r] at q; exact q
    | cont σ1 S1 => rw [r] at q; exact q
    | bad => rw [r] at q; exact q
    | exc d as σ1 S1 =>
      rw [r] at q
      intro ρ' H' τ' cls dd g so' eo' x
      have q := AtS.grow g q
      rw [caught_exc] at q
      refine ⟨decide (d = k), ?_, fun hd A hA => ?_, fun hd => ?_⟩
      · rw [x.2.1]
        exact cx.exm k d lt x.1
      · have hd : d = k := of_decide_eq_true hd
        subst hd
        rw [if_pos rfl] at q
        split at q
        · rename_i hl
          have hlen : i < σ1.length := of_decide_eq_true hl
          refine ⟨ρ', σ1.set i (some (.tup (.int d :: as))), S1, so', eo'.hold hlen x, ?_⟩
          have q : AtS X.K TX b none W D ρ' S1 H' (unslot (some i) (xss C b h (σ1.set i (some (.tup (.int d :: as)))) S1)) := q
          cases r2 : xss C b h (σ1.set i (some (.tup (.int d :: as)))) S1 with
          | next σ2 S2 => rw [r2] at q; exact fun ρ2 H2 τ2 g2 so2 eo2 => q ρ2 H2 _ g2 so2 eo2.unhold
          | brk σ2 S2 => rw [r2] at q; exact fun ρ2 H2 τ2 g2 so2 eo2 => q ρ2 H2 _ g2 so2 eo2.unhold
          | cont σ2 S2 => rw [r2] at q; exact fun ρ2 H2 τ2 g2 so2 eo2 => q ρ2 H2 _ g2 so2 eo2.unhold
          | ret v S2 => rw [r2] at q; exact q
          | exc c as σ2 S2 => rw [r2] at q; exact q.elim
          | bad => rw [r2] at q; exact q.elim
        · exact q.elim
      · have hd : ¬ d = k := of_decide_eq_false hd
        rw [if_neg hd] at q
        exact q ρ' H' τ' cls dd .refl so' eo' x
theorem u_try_only (cx : CtxS T TX C X W N sc true none) {p h : Ss} {k : Nat} {n : Str} {np hp : Pos} {body suite : List Stmt} {s0 : Stmt} (hg : gloB sc n = true) (hk : (T.cls[k]?.map (·.1)) = some n)
    (hb : ∀ (W' : WX) (Y : Cx), Y.K = X.K ∧ Y.mg = X.mg → CtxS T TX C Y W' N sc true none → PSs Y body (tSt Y.K TX b none W' (xss C b p)))
    (hs : ∀ (A : Addr) (pn : List (Addr × Obj)), PSs (X.suite A pn) (s0 :: suite) (tSt X.K TX b none noW (xss C b h))) :
    PS X (.Try body [.ExceptHandler (some (.Name n np)) none (s0 :: suite) hp] [] [] pos) (tSt X.K TX b none W (xst C b (.tryo p k none h))) := by
  obtain ⟨g1, g2, _, _⟩ := cx.gl hg
  cases e : T.cls[k]? with
  | none => rw [e] at hk; cases hk
  | some pp =>
    rw [e] at hk
    obtain ⟨n', fs, sup⟩ := pp
    have hk : n' = n := Option.some.inj hk
    subst hk
    have xk := cx.exc k _ e
    have lt : k < TX.n := by rw [cx.num]; exact (List.getElem?_eq_some_iff.mp e).1
    refine PS.weak (ps_try_only (c := .ref (TX.at_ k)) (tb := fun W' => tSt X.K TX b none W' (xss C b p)) (ts := fun A cls dd => tSt X.K TX b none noW (xss C b h)) (Wout := W) cx.stk cx.frame ⟨g1, g2, .inl xk.gl⟩ cx.takes
      (fun W' pn xe tk po => hb W' (X.tr pn xe) ⟨rfl, rfl⟩ (Ctx.tr cx tk po)) fun A oe cls dd pn _ _ => hs A _) fun D τ H ⟨ρ, σ, S, so, eo, q⟩ => ?_
    unfold xst at q
    refine ⟨ρ, σ, S, so, eo, ?_⟩
    cases r : xss C b p σ S with
    | next σ1 S1 => rw [r] at q; exact q
    | ret v S1 => rw [r] at q; exact q
    | brk σ1 S1 => rw [r] at q; exact q
    | cont σ1 S1 => rw [r] at q; exact q
    | bad => rw [r] at q; exact q
    | exc d as σ1 S1 =>
      rw [r] at q
      intro ρ' H' τ' cls dd g so' eo' x
      have q := AtS.grow g q
      rw [caught_exc] at q
      refine ⟨decide (d = k), ?_, fun hd A hA => ?_, fun hd => ?_⟩
      · rw [x.2.1]
        exact cx.exm k d lt x.1
      · have hd : d = k := of_decide_eq_true hd
        subst hd
        rw [if_pos rfl] at q
        have q : AtS X.K TX b none W D ρ' S1 H' (unslot none (xss C b h σ1 S1)) := q
        refine ⟨ρ', σ1, S1, so', eo', ?_⟩
        cases r2 : xss C b h σ1 S1 with
        | next σ2 S2 => rw [r2] at q; exact q
        | brk σ2 S2 => rw [r2] at q; exact q
        | cont σ2 S2 => rw [r2] at q; exact q
        | ret v S2 => rw [r2] at q; exact q
        | exc c as σ2 S2 => rw [r2] at q; exact q.elim
        | bad => rw [r2] at q; exact q.elim
      · have hd : ¬ d = k := of_decide_eq_false hd
        rw [if_neg hd] at q
        exact q ρ' H' τ' cls dd .refl so' eo' x
end
end MP
end
section
set_option Elab.async false
set_option linter.all false
set_option maxRecDepth 100000
set_option maxHeartbeats 1000000
/-! MPSound16: every statement that is looked at runs like its MP. -/
namespace MP
open PySem PySem.Spec PyProof.Rows L2
section
variable [RT] {T : Tab} {TX : Exc} {C : Nat → List PV → Sto → R PV} {X : Cx} {W : WX} {N : List Str} {sc : Scope} {b : Nat} {cl : Bool} {ex : Option Held}
theorem v_cond (hT : T.ok = true) {Y : Cx} {ifs : List Expr} {co : Eo} (m6 : (match ifs with
    | [] => (match co with
      | .none => true
      | .some _ => false)
    | [z] => troB T N sc true none co (some z) && (match co with
      | .none => false
      | .some _ => true)
    | _ => false) = true) (cy : Ctx T TX C Y noW N sc true none) : PTs Y ifs (tTs Y.K TX b none noW (evc C b co)) := by
  cases ifs with
  | nil =>
    cases co with
    | none => exact ⟨fun pins s τ H Q I hq => pts_nil.run pins s τ H Q I (by
        obtain ⟨ρ, σ, S, so, eo, q⟩ := hq
        exact At.ok (rel := relT) so (by unfold evc at q; exact q) rfl)⟩
    | some c => cases m6
  | cons z r =>
    cases r with
    | nil =>
      cases co with
      | none => simp [troB] at m6
      | some c =>
        have q := (Bool.and_eq_true_iff.mp m6).1
        unfold troB at q
        have p := sT (b := b) hT c (ex := none) cy q
        refine ⟨fun pins s τ H Q I hq => (pts_one p).run pins s τ H Q I ?_⟩
        obtain ⟨ρ, σ, S, so, eo, q⟩ := hq
        exact ⟨ρ, σ, S, so, eo, by unfold evc at q; exact q⟩
    | cons _ _ => cases m6
theorem v_lc (hT : T.ok = true) (cx : CtxS T TX C X W N sc cl ex) {i : Nat} {n : Str} {p pos : Pos} {e : E} {elt : Expr} {gs : List Comprehension} {s : Scope} {vp : Pos} (h1 : atB N i n = true) (h4 : trB T N sc cl (hxOf ex) e (.ListComp elt gs s vp) = true)
    (h5 : (isLc e && cl && decide (sc.kind = .function) && kindB sc n .local && (p.line == vp.line) && !(s.names.any fun q => q.1 == n && (q.2 == .local || q.2 == .cell))) = true) :
    PS X (.Assign [.Name n p] (.ListComp elt gs s vp) pos) (tSt X.K TX b ex W (xst C b (.asg (.of (.name i)) e))) := by
  simp only [Bool.and_eq_true, Bool.not_eq_true'] at h5
  obtain ⟨⟨⟨⟨⟨k0, k1⟩, k2⟩, k3⟩, k4⟩, k5⟩ := h5
  subst k1
  have cx' := cx.toCtx
  obtain ⟨nw, t, own, it, co, e', he⟩ : ∃ nw t own it co e', e = if nw = true then E.new (.lc t own it co e') else .lc t own it co e' := by
    unfold isLc at k0
    split at k0
    · rename_i t own it co e'
      exact ⟨false, t, own, it, co, e', rfl⟩
    · rename_i t own it co e'
      exact ⟨true, t, own, it, co, e', rfl⟩
    · cases k0
  have h : trB T N sc true (hxOf ex) (.lc t own it co e') (.ListComp elt gs s vp) = true := by
    cases nw with
    | false => rw [he] at h4; exact h4
    | true =>
      rw [he] at h4
      have h4 : trB T N sc true (hxOf ex) (E.new (.lc t own it co e')) (.ListComp elt gs s vp) = true := h4
      unfold trB at h4
      simp only [Bool.and_eq_true] at h4
      exact h4.1.1
  unfold trB at h
  split at h
  · rename_i heq
    cases heq
    simp only [Bool.and_eq_true] at h
    obtain ⟨⟨⟨⟨⟨⟨⟨_, m2⟩, m3⟩, m4⟩, m0⟩, m5⟩, m6⟩, m7⟩ := h
    have hn : ex = none := by
      cases ex with
      | none => rfl
      | some x => simp [hxOf] at m2
    subst hn
    have ht : ∀ Y : Cx, Y.K = X.K → Ctx T TX C Y noW N (relS s sc) true none → PTs Y _ (tTs Y.K TX b none noW (evc C b co)) := fun Y hY cy => v_cond hT m6 cy
    have hel : ∀ Y : Cx, Y.K = X.K → Ctx T TX C Y noW N (relS s sc) true none → PE Y elt (tE Y.K TX b none noW (ev C b e')) := fun Y hY cy => sE hT e' cy m7
    cases nw with
    | false =>
      rw [he]
      exact u_lc cx h1 k3 (of_decide_eq_true k2) k4 k5 m3 m4 (fun i hi => of_decide_eq_true (List.all_eq_true.mp m0 i hi)) (sIt hT it cx' m5) (folded_of m5 _) ht hel
    | true =>
      rw [he]
      exact u_lcN cx h1 k3 (of_decide_eq_true k2) k4 k5 m3 m4 (fun i hi => of_decide_eq_true (List.all_eq_true.mp m0 i hi)) (sIt hT it cx' m5) (folded_of m5 _) ht hel
  · cases h
theorem none_of {hx : Option Held} (h : (hxOf hx).isNone = true) : hx = none := by
  cases hx with
  | none => rfl
  | some x => simp [hxOf] at h
theorem v_asg (hT : T.ok = true) (cx : CtxS T TX C X W N sc cl ex) {t : Tt} {e : E} {s : Stmt} (h : trS T N sc cl (hxOf ex) (.asg t e) s = true) (hh : t = t → True) : PS X s (tSt X.K TX b ex W (xst C b (.asg t e))) := by
  have cx' := cx.toCtx
  unfold trS at h
  split at h
  · rename_i g v pos
    split at h
    · rename_i i
      split at h
      · simp only [Bool.and_eq_true] at h
        obtain ⟨⟨⟨⟨h1, h2⟩, h3⟩, h4⟩, h5⟩ := h
        have h3' : ∀ q, hxOf ex = some q → q.1 ≠ i := fun q hq e => by
          rw [hq] at h3
          simp [e] at h3
        cases hn : notComp v with
        | true => exact u_name cx h1 h2 h3' (sE hT e cx' h4) (swaps_of hn _ _ _)
        | false =>
          rw [hn, Bool.false_or] at h5
          split at h5
          · exact v_lc hT cx h1 h4 h5
          · cases h5
      · cases h
    · simp only [Bool.and_eq_true] at h
      obtain ⟨⟨⟨⟨h1, h2⟩, h3⟩, h4⟩, h5⟩ := h
      subst h1
      have hn : ex = none := by
        cases ex with
        | none => rfl
        | some x =>
          obtain ⟨_, _, hc, _⟩ := cx.held x rfl
          rw [cx.calm rfl] at hc
          cases hc
      subst hn
      exact u_tup cx h2 (sE hT e cx' h3) h4 h5
    · simp only [Bool.and_eq_true] at h
      obtain ⟨⟨⟨h1, h2⟩, h3⟩, h4⟩ := h
      subst h1
      split at h2
      · simp only [Bool.and_eq_true, Bool.not_eq_true'] at h2
        obtain ⟨⟨m1, m2⟩, m3⟩ := h2
        exact u_sub cx (sE hT _ cx' m1) (sE hT _ cx' m2) m3 (sE hT e cx' h3) h4
      · cases h2
    · cases h
  · cases h
theorem held_none (cx : CtxS T TX C X W N sc true ex) : ex = none := by
  cases ex with
  | none => rfl
  | some x =>
    obtain ⟨_, _, hc, _⟩ := cx.held x rfl
    rw [cx.calm rfl] at hc
    cases hc
theorem nostar_of {hx : Option (Nat × Nat)} {e : E} {f : Expr} (h : trB T N sc cl hx e f = true) : ∀ w q, f ≠ .Starred w q := by
  intro w q z
  subst z
  have := star_of h [] default
  cases this
theorem v_par (hT : T.ok = true) (cx : CtxS T TX C X W N sc cl ex) {i j : Nat} {a c : E} {s : Stmt} (h : trS T N sc cl (hxOf ex) (.par i j a c) s = true) : PS X s (tSt X.K TX b ex W (xst C b (.par i j a c))) := by
  have cx' := cx.toCtx
  unfold trS at h
  split at h
  · simp only [Bool.and_eq_true, Bool.not_eq_true'] at h
    obtain ⟨⟨⟨⟨⟨⟨⟨⟨⟨⟨⟨⟨h1, h2⟩, h3⟩, h4⟩, h5⟩, h6⟩, h7⟩, h8⟩, h9⟩, h10⟩, h11⟩, h12⟩, h13⟩ := h
    subst h1
    have hn := held_none cx
    subst hn
    exact u_par cx h2 h3 (of_decide_eq_false h4) h5 h6 (of_decide_eq_true h7) h8 (of_decide_eq_false h9) h10 h11 (sE hT a cx' h12) (sE hT c cx' h13) (fun es => star_of h12 es _) (star_of h13 _ _) (nostar_of h12) (nostar_of h13)
  · cases h
theorem v_append (hT : T.ok = true) (cx : CtxS T TX C X W N sc cl ex) {a e : E} {s : Stmt} (h : trS T N sc cl (hxOf ex) (.append a e) s = true) : PS X s (tSt X.K TX b ex W (xst C b (.append a e))) := by
  have cx' := cx.toCtx
  unfold trS at h
  split at h
  · rename_i x f ap v cp pos
    simp only [Bool.and_eq_true] at h
    obtain ⟨⟨⟨⟨⟨h1, h2⟩, h3⟩, h4⟩, h5⟩, h6⟩ := h
    subst h1
    have hf : f = "append" := of_decide_eq_true h2
    subst hf
    refine u_append (sE hT a cx' h4) (sE hT e cx' h5) ?_ h3 (star_of h5 _ _)
    split at h6
    · rfl
    · rfl
    · cases h6
  · cases h
theorem v_raise (hT : T.ok = true) (cx : CtxS T TX C X W N sc cl ex) {k : Nat} {es : Es} {s : Stmt} (h : trS T N sc cl (hxOf ex) (.raise k es) s = true) : PS X s (tSt X.K TX b ex W (xst C b (.raise k es))) := by
  unfold trS at h
  split at h
  · simp only [Bool.and_eq_true] at h
    obtain ⟨⟨⟨h1, h2⟩, h3⟩, h4⟩ := h
    subst h1
    cases es with
    | nil => exact u_raise0 cx h2 (of_decide_eq_true h3)
    | cons _ _ => cases h4
  · rename_i x p1 g gs p2 p3
    simp only [Bool.and_eq_true] at h
    obtain ⟨⟨⟨⟨h1, h2⟩, h3⟩, h4⟩, h5⟩ := h
    subst h1
    have h3 := of_decide_eq_true h3
    cases e : T.cls[k]? with
    | none => rw [e] at h3; cases h3
    | some pp =>
      rw [e] at h3
      have h3 : (pp.1, pp.2.1.length) = (x, (g :: gs).length) := Option.some.inj h3
      have hl : pp.2.1.length = (g :: gs).length := congrArg Prod.snd h3
      have hs := h5
      cases es with
      | nil => simp [trsB] at h5
      | cons e1 es1 =>
        have h5' := Bool.and_eq_true_iff.mp (by simpa [trsB] using h5)
        exact u_raiseN cx h2 e (congrArg Prod.fst h3) (fun z => by rw [z] at hl; simp at hl) hl.symm (Tab.nd hT e) (of_decide_eq_true h4) (sEs hT (.cons e1 es1) cx.toCtx hs) (fun σ S vs S' q => evs_len hs q) (star_of h5'.1 _ _) (stars_of h5'.2 _ _)
  · cases h
end
section
variable [RT] {T : Tab} {TX : Exc} {C : Nat → List PV → Sto → R PV} {N : List Str} {b : Nat}
mutual
theorem sS (hT : T.ok = true) : ∀ (p : MP.St) {s : Stmt} {X : Cx} {W : WX} {sc : Scope} {cl : Bool} {ex : Option Held}, (∀ c, SuiteOk T TX X.K X.mg c) → CtxS T TX C X W N sc cl ex → trS T N sc cl (hxOf ex) p s = true → PS X s (tSt X.K TX b ex W (xst C b p))
  | .asg t e, s, X, W, sc, cl, ex, sk, cx, h => v_asg hT cx h fun _ => trivial
  | .par i j a c, s, X, W, sc, cl, ex, sk, cx, h => v_par hT cx h
  | .append a e, s, X, W, sc, cl, ex, sk, cx, h => v_append hT cx h
  | .raise k es, s, X, W, sc, cl, ex, sk, cx, h => v_raise hT cx h
  | .aug i o e, s, X, W, sc, cl, ex, sk, cx, h => by
    have cx' := cx.toCtx
    unfold trS at h
    split at h
    · simp only [Bool.and_eq_true] at h
      obtain ⟨⟨⟨⟨h1, h2⟩, h3⟩, h4⟩, h5⟩ := h
      subst h1
      have hn := held_none cx
      subst hn
      cases o with
      | add => exact u_aug cx h3 h4 (fun q hq => by cases hq) (sE hT e cx' h5)
      | _ => cases h2
    · cases h
  | .augA _ _ _, s, X, W, sc, cl, ex, sk, cx, h => by simp [trS] at h
  | .expr e, s, X, W, sc, cl, ex, sk, cx, h => by
    unfold trS at h
    split at h
    · have h' := Bool.and_eq_true_iff.mp h
      exact u_expr (sE hT e cx.toCtx h'.1) h'.2
    · cases h
  | .ifs c p q, s, X, W, sc, cl, ex, sk, cx, h => by
    unfold trS at h
    split at h
    · simp only [Bool.and_eq_true] at h
      exact u_if (sT hT c cx.toCtx h.1.1) (sSs hT p sk cx h.1.2) (sSs hT q sk cx h.2)
    · cases h
  | .fors t it p, s, X, W, sc, cl, ex, sk, cx, h => by
    unfold trS at h
    split at h
    · simp only [Bool.and_eq_true] at h
      obtain ⟨⟨⟨⟨h1, h2⟩, h3⟩, h4⟩, h5⟩ := h
      subst h1
      have hn := none_of h2
      subst hn
      exact u_for cx h3 (sIt hT it cx.toCtx h4) (folded_of h4 _) (sSs hT p sk cx h5)
    · cases h
  | .whiles c p, s, X, W, sc, cl, ex, sk, cx, h => by
    unfold trS at h
    split at h
    · simp only [Bool.and_eq_true] at h
      obtain ⟨⟨⟨h1, h2⟩, h3⟩, h4⟩ := h
      subst h1
      have hn := none_of h2
      subst hn
      exact u_while cx (sT hT c cx.toCtx h3) (sSs hT p sk cx h4)
    · cases h
  | .ret e, s, X, W, sc, cl, ex, sk, cx, h => by
    unfold trS at h
    split at h
    · exact u_ret (sE hT e cx.toCtx h)
    · cases h
  | .retN, s, X, W, sc, cl, ex, sk, cx, h => by
    unfold trS at h
    split at h
    · exact u_retN
    · cases h
  | .tryo p k i q, s, X, W, sc, cl, ex, sk, cx, h => by
    unfold trS at h
    split at h
    · simp only [Bool.and_eq_true] at h
      obtain ⟨⟨⟨⟨⟨h1, h2⟩, h3⟩, h4⟩, h5⟩, h6⟩ := h
      subst h1
      have hn := none_of h2
      subst hn
      have hb : ∀ (W' : WX) (Y : Cx), Y.K = X.K ∧ Y.mg = X.mg → CtxS T TX C Y W' N sc true none → PSs Y _ (tSt Y.K TX b none W' (xss C b p)) := fun W' Y e cy => sSs hT p (by rw [e.1, e.2]; exact sk) cy h5
      split at h6
      · rename_i k' y
        simp only [Bool.and_eq_true] at h6
        obtain ⟨⟨m1, m2⟩, m3⟩ := h6
        exact u_try_as cx h3 (of_decide_eq_true h4) m1 m2 hb fun A oe cls dd pn hz hv => sSs hT q (X := X.suite A ((A, oe) :: pn)) (ex := some ⟨k', A, k, cls, dd⟩) sk (Ctx.su cx sk hz hv k k') m3
      · exact u_try_only cx h3 (of_decide_eq_true h4) hb fun A pn => sSs hT q (X := X.suite A pn) (ex := none) sk (Ctx.su0 cx) h6
      · cases h6
    · cases h
  | .pass, s, X, W, sc, cl, ex, sk, cx, h => by
    unfold trS at h
    split at h
    · exact u_pass
    · cases h
  | .brk, s, X, W, sc, cl, ex, sk, cx, h => by
    unfold trS at h
    split at h
    · exact u_brk
    · cases h
  | .cont, s, X, W, sc, cl, ex, sk, cx, h => by
    unfold trS at h
    split at h
    · exact u_cont
    · cases h
theorem sSs (hT : T.ok = true) : ∀ (p : Ss) {s : List Stmt} {X : Cx} {W : WX} {sc : Scope} {cl : Bool} {ex : Option Held}, (∀ c, SuiteOk T TX X.K X.mg c) → CtxS T TX C X W N sc cl ex → trSs T N sc cl (hxOf ex) p s = true → PSs X s (tSt X.K TX b ex W (xss C b p))
  | .nil, [], X, W, sc, cl, ex, sk, cx, h => u_nil
  | .nil, _ :: _, X, W, sc, cl, ex, sk, cx, h => by simp [trSs] at h
  | .cons _ _, [], X, W, sc, cl, ex, sk, cx, h => by simp [trSs] at h
  | .cons p q, s :: ss, X, W, sc, cl, ex, sk, cx, h => by
    have h' := Bool.and_eq_true_iff.mp (by simpa [trSs] using h)
    exact u_cons (sS hT p sk cx h'.1) (sSs hT q sk cx h'.2)
end
end
end MP
end
section
set_option Elab.async false
set_option linter.all false
set_option maxRecDepth 100000
set_option maxHeartbeats 1000000
/-! MPSound17: defs by their bodies; what the top leaves; the end of a law. -/
namespace MP
open PySem PySem.Spec PyProof.Rows L2
/-! ### defs -/
/-- a def: its name, its row of the text, its names by slot, its parameters, its MP -/
structure DefT where
  name : Str
  st : Stmt
  N : List Str
  ps : List Str
  fd : FDef
def scopeB (N ps : List Str) (sc : Scope) : Bool :=
  decide (sc.kind = .function) && !sc.isCoroutine && !sc.isGenerator && decide N.Nodup && decide (N.take ps.length = ps) && (ps.all fun x => locB sc x) && (sc.names.all fun y => !decide (y.2 = .free))
def DefT.look (T : Tab) (t : DefT) : Bool := scopeB t.N t.ps (defScope t.st) && trSs T t.N (defScope t.st) true none t.fd.body (defBody t.st) && decide (t.ps.length = t.fd.np) && decide (t.N.length = t.fd.nn)
theorem scopeB_ok {N ps : List Str} {sc : Scope} (h : scopeB N ps sc = true) : FnScope N ps sc := by
  unfold scopeB at h
  simp only [Bool.and_eq_true, Bool.not_eq_true'] at h
  obtain ⟨⟨⟨⟨⟨⟨h1, h2⟩, h3⟩, h4⟩, h5⟩, h6⟩, h7⟩ := h
  refine ⟨of_decide_eq_true h1, h2, h3, of_decide_eq_true h4, of_decide_eq_true h5, fun x hx => ?_, fun y hy e => ?_⟩
  · have z := List.all_eq_true.mp h6 x hx
    haveI : RT := ⟨fun _ => 0, fun _ => []⟩
    exact (locB_ok z)
  · have z := List.all_eq_true.mp h7 y hy
    simp [e] at z
/-- what the text's top leaves -/
structure GlobOk [RT] (T : Tab) (TX : Exc) (D : List DefT) (K : PySem.W.Frag) (mg : Str → Option Value) : Prop where
  free : ∀ x, T.bi.contains x = true → (x = "gcd" → mg x = some (.builtin "math.gcd")) ∧ (x ≠ "gcd" → mg x = none)
  glb : ∀ p ∈ T.glb, ∃ w u, mg p.1 = some u ∧ RelV w u ∧ ∀ ρ H, RelP K ρ H p.2 w
  rcs : ∀ (c : Nat) (p : Str × List Str), T.rcs[c]? = some p → RcK K mg c p
  kit : ∀ (c d : Nat), c < T.rcs.length → d < T.rcs.length → PySem.W.kitOne K (.ref (RT.rc d)) (.ref (RT.rc c)) = some (decide (d = c))
  num : TX.n = T.cls.length
  exc : ∀ (c : Nat) (p : Str × List Str × List Str), T.cls[c]? = some p → ExcK K mg (TX.at_ c) p.1 p.2.1
  exm : ∀ c d, c < TX.n → d < TX.n → PySem.W.exmOne K (.ref (TX.at_ d)) (.ref (TX.at_ c)) = some (decide (d = c))
  attrs : ∀ (c : Nat) (p : Str × List Str × List Str), T.cls[c]? = some p → TX.attrs c = p.2.1
  suite : ∀ c, SuiteOk T TX K mg c
  xin : ∀ (c : Nat) (p : Str × List Str × List Str), T.cls[c]? = some p → p.2.1 ≠ [] → ∃ fI fd x qual params body scope, OexC K (TX.at_ c) ∧ PySem.W.findIn K (.ref (TX.at_ c)) "__init__" = some (some (.ref fI)) ∧ PySem.W.typeIn K (.ref fI) = some (.type "function") ∧
    Binds K fd ("self" :: p.2.1) [] ∧ FunD K x qual params body scope [] [] fI fd ∧ FnScope (("self" : Str) :: p.2.1) (("self" : Str) :: p.2.1) scope ∧ initB p.2.1 body = true ∧ (∀ f ∈ p.2.1, PySem.W.findIn K (.ref (TX.at_ c)) f = some none) ∧ p.2.1.length ≤ 900
  fns : ∀ (f : Nat) (t : DefT), D[f]? = some t → ∃ fa fdata, mg t.name = some (.ref fa) ∧ PySem.W.keepIn K (.ref fa) = true ∧ Binds K fdata t.ps [] ∧ (∀ (s : Shared) (us : List Value), us.length = t.ps.length → BindsTo s fdata ⟨us, []⟩ (t.ps.zip us)) ∧ FunD K t.name t.name (defArgs t.st) (defBody t.st) (defScope t.st) [] [] fa fdata
section
variable [RT] {T : Tab} {TX : Exc} {D : List DefT} {K : PySem.W.Frag} {mg : Str → Option Value} {P : Program} {w : World} {base : Heap}
/-- a def's promise, d calls deep -/
abbrev spF (K : PySem.W.Frag) (TX : Exc) (D : List DefT) (d f : Nat) : Sp := spC K TX (callN (D.map (·.fd)) d f)
theorem start_env {TX : Exc} {ρ : List Addr} {H : Hp} {args : List PV} {vs : List V} {N : List Str} {np : Nat} (r : RelPs K ρ H args vs) (h1 : args.length = np) : EnvOk K TX none ρ H (args.map some ++ List.replicate (N.length - np) none) (L2.start N vs) := by
  have hl := r.length
  refine ⟨by simp [L2.start, ← hl, h1], fun i v h _ => ?_, fun x hx => by cases hx⟩
  by_cases hi : i < args.length
  · rw [List.getElem?_append_left (by simpa using hi), List.getElem?_map] at h
    cases e : args[i]? with
    | none => rw [e] at h; cases h
    | some u =>
      rw [e] at h
      have h : u = v := by simpa using h
      subst h
      obtain ⟨w, h2, h3⟩ := r.get e
      refine ⟨w, ?_, h3⟩
      unfold L2.start
      rw [List.getElem?_append_left (by simpa [← hl] using hi), List.getElem?_map, h2]
      rfl
  · rw [List.getElem?_append_right (by simpa using Nat.le_of_not_lt hi), List.getElem?_replicate] at h
    split at h <;> cases h
theorem paired_und {α β : Type} {F G : α → β → Prop} {g : α → Bool} (f : ∀ a b, g a = true → F a b → G a b) : ∀ {xs : List α} {ys : List β}, (xs.all g) = true → Paired F xs ys → Paired G xs ys
  | _, _, _, .nil => .nil
  | _, _, h, .cons p t => by
    rw [List.all_cons, Bool.and_eq_true] at h
    exact .cons (f _ _ h.1 p) (paired_und f h.2 t)
theorem paired_all {α β : Type} {F : α → β → Prop} {g : α → Bool} (f : ∀ a b, F a b → g a = true) : ∀ {xs : List α} {ys : List β}, Paired F xs ys → (xs.all g) = true
  | _, _, .nil => rfl
  | _, _, .cons p t => by rw [List.all_cons, f _ _ p, paired_all f t]; rfl
theorem unds_all {n : Nat} {κ : Type} : ∀ (kvs : List (κ × PV)), PV.unds n (kvs.map (·.2)) = kvs.all fun p => p.2.und n
  | [] => rfl
  | p :: kvs => by
    have ih := unds_all (n := n) kvs
    rw [List.map_cons, List.all_cons, ← ih]
    rfl
theorem CellOk.und {ρ : List Addr} {H : Hp} {a : Addr} {c : Cell} (co : CellOk K ρ H a c) : c.und ρ.length = true := by
  cases c with
  | lst xs => obtain ⟨vs, r, _⟩ := co; exact r.und
  | ro xs => obtain ⟨vs, r, _⟩ := co; exact r.und
  | ins c fs => obtain ⟨dx, vs, r, _⟩ := co; exact r.und
  | dT kvs =>
    obtain ⟨xs, r, _⟩ := co
    show PV.unds _ _ = true
    rw [unds_all]
    exact paired_all (fun _ _ z => let ⟨_, q, _⟩ := z.2.2; q.und) r.rel
  | dK kvs =>
    obtain ⟨xs, r, _⟩ := co
    show PV.unds _ _ = true
    rw [unds_all]
    exact paired_all (fun _ _ z => z.2.und) r
theorem CellOk.cut {ρ ρ' : List Addr} {n : Nat} {H : Hp} {a : Addr} {c : Cell} (tk : ρ'.take n <+: ρ) (u : c.und n = true) (co : CellOk K ρ' H a c) : CellOk K ρ H a c := by
  cases c with
  | lst xs => obtain ⟨vs, r, z⟩ := co; exact ⟨vs, r.cut tk u, z⟩
  | ro xs => obtain ⟨vs, r, z⟩ := co; exact ⟨vs, r.cut tk u, z⟩
  | ins c fs => obtain ⟨dx, vs, r, z⟩ := co; exact ⟨dx, vs, r.cut tk u, z⟩
  | dT kvs =>
    obtain ⟨xs, r, z⟩ := co
    have u : PV.unds n (kvs.map (·.2)) = true := u
    rw [unds_all] at u
    exact ⟨xs, ⟨paired_und (fun _ _ g z => ⟨z.1, z.2.1, let ⟨w, q, l⟩ := z.2.2; ⟨w, q.cut tk g, l⟩⟩) u r.rel⟩, z⟩
  | dK kvs =>
    obtain ⟨xs, r, z⟩ := co
    have u : PV.unds n (kvs.map (·.2)) = true := u
    rw [unds_all] at u
    exact ⟨xs, paired_und (fun _ _ g z => ⟨z.1, z.2.cut tk g⟩) u r, z⟩
/-- what a def made is forgotten -/
theorem trunc_ok {ρ ρ' : List Addr} {S S1 : Sto} {H H' : Hp} (so : StOk K S.cells.length ρ S H) (g : Grow S.cells.length ρ ρ' ⟨S.cells, false⟩ S1 H H') (so' : StOk K S.cells.length ρ' S1 H') (hd : S1.dirty = false) :
    Grow S.cells.length ρ ρ S ⟨S1.cells.take S.cells.length, S.dirty⟩ H H' ∧ StOk K S.cells.length ρ ⟨S1.cells.take S.cells.length, S.dirty⟩ H' := by
  have okS : okU S.cells.length S.cells := fun k c hk q => by
    obtain ⟨a, ha⟩ := so.lt q
    have z := (so.cell k c a q ha).und
    rw [so.len] at z
    exact z
  obtain ⟨_, u⟩ := g.und hd
  have okT := u _ (Nat.le_refl _) okS
  have gl : S.cells.length ≤ S1.cells.length := g.len
  have hlen : (S1.cells.take S.cells.length).length = S.cells.length := by
    rw [List.length_take]
    omega
  have tk : ρ'.take S.cells.length <+: ρ := by
    obtain ⟨t, rfl⟩ := g.pre
    rw [← so.len, List.take_left]
    exact List.prefix_refl _
  have get : ∀ {k : Nat} {c : Cell}, (S1.cells.take S.cells.length)[k]? = some c → k < S.cells.length ∧ S1.cells[k]? = some c := fun {k c} q => by
    have h1 := (List.getElem?_eq_some_iff.mp q).1
    rw [hlen] at h1
    rw [List.getElem?_take_of_lt h1] at q
    exact ⟨h1, q⟩
  refine ⟨⟨g.keep, List.prefix_refl _, by rw [hlen]; exact Nat.le_refl _, fun a o e n => ⟨(g.frame a o e n).1, n⟩, fun e => ⟨e, fun n hn us k c hk q => ?_⟩⟩, ⟨by rw [hlen]; exact so.len, fun k c a q e => ?_, fun j k a c d e1 e2 q1 q2 n1 n2 => ?_, by rw [hlen]; exact Nat.le_refl _⟩⟩
  · obtain ⟨h1, q⟩ := get q
    exact u n hn us k c hk q
  · obtain ⟨h1, q⟩ := get q
    exact (so'.cell k c a q (pre_get g.pre e)).cut tk (okT k c h1 q)
  · obtain ⟨_, q1⟩ := get q1
    obtain ⟨_, q2⟩ := get q2
    exact so'.inj j k a c d (pre_get g.pre e1) (pre_get g.pre e2) q1 q2 n1 n2
/-- leaving a def -/
theorem fin_ok {E : XK} {ρ ρ' : List Addr} {S S1 : Sto} {H H' : Hp} {v : PV} {w : V} {Q : VK} (so : StOk K S.cells.length ρ S H) (g : Grow S.cells.length ρ ρ' ⟨S.cells, false⟩ S1 H H') (so' : StOk K S.cells.length ρ' S1 H') (r : RelP K ρ' H' v w)
    (h : At K TX S.cells.length E (relE K) ρ S H (fin S v S1) Q) : Q w H' := by
  unfold fin at h
  split at h
  · rename_i hp
    have hp' := Bool.and_eq_true_iff.mp hp
    obtain ⟨g2, so2⟩ := trunc_ok so g so' (by simpa using hp'.2)
    exact h ρ H' w g2 so2 (r.pure_any hp'.1)
  · refine h ρ' H' w ⟨g.keep, g.pre, g.len, g.frame, fun e => ?_⟩ ⟨so'.len, so'.cell, so'.inj, so'.base⟩ r
    have e' : S.dirty = false ∧ S1.dirty = false := by simpa using e
    exact ⟨e'.1, (g.und e'.2).2⟩
theorem finX_ok {E : XK} {ρ ρ' : List Addr} {S S1 : Sto} {H H' : Hp} {c : Nat} {as : List PV} {cls : Value} {d : Option Addr} {Q : VK} (so : StOk K S.cells.length ρ S H) (g : Grow S.cells.length ρ ρ' ⟨S.cells, false⟩ S1 H H') (so' : StOk K S.cells.length ρ' S1 H') (x : ExcOk K TX ρ' H' c as cls d)
    (h : At K TX S.cells.length E (relE K) ρ S H (if PV.pures as && !S1.dirty then .exc c as ⟨S1.cells.take S.cells.length, S.dirty⟩ else .bad) Q) : E cls d H' := by
  split at h
  · rename_i hp
    have hp' := Bool.and_eq_true_iff.mp hp
    obtain ⟨g2, so2⟩ := trunc_ok so g so' (by simpa using hp'.2)
    refine h ρ H' cls d g2 so2 ?_
    obtain ⟨h0, h1, h2, h3⟩ := x
    exact ⟨h0, h1, h2, h3.imp id fun ⟨n, dd, fs, ws, e, z, l, r⟩ => ⟨n, dd, fs, ws, e, z, l, r.pure_any hp'.1⟩⟩
  · exact h.elim
theorem _root_.L2.FunD.lk {x qual : Str} {params : Arguments} {body : List Stmt} {scope : Scope} {dvs : List V} {kws : List (Str × V)} {f : Addr} {fd : FuncData} (F : FunD K x qual params body scope dvs kws f fd) : ∃ oc od osl, K.lookup f = some ⟨oc, od, .func fd, osl⟩ := by
  obtain ⟨oc, od, dV, kV, doc, pm, an, cdv, ct, osl, rfl, lk, _⟩ := F.ex
  exact ⟨oc, od, osl, lk⟩
theorem room65 {k : Nat} {A : Around} (r : Room k A) : A.units + 65 < cLine := by have := r.un; omega
/-- every def keeps its promise -/
theorem fn_all (hT : T.ok = true) (hD : (D.all fun t => t.look T) = true) (hn : T.fns = D.map fun t => some t.name) (hi0 : T.inits = []) (hm0 : T.meths = []) (sr : base.NoSeer) (tr : P.given.tree = none) (G : GlobOk T TX D K mg) : ∀ (d f : Nat) (t : DefT), D[f]? = some t →
    ∃ fa fdata, mg t.name = some (.ref fa) ∧ PySem.W.keepIn K (.ref fa) = true ∧ Binds K fdata t.ps [] ∧ (∀ (s : Shared) (us : List Value), us.length = t.ps.length → BindsTo s fdata ⟨us, []⟩ (t.ps.zip us)) ∧ FnOk P w K mg base (L2.CX P w) (40 + d) fa fdata t.ps (spF K TX D d f) ∧ ∃ oc od osl, K.lookup fa = some ⟨oc, od, .func fdata, osl⟩
  | 0, f, t, h => by
    obtain ⟨fa, fdata, h1, h2, h3, h4, F⟩ := G.fns f t h
    refine ⟨fa, fdata, h1, h2, h3, h4, ⟨fun vs H Q E q => ?_, fun A outer s H args us vs Q E hr e0 hb hv q => ?_⟩, F.lk⟩
    · obtain ⟨ρ, S, args, so, r, q⟩ := q
      unfold callN at q
      exact q.elim
    · obtain ⟨ρ, S, args, so, r, q⟩ := q
      unfold callN at q
      exact q.elim
  | d + 1, f, t, h => by
    have IH := fn_all hT hD hn hi0 hm0 sr tr G d
    obtain ⟨fa, fdata, h1, h2, h3, h4, F⟩ := G.fns f t h
    have lk := List.all_eq_true.mp hD t (List.mem_of_getElem? h)
    unfold DefT.look at lk
    simp only [Bool.and_eq_true] at lk
    obtain ⟨⟨⟨l1, l2⟩, l3⟩, l4⟩ := lk
    have l3 : t.ps.length = t.fd.np := of_decide_eq_true l3
    have l4 : t.N.length = t.fd.nn := of_decide_eq_true l4
    have SC := scopeB_ok l1
    have body : ∀ {args : List PV} {S : Sto}, callN (D.map (·.fd)) (d + 1) f args S = if args.length = t.fd.np then runF (callN (D.map (·.fd)) d) t.fd args S else .bad := fun {args S} => by
      rw [callN, List.getElem?_map, h]
      rfl
    refine ⟨fa, fdata, h1, h2, h3, h4, F.ok SC (fun vs H Q E q => ?_) (fun cdv A outer s H vs Q E hr q => ?_), F.lk⟩
    · obtain ⟨ρ, S, args, so, r, q⟩ := q
      rw [body] at q
      split at q
      · rename_i hl
        rw [l3, ← hl, r.length]
      · exact q.elim
    · let X : Cx := cxOf (L2.CX P w) P w K mg base t.N t.name (defScope t.st) fa cdv A outer s H E
      have cx : CtxS T TX (callN (D.map (·.fd)) d) X (fun cls dd _ H' => E cls dd H') t.N (defScope t.st) true none :=
        { scope := rfl, names := rfl, nd := SC.nd, takes := takes_of rfl rfl rfl rfl, calm := (fun _ => rfl), unit := room65 hr, free := G.free, glb := G.glb, wide := ⟨by have hr' : Room (40 + d) (A.deeper (envOfC t.name (defScope t.st) s.heap.objs.size fa cdv)) := hr; have q := hr'.dp; have e : recursionLimit = 1000 := rfl; rw [e] at q; show (A.deeper (envOfC t.name (defScope t.st) s.heap.objs.size fa cdv)).depth + 100 < 1000; omega, sr, tr, _, _, rfl, SC.gen, SC.co, rfl, rfl⟩, rcs := G.rcs, kit := G.kit, inits := (fun _ c f h => by rw [hi0] at h; cases h), meths := (fun _ c m f h => by rw [hm0] at h; cases h), xin := (fun _ c p e ne => by obtain ⟨fI, fd, x, q, ps, bd, sc, a1, a2, a3, a4, a5, a6, a7, a8, a9⟩ := G.xin c p e ne; exact ⟨fI, fd, 1, a1, a2, a3, a4, ini_ok (k := 0) a5 a6 a7 a1 a8 a9 ne, Room.mono (j := 2) (k := 40 + d) hr (by omega)⟩), num := G.num, exc := G.exc, exm := G.exm, attrs := G.attrs, held := (fun x hx => by cases hx), stk := rfl, frame := rfl,
          po := (fun _ => passes_of rfl), fn := (fun _ => rfl),
          fns := (fun _ g x hg => by
            rw [hn, List.getElem?_map] at hg
            cases e : D[g]? with
            | none => rw [e] at hg; cases hg
            | some u =>
              rw [e] at hg
              have hg : u.name = x := by simpa using hg
              subst hg
              obtain ⟨ga, gd, k1, k2, k3, _, k4, _⟩ := IH g u e
              exact ⟨ga, gd, u.ps, 40 + d, k1, k2, k3, k4, hr⟩) }
      obtain ⟨ρ, S, args, so, r, q⟩ := q
      rw [body] at q
      split at q
      · rename_i hl
        refine ⟨_, sSs (b := S.cells.length) hT t.fd.body G.suite cx l2, ρ, args.map some ++ List.replicate (t.N.length - t.fd.np) none, ⟨S.cells, false⟩, ⟨so.len, so.cell, so.inj, Nat.le_refl _⟩, start_env r hl, ?_⟩
        unfold runF at q
        rw [l4]
        cases e : xss (callN (D.map (·.fd)) d) S.cells.length t.fd.body (args.map some ++ List.replicate (t.fd.nn - t.fd.np) none) ⟨S.cells, false⟩ with
        | next σ1 S1 => rw [e] at q; exact fun ρ' H' τ g so' eo' => fin_ok so g so' .non q
        | ret v S1 => rw [e] at q; exact fun ρ' H' w g so' r' => fin_ok so g so' r' q
        | exc c as σ1 S1 => rw [e] at q; exact fun ρ' H' τ cls dd g so' eo' x => finX_ok so g so' x q
        | brk σ1 S1 => rw [e] at q; exact q.elim
        | cont σ1 S1 => rw [e] at q; exact q.elim
        | bad => rw [e] at q; exact q.elim
      · exact q.elim
end
end MP
end
section
set_option Elab.async false
set_option linter.all false
set_option maxRecDepth 100000
set_option maxHeartbeats 1000000
/-! MPSound18: the look at what the top leaves; the end of a law. -/
namespace MP
open PySem PySem.Spec PyProof.Rows L2 He
/-- a value that stays, as the top has it -/
def pvB (K : PySem.W.Frag) : Nat → PV → Value → Bool
  | 0, _, _ => false
  | n + 1, v, u => match v, u with
    | .non, .none => true
    | .bl a, .bool c => a == c
    | .int a, .int c _ => decide (a = c)
    | .str a, .str c _ => decide (a = c)
    | .tup xs, .ref p => match K.lookup p with
      | some ⟨.type c, _, .seq its _, _⟩ => decide (c = "tuple") && decide (its.size ≤ sizeLine) && decide (xs.length = its.toList.length) && (xs.zip its.toList).all fun q => pvB K n q.1 q.2
      | _ => false
    | _, _ => false
theorem pvB_ok [RT] {K : PySem.W.Frag} : ∀ {n : Nat} {v : PV} {u : Value}, pvB K n v u = true → ∃ w, RelV w u ∧ ∀ ρ H, RelP K ρ H v w
  | 0, _, _, h => by cases h
  | n + 1, v, u, h => by
    unfold pvB at h
    split at h
    · exact ⟨.non, rfl, fun _ _ => .non⟩
    · rename_i a c
      have e : a = c := eq_of_beq h
      subst e
      exact ⟨.bl a, rfl, fun _ _ => .bl a⟩
    · rename_i a c t
      have e : a = c := of_decide_eq_true h
      subst e
      exact ⟨.int a, ⟨t, rfl⟩, fun _ _ => .int a⟩
    · rename_i a c t
      have e : a = c := of_decide_eq_true h
      subst e
      exact ⟨.str a, ⟨t, rfl⟩, fun _ _ => .str a⟩
    · rename_i xs p
      split at h
      · rename_i c dd its m sl hk
        simp only [Bool.and_eq_true] at h
        obtain ⟨⟨⟨h1, h2⟩, h3⟩, h4⟩ := h
        have h1 : c = "tuple" := of_decide_eq_true h1
        subst h1
        have h3 : xs.length = its.toList.length := of_decide_eq_true h3
        have all : ∀ (ys : List PV) (us : List Value), ys.length = us.length → ((ys.zip us).all fun q => pvB K n q.1 q.2) = true → ∃ ws, Vals ws us ∧ ∀ ρ H, RelPs K ρ H ys ws := by
          intro ys
          induction ys with
          | nil =>
            intro us e _
            cases us with
            | nil => exact ⟨[], .nil, fun _ _ => .nil⟩
            | cons _ _ => cases e
          | cons y ys ih =>
            intro us e a
            cases us with
            | nil => cases e
            | cons u us =>
              rw [List.zip_cons_cons, List.all_cons, Bool.and_eq_true] at a
              obtain ⟨w, r1, r2⟩ := pvB_ok a.1
              obtain ⟨ws, s1, s2⟩ := ih us (by simpa using e) a.2
              exact ⟨w :: ws, .cons r1 s1, fun ρ H => .cons (r2 ρ H) (s2 ρ H)⟩
        obtain ⟨ws, s1, s2⟩ := all xs its.toList h3 h4
        exact ⟨.ref p, rfl, fun ρ H => .tup (.inr ⟨_, its, m, hk, rfl, rfl, of_decide_eq_true h2, s1⟩) (s2 ρ H)⟩
      · cases h
    · cases h
/-- the classes of records of a text -/
abbrev rtOf (T : Tab) (K : PySem.W.Frag) : RT := ⟨fun c => match T.rcs[c]? with
  | some p => ga K p.1
  | none => 0, fun c => match T.rcs[c]? with
  | some p => p.2
  | none => []⟩
def clAt (T : Tab) (K : PySem.W.Frag) (c : Nat) : Addr := match T.cls[c]? with
  | some p => ga K p.1
  | none => 0
def txOf (T : Tab) (K : PySem.W.Frag) : Exc := ⟨T.cls.length, clAt T K, fun c => match T.cls[c]? with
  | some p => p.2.1
  | none => []⟩
def oVal (a : Option (Option Value)) (b : Option (Option Value)) : Bool := decide (a = b)
def freeB (K : PySem.W.Frag) (x : Str) : Bool := if x = "gcd" then oVal (PySem.W.nsIn K mainGlobals x) (some (some (.builtin "math.gcd"))) else oVal (PySem.W.nsIn K mainGlobals x) (some none)
def glbB (K : PySem.W.Frag) (p : Str × PV) : Bool := match PySem.W.nsIn K mainGlobals p.1 with
  | some (some u) => pvB K 20 p.2 u
  | _ => false
/-- a class that isinstance may be asked of -/
def supB (K : PySem.W.Frag) (A : Addr) (z : Str) : Bool := match PySem.W.nsIn K mainGlobals z with
  | some (some (.ref a)) => decide (PySem.W.kitOne K (.ref A) (.ref a) = some true)
  | some none => match bootBuiltins z with
    | some (.type t) => !decide (z = "__name__") && decide (PySem.W.kitOne K (.ref A) (.type t) = some true)
    | _ => false
  | _ => false
/-- a class of exceptions with an own __init__, as the top has it -/
def oexB (K : PySem.W.Frag) (C : Addr) : Bool := (match K.lookup C with
  | some ⟨.type t, _, .cls cd, sl⟩ => decide (t = "type") && (match cd.mro, sl.toList with
    | .ref C' :: bm, [_, _, _, _, some (.builtin n), _] => decide (C' = C) && decide (n = "ValueError.__new__") && !cd.hasDel && cd.hasDict && PySem.HandSPX.refsVE bm
    | _, _ => false)
  | _ => false) && oVal (PySem.W.findIn K (.ref C) "__setattr__") (some (some (.builtin "object.__setattr__")))
theorem oexB_ok {K : PySem.W.Frag} {C : Addr} (h : oexB K C = true) (h1 : PySem.W.subIn K (.ref C) (.type "BaseException") = some true) (h2 : PySem.W.typeIn K (.ref C) = some (.type "type")) (h3 : PySem.W.keepIn K (.ref C) = true) : OexC K C := by
  unfold oexB at h
  rw [Bool.and_eq_true] at h
  refine ⟨?_, of_decide_eq_true h.2, h1, h2, h3⟩
  have h := h.1
  split at h
  · rename_i t dd cd sl ho
    rw [Bool.and_eq_true] at h
    obtain ⟨ht, h⟩ := h
    have ht := of_decide_eq_true ht
    subst ht
    split at h
    · rename_i C' bm k0 k1 k2 k3 n k5 hm hs
      simp only [Bool.and_eq_true, Bool.not_eq_true'] at h
      obtain ⟨⟨⟨⟨g1, g2⟩, g3⟩, g4⟩, g5⟩ := h
      have g1 := of_decide_eq_true g1
      have g2 := of_decide_eq_true g2
      subst g1 g2
      obtain ⟨nm, bs, mro, ns, qn, hd, sn, sub, ab, col, del⟩ := cd
      simp only at hm g3 g4
      subst hm g3 g4
      have e : sl = #[k0, k1, k2, k3, some (.builtin "ValueError.__new__"), k5] := by
        rw [← Array.toArray_toList (xs := sl), hs]
      subst e
      exact ⟨nm, qn, ns, bs, bm, sn, sub, ab, col, dd, k0, k1, k2, k3, k5, ho, g5⟩
    · cases h
  · cases h
def excB (K : PySem.W.Frag) (p : Str × List Str × List Str) : Bool :=
  let A := ga K p.1
  oVal (PySem.W.nsIn K mainGlobals p.1) (some (some (.ref A))) && PySem.W.keepIn K (.ref A) && decide (PySem.W.subIn K (.ref A) (.type "BaseException") = some true) && decide (PySem.W.typeIn K (.ref A) = some (.type "type")) &&
  (!p.2.1.isEmpty || PySem.W.excIn K A [.type "ValueError", .type "Exception", .type "BaseException", .type "object"] "ValueError.__new__") &&
  oVal (PySem.W.findIn K (.ref A) "__getattribute__") (some (some (.builtin "BaseException.__getattribute__"))) && oVal (PySem.W.findIn K (.ref A) "__getattr__") (some none) && PySem.W.hasDictIn K A && (p.2.1.all fun f => oVal (PySem.W.findIn K (.ref A) f) (some none)) &&
  oVal (PySem.W.findIn K (.ref A) "__class__") (some (some (.builtin "object.__class__"))) && oVal (PySem.W.specialIn K (.builtin "object.__class__") "__get__") (some (some (.builtin "getset_descriptor.__get__"))) && decide (PySem.W.takesIn K (.builtin "object.__class__") = some true) &&
  decide (PySem.W.mroIn K A (.type "object") = some true) && (p.2.2.all fun z => supB K A z) && (p.2.1.isEmpty || oexB K A && (match PySem.W.findIn K (.ref A) "__init__" with
    | some (some (.ref f)) => decide (PySem.W.typeIn K (.ref f) = some (.type "function"))
    | _ => false))
/-- a class of records -/
def rcB (K : PySem.W.Frag) (p : Str × List Str) : Bool :=
  let A := ga K p.1
  oVal (PySem.W.nsIn K mainGlobals p.1) (some (some (.ref A))) && decide p.2.Nodup && decide (p.2.length < 900) && PySem.W.plainGet K A Str.empty && PySem.W.hasDictIn K A && PySem.W.plainOver K A && oVal (PySem.W.findIn K (.ref A) "__setattr__") (some (some (.builtin "object.__setattr__"))) &&
  (p.2.all fun f => oVal (PySem.W.findIn K (.ref A) f) (some none)) && oVal (PySem.W.findIn K (.ref A) "__class__") (some (some (.builtin "object.__class__"))) && oVal (PySem.W.specialIn K (.builtin "object.__class__") "__get__") (some (some (.builtin "getset_descriptor.__get__"))) &&
  decide (PySem.W.takesIn K (.builtin "object.__class__") = some true) && decide (PySem.W.mroIn K A (.type "object") = some true)
def headB (T : Tab) (K : PySem.W.Frag) : Bool :=
  (T.rcs.all fun p => rcB K p) && ((List.range T.rcs.length).all fun c => (List.range T.rcs.length).all fun d => decide (PySem.W.kitOne K (.ref ((rtOf T K).rc d)) (.ref ((rtOf T K).rc c)) = some (decide (d = c)))) &&
  (T.bi.all fun x => freeB K x) && (T.glb.all fun p => glbB K p) && (T.cls.all fun p => excB K p) &&
  ((List.range T.cls.length).all fun c => (List.range T.cls.length).all fun d => decide (PySem.W.exmOne K (.ref (clAt T K d)) (.ref (clAt T K c)) = some (decide (d = c))))
/-- an own __init__ of an exception: its class, its row, its names -/
structure ExI where
  cls : Str
  st : Stmt
  fs : List Str
def ExI.look (e : ExI) : Bool := scopeB (("self" : Str) :: e.fs) (("self" : Str) :: e.fs) (defScope e.st) && initB e.fs (defBody e.st) && decide (e.fs.length ≤ 900)
def exD (e : ExI) : DefD := ⟨(e.cls, some "__init__"), "__init__", e.cls ++ Str.ofString ".__init__", defArgs e.st, defBody e.st, defScope e.st, [], []⟩
def defD (t : DefT) : DefD := ⟨(t.name, none), t.name, t.name, defArgs t.st, defBody t.st, defScope t.st, [], []⟩
def lookM (T : Tab) (D : List DefT) (XD : List ExI) (K : PySem.W.Frag) : Bool × List FnW :=
  (headB T K && (D.all fun t => oVal (PySem.W.nsIn K mainGlobals t.name) (some (some (.ref (ga K t.name)))) && (defD t).ok K) && XD.all fun e => (exD e).ok K, (D.map fun t => fnW K (t.name, none)) ++ XD.map fun e => fnW K (e.cls, some "__init__"))
def goodM (D : List DefT) (XD : List ExI) : Bool × List FnW := (true, (D.map fun t => (defD t).val) ++ XD.map fun e => (exD e).val)
def seenM (n : Nat) (T : Tab) (D : List DefT) (XD : List ExI) (g : Addr → Option Obj) : Bool × List FnW := lookM T D XD (frG g (asD g n))
def hookM (n : Nat) (T : Tab) (D : List DefT) (XD : List ExI) : PySem.W.Hook :=
  { α := Bool × List FnW, obs := (fun s => seenM n T D XD s.heap.get?), val := (fun _ => goodM D XD), says := (fun _ h => ∃ K : PySem.W.Frag, K.In h ∧ lookM T D XD K = goodM D XD),
    of := (fun _ _ e => ⟨_, frG_in, e⟩), keeps := (fun _ _ _ ⟨K, hK, e⟩ k => ⟨K, hK.keeps k, e⟩) }
theorem seenM_eq {n : Nat} {T : Tab} {D : List DefT} {XD : List ExI} {g : Addr → Option Obj} {s : Shared} (h : ∀ a, g a = s.heap.get? a) : seenM n T D XD g = (hookM n T D XD).obs s := by
  have e : g = s.heap.get? := funext h
  rw [e]
  rfl
/-- how each def's arguments are bound -/
def BdT (t : DefT) : Prop := ∀ (kV doc pm : Value) (an : Option Addr) (cdv ct : Value) (us : List Value), us.length = t.ps.length → bindArgs (PySem.W.fnOf t.name t.name (defArgs t.st) (defBody t.st) (defScope t.st) .none kV doc pm an cdv ct) ⟨us, []⟩ = pure (t.ps.zip us)
def BdX (t : ExI) : Prop := ∀ (kV doc pm : Value) (an : Option Addr) (cdv ct : Value) (us : List Value), us.length = (("self" : Str) :: t.fs).length → bindArgs (PySem.W.fnOf "__init__" (t.cls ++ Str.ofString ".__init__") (defArgs t.st) (defBody t.st) (defScope t.st) .none kV doc pm an cdv ct) ⟨us, []⟩ = pure ((("self" : Str) :: t.fs).zip us)
inductive AllX (F : ExI → Prop) : List ExI → Prop
  | nil : AllX F []
  | cons {t : ExI} {D : List ExI} : F t → AllX F D → AllX F (t :: D)
theorem AllX.get {F : ExI → Prop} : ∀ {D : List ExI}, AllX F D → ∀ {t : ExI}, t ∈ D → F t
  | _, .nil, _, e => by cases e
  | _, .cons h hs, _, e => by
    rcases List.mem_cons.mp e with rfl | e
    · exact h
    · exact hs.get e
/-- each class with an own __init__ is told of -/
def xinB (T : Tab) (XD : List ExI) : Bool := T.cls.all fun p => p.2.1.isEmpty || XD.any fun e => decide (e.cls = p.1) && decide (e.fs = p.2.1) && e.look
inductive AllT (F : DefT → Prop) : List DefT → Prop
  | nil : AllT F []
  | cons {t : DefT} {D : List DefT} : F t → AllT F D → AllT F (t :: D)
theorem AllT.get {F : DefT → Prop} : ∀ {D : List DefT}, AllT F D → ∀ {i : Nat} {t : DefT}, D[i]? = some t → F t
  | _, .nil, _, _, e => by simp at e
  | _, .cons h _, 0, _, e => by simp at e; subst e; exact h
  | _, .cons _ hs, i + 1, _, e => hs.get (by simpa using e)
theorem glob_ok {T : Tab} {D : List DefT} {XD : List ExI} {K : PySem.W.Frag} {mg : Str → Option Value} {h : Heap} (X : K.In h) (G : h.Ns mainGlobals mg) (hl : lookM T D XD K = goodM D XD) (hb : AllT BdT D) (hx : xinB T XD = true) (hbx : AllX BdX XD) : letI := rtOf T K; GlobOk T (txOf T K) D K mg := by
  letI := rtOf T K
  have h1 : (headB T K && (D.all fun t => oVal (PySem.W.nsIn K mainGlobals t.name) (some (some (.ref (ga K t.name)))) && (defD t).ok K) && XD.all fun e => (exD e).ok K) = true := congrArg Prod.fst hl
  have h2' : (D.map fun t => fnW K (t.name, none)) ++ (XD.map fun e => fnW K (e.cls, some "__init__")) = (D.map fun t => (defD t).val) ++ XD.map fun e => (exD e).val := congrArg Prod.snd hl
  obtain ⟨h2, h2x⟩ := List.append_inj h2' (by simp)
  rw [Bool.and_eq_true, Bool.and_eq_true] at h1
  obtain ⟨⟨hd, hf⟩, hxf⟩ := h1
  unfold headB at hd
  simp only [Bool.and_eq_true] at hd
  obtain ⟨⟨⟨⟨⟨r1, r2⟩, d1⟩, d2⟩, d3⟩, d4⟩ := hd
  have clA : ∀ {c : Nat} {p : Str × List Str × List Str}, T.cls[c]? = some p → clAt T K c = ga K p.1 := fun {c p} e => by unfold clAt; rw [e]
  have parts : ∀ {c : Nat} {p : Str × List Str × List Str}, T.cls[c]? = some p → excB K p = true := fun {c p} e => List.all_eq_true.mp d3 p (List.mem_of_getElem? e)
  refine ⟨fun x hx => ?_, fun p hp => ?_, fun c p e => ?_, fun c d hc hd => ?_, rfl, fun c p e => ?_, fun c d hc hd => ?_, fun c p e => ?_, fun c => ⟨fun p e => ?_⟩, fun c p e ne => ?_, fun f t e => ?_⟩
  · have z := List.all_eq_true.mp d1 x (by simpa using hx)
    unfold freeB at z
    by_cases hg : x = "gcd"
    · rw [if_pos hg] at z
      exact ⟨fun _ => PySem.W.mg_of X G (of_decide_eq_true z), fun n => absurd hg n⟩
    · rw [if_neg hg] at z
      exact ⟨fun e => absurd e hg, fun _ => PySem.W.mg_none_of X G (of_decide_eq_true z)⟩
  · have z := List.all_eq_true.mp d2 p hp
    unfold glbB at z
    split at z
    · rename_i u hu
      obtain ⟨w, r, q⟩ := pvB_ok z
      exact ⟨w, u, PySem.W.mg_of X G hu, r, q⟩
    · cases z
  · have z := List.all_eq_true.mp r1 p (List.mem_of_getElem? e)
    unfold rcB at z
    simp only [Bool.and_eq_true] at z
    obtain ⟨⟨⟨⟨⟨⟨⟨⟨⟨⟨⟨z1, z2⟩, z3⟩, z4⟩, z5⟩, z6⟩, z7⟩, z8⟩, z9⟩, z10⟩, z11⟩, z12⟩ := z
    have ec : RT.rc c = ga K p.1 := by
      show (match T.rcs[c]? with
        | some p => ga K p.1
        | none => 0) = _
      rw [e]
    have ef : RT.rf c = p.2 := by
      show (match T.rcs[c]? with
        | some p => p.2
        | none => []) = _
      rw [e]
    refine ⟨?_, ef, of_decide_eq_true z2, of_decide_eq_true z3, ?_, ?_, ?_, of_decide_eq_true z10, of_decide_eq_true z11, ?_⟩ <;> rw [ec]
    · exact PySem.W.mg_of X G (of_decide_eq_true z1)
    · exact ⟨z4, z5, z6, of_decide_eq_true z7⟩
    · exact fun f hf => of_decide_eq_true (p := PySem.W.findIn K (.ref (ga K p.1)) f = some none) (List.all_eq_true.mp z8 f hf)
    · exact of_decide_eq_true z9
    · exact of_decide_eq_true z12
  · exact of_decide_eq_true (List.all_eq_true.mp (List.all_eq_true.mp r2 c (List.mem_range.mpr hc)) d (List.mem_range.mpr hd))
  · have z := parts e
    unfold excB at z
    simp only [Bool.and_eq_true] at z
    obtain ⟨⟨⟨⟨⟨⟨⟨⟨⟨⟨⟨⟨⟨⟨z1, z2⟩, z3⟩, z4⟩, z5⟩, z6⟩, z7⟩, z8⟩, z9⟩, z10⟩, z11⟩, z12⟩, z13⟩, z14⟩, z15⟩ := z
    show ExcK K mg (clAt T K c) p.1 p.2.1
    rw [clA e]
    refine ⟨PySem.W.mg_of X G (of_decide_eq_true z1), z2, of_decide_eq_true z3, of_decide_eq_true z4, fun h0 => ?_⟩
    rw [h0] at z5
    simpa using z5
  · have z := List.all_eq_true.mp (List.all_eq_true.mp d4 c (List.mem_range.mpr hc)) d (List.mem_range.mpr hd)
    exact of_decide_eq_true z
  · show (match T.cls[c]? with
      | some p => p.2.1
      | none => []) = p.2.1
    rw [e]
  · have z := parts e
    unfold excB at z
    simp only [Bool.and_eq_true] at z
    obtain ⟨⟨⟨⟨⟨⟨⟨⟨⟨⟨⟨⟨⟨⟨z1, z2⟩, z3⟩, z4⟩, z5⟩, z6⟩, z7⟩, z8⟩, z9⟩, z10⟩, z11⟩, z12⟩, z13⟩, z14⟩, z15⟩ := z
    show (∀ f ∈ p.2.1, PySem.W.findIn K (.ref (clAt T K c)) "__getattribute__" = _ ∧ PySem.W.findIn K (.ref (clAt T K c)) "__getattr__" = _ ∧ PySem.W.subIn K (.ref (clAt T K c)) _ = _ ∧ PySem.W.hasDictIn K (clAt T K c) = _ ∧ PySem.W.findIn K (.ref (clAt T K c)) f = _) ∧
      (ExcC K (clAt T K c) ∧ ∀ z, p.2.2.contains z = true → ∃ (c' : V) (cv : Value), ((mg z = some cv) ∨ (mg z = none ∧ bootBuiltins z = some cv ∧ z ≠ "__name__")) ∧ RelV c' cv ∧ (∀ u, RelV c' u → u = cv) ∧ PySem.W.kitOne K (.ref (clAt T K c)) cv = some true)
    rw [clA e]
    refine ⟨fun f hf => ⟨of_decide_eq_true z6, of_decide_eq_true z7, of_decide_eq_true z3, z8, of_decide_eq_true (List.all_eq_true.mp z9 f hf)⟩, ⟨⟨of_decide_eq_true z6, of_decide_eq_true z7, of_decide_eq_true z3, z8, of_decide_eq_true z10, of_decide_eq_true z11, of_decide_eq_true z12, of_decide_eq_true z13⟩, fun z hz => ?_⟩⟩
    have y := List.all_eq_true.mp z14 z (by simpa using hz)
    unfold supB at y
    split at y
    · rename_i a ha
      exact ⟨.ref a, .ref a, .inl (PySem.W.mg_of X G ha), rfl, fun u r => r, of_decide_eq_true y⟩
    · rename_i ha
      split at y
      · rename_i t ht
        have y' := Bool.and_eq_true_iff.mp y
        exact ⟨.ty t, .type t, .inr ⟨PySem.W.mg_none_of X G ha, ht, by simpa using y'.1⟩, rfl, fun u r => r, of_decide_eq_true y'.2⟩
      · cases y
    · cases y
  · have z := parts e
    unfold excB at z
    simp only [Bool.and_eq_true] at z
    obtain ⟨⟨⟨⟨⟨⟨⟨⟨⟨⟨⟨⟨⟨⟨z1, z2⟩, z3⟩, z4⟩, z5⟩, z6⟩, z7⟩, z8⟩, z9⟩, z10⟩, z11⟩, z12⟩, z13⟩, z14⟩, z15⟩ := z
    have ne' : p.2.1.isEmpty = false := by
      cases q : p.2.1 with
      | nil => exact absurd q ne
      | cons _ _ => rfl
    rw [ne', Bool.false_or, Bool.and_eq_true] at z15
    have xe := List.all_eq_true.mp hx p (List.mem_of_getElem? e)
    rw [ne', Bool.false_or] at xe
    obtain ⟨xd, xm, xe⟩ := List.any_eq_true.mp xe
    simp only [Bool.and_eq_true] at xe
    obtain ⟨⟨x1, x2⟩, x3⟩ := xe
    have x1 : xd.cls = p.1 := of_decide_eq_true x1
    have x2 : xd.fs = p.2.1 := of_decide_eq_true x2
    unfold ExI.look at x3
    simp only [Bool.and_eq_true] at x3
    obtain ⟨⟨y1, y2⟩, y3⟩ := x3
    rw [show (txOf T K).at_ c = ga K p.1 from clA e]
    split at z15
    · rename_i fI hfi
      have ev : fnW K (xd.cls, some "__init__") = (exD xd).val := by
        obtain ⟨j, hj⟩ := List.mem_iff_getElem?.mp xm
        have e2 : (XD.map fun e => fnW K (e.cls, some "__init__"))[j]? = (XD.map fun e => (exD e).val)[j]? := by rw [h2x]
        rw [List.getElem?_map, List.getElem?_map, hj] at e2
        exact Option.some.inj e2
      obtain ⟨fd, F⟩ := DefD.funD (d := exD xd) ev (List.all_eq_true.mp hxf xd xm)
      have ad : fAd K (xd.cls, some "__init__") = fI := by
        show ma K (ga K xd.cls) "__init__" = fI
        unfold ma
        rw [x1, hfi]
      have F' : FunD K "__init__" (xd.cls ++ Str.ofString ".__init__") (defArgs xd.st) (defBody xd.st) (defScope xd.st) [] [] fI fd := by
        have G : FunD K "__init__" (xd.cls ++ Str.ofString ".__init__") (defArgs xd.st) (defBody xd.st) (defScope xd.st) [] [] (fAd K (xd.cls, some "__init__")) fd := F
        rw [ad] at G
        exact G
      have bx := hbx.get xm
      unfold BdX at bx
      rw [x2] at bx y1 y2 y3
      exact ⟨fI, fd, _, _, _, _, _, oexB_ok z15.1 (of_decide_eq_true z3) (of_decide_eq_true z4) z2, hfi, of_decide_eq_true z15.2, F'.bindsN bx, F', scopeB_ok y1, y2, fun f hf => of_decide_eq_true (List.all_eq_true.mp z9 f hf), of_decide_eq_true y3⟩
    · exact absurd z15.2 Bool.false_ne_true
  · have z := List.all_eq_true.mp hf t (List.mem_of_getElem? e)
    rw [Bool.and_eq_true] at z
    have ev : fnW K (t.name, none) = (defD t).val := by
      have e2 : (D.map fun t => fnW K (t.name, none))[f]? = (D.map fun t => (defD t).val)[f]? := by rw [h2]
      rw [List.getElem?_map, List.getElem?_map, e] at e2
      exact Option.some.inj e2
    obtain ⟨fd, F⟩ := DefD.funD (d := defD t) ev z.2
    have b := hb.get e
    have F' : FunD K t.name t.name (defArgs t.st) (defBody t.st) (defScope t.st) [] [] (ga K t.name) fd := F
    exact ⟨ga K t.name, fd, PySem.W.mg_of X G (of_decide_eq_true z.1), F.kp, F'.bindsN b, fun s us hl => F'.bindsA b s us hl, F'⟩
/-- the heap of what stands before a call: all but the script, if that is the run's own -/
def scriptH (K : PySem.W.Frag) (a : Addr) (o : Obj) (xs : List V) : Hp := fun b => if K.lookup a = none ∧ b = a then some (.frz o (.lst xs)) else none
theorem scriptH_of {K : PySem.W.Frag} {a b : Addr} {o : Obj} {xs : List V} {u : HO} (h : scriptH K a o xs b = some u) : b = a ∧ u = .frz o (.lst xs) ∧ K.lookup a = none := by
  unfold scriptH at h
  split at h
  · rename_i c
    exact ⟨c.2, (Option.some.inj h).symm, c.1⟩
  · cases h
/-- the law's def is called, its promise given where the settings are as they are at the start -/
theorem law_goes {P : Program} {w : World} {K : PySem.W.Frag} {mg mb : Str → Option Value} {k : Nat} {fa a : Addr} {fd : FuncData} {x : Str} {sp : Sp} {s1 : Shared} {vs : List Value} {ns : List Int}
    (KX : K.In s1.heap) (gn : s1.heap.Ns mainGlobals mg) (bn : s1.heap.Ns builtinsNs mb) (bb : ∀ x : Str, x ≠ "__name__" → mb x = bootBuiltins x) (lim : s1.heap.NoLimit) (seer : s1.heap.NoSeer) (gen : s1.gens = #[])
    (ha : s1.heap.get? a = some { cls := .type "list", data := .seq vs.toArray }) (hi : IntsAre vs ns) (hl : ns.length ≤ sizeLine) (room : Room k callerA)
    (F : ∀ base : Heap, base.NoSeer → FnOk P w K mg base (L2.CX P w) k fa fd [x] sp) (bd : ∀ (s : Shared) (u : Value), BindsTo s fd ⟨[u], []⟩ [(x, u)])
    (go : ∀ H : Hp, RoL K H a (ns.map V.int) → sp [.ref a] H (fun v _ => v = .bl true) fun _ _ _ => False) :
    codeAny (model P w) callerA (.call (.ref fa) ⟨[.ref a], []⟩) (fun r s' => r = .ok (.ret (.bool true)) ∧ OldK s1.heap s'.heap ∧ s'.os = s1.os ∧ AllBare s'.gens) s1 := by
  have iv := vals_ints hi
  have lv := hi.length
  let ob : Obj := { cls := .type "list", data := .seq vs.toArray }
  let H : Hp := scriptH K a ob (ns.map V.int)
  -- what the run can see from the start
  have keepsD : ∀ {b : Addr} {o : Obj}, s1.heap.get? b = some o → (∀ q n, o.data = .seq q n → o.cls ≠ .type "list") → (hidT s1.heap H).get? b = some o := fun {b o} e nd => hidT_get e (by
    cases q : H b with
    | none => rfl
    | some u =>
      obtain ⟨rfl, _, _⟩ := scriptH_of q
      rw [ha] at e
      cases e
      exact absurd rfl (nd _ _ rfl))
  have nsD : ∀ {b : Addr} {m : Str → Option Value}, s1.heap.Ns b m → (hidT s1.heap H).Ns b m := fun {b m} h => by
    obtain ⟨o, es, ep, e, d, r⟩ := h
    exact ⟨o, es, ep, keepsD e (fun q n z => by rw [d] at z; cases z), d, r⟩
  have seerD : (hidT s1.heap H).NoSeer := by
    obtain ⟨mc, c1, c2⟩ := seer.statics
    obtain ⟨mm, m1, m2⟩ := seer.mods
    obtain ⟨mi, i1, i2⟩ := seer.imp
    obtain ⟨mn, bm, om, n1, n2, n3, n4, n5⟩ := seer.main
    exact ⟨⟨mc, nsD c1, c2⟩, ⟨mm, nsD m1, m2⟩, ⟨mi, nsD i1, i2⟩, mn, bm, om, nsD n1, n2, keepsD n3 (fun _ _ _ z => by rw [n4] at z; injection z with z; exact absurd z (by decide)), n4, n5⟩
  have inD : K.In (hidT s1.heap H) := fun b o e => hidT_get (KX b o e) (by
    cases q : H b with
    | none => rfl
    | some u =>
      obtain ⟨rfl, _, z⟩ := scriptH_of q
      rw [z] at e; cases e)
  obtain ⟨mc, l1, l2⟩ := lim
  have hok : HOk P w H s1.heap := fun b u q => by
    obtain ⟨rfl, rfl, _⟩ := scriptH_of q
    exact ⟨ha, by rw [List.length_map]; exact hl, vs, _, iv, ha⟩
  have ro : RoL K H a (ns.map V.int) := by
    cases hk : K.lookup a with
    | none => exact .inl ⟨ob, if_pos ⟨hk, rfl⟩⟩
    | some o =>
      have e := KX a o hk
      rw [ha] at e
      cases e
      exact .inr ⟨_, vs.toArray, _, hk, rfl, rfl, rfl, by rw [List.size_toArray, lv]; exact hl, by simpa using iv⟩
  have e0 : Env0 P w K mg (hidT s1.heap H) callerA [] s1 H :=
    { frames := rfl, mod := ⟨inD, nsD gn, ⟨mb, nsD bn, bb⟩, mc, nsD l1, l2⟩, bs := fun b o e => of_hidT e, bsz := Nat.le_of_eq (hidT_size _ _), funs := trivial, frf := (fun b hb => by cases hb), hok := hok, bare := .of_eq gen }
  refine codeAny_mono ((F _ seerD).run callerA [] s1 H ⟨[.ref a], []⟩ [.ref a] [.ref a] _ _ room e0 (bd s1 (.ref a)) (.cons rfl .nil) (go H ro)) fun r s' h => ?_
  match r, h with
  | .error e, h =>
    obtain ⟨_, _, _, _, _, _, _, _, _, _, _, _, z⟩ := h
    exact z.elim
  | .ok (.ret u), h =>
    obtain ⟨v, H', os, bare, un, hok', r', rfl⟩ := h
    obtain rfl : u = Value.bool true := r'
    refine ⟨rfl, OldK.of_keep fun b o e => ?_, os, bare⟩
    cases q : H b with
    | none => exact un.keep b o e q (fun z => by cases z) (by simp)
    | some y =>
      obtain ⟨rfl, rfl, _⟩ := scriptH_of q
      have t := un.frzs b _ _ q
      have z1 := (hok b _ q).1
      have z2 := (hok' b _ t).1
      rw [e] at z1
      cases z1
      exact z2
  | .ok .next, h => exact h.elim
  | .ok .brk, h => exact h.elim
  | .ok .cont, h => exact h.elim
/-- the end of a law: MP's run of it gives True -/
theorem law_walk {l : PySem.W.OpenLaw} {q : Program} {loose : List Str} {XP : (Str → Option Value) → Heap → Prop} {d : DefRec} {T : Tab} {D : List DefT} {XD : List ExI} {n li dd : Nat} {tl : DefT} (hmost : l.most = some 63) (hdf : d.params.defaults = []) (hr : Room (40 + dd) callerA) (hT : T.ok = true) (hD : (D.all fun t => t.look T) = true)
    (hn : T.fns = D.map fun t => some t.name) (hi0 : T.inits = []) (hm0 : T.meths = []) (himp : PyProof.Rows.importsNone q = true) (htree : l.prog.given.tree = none)
    (hb : AllT BdT D) (hxb : xinB T XD = true) (hbx : AllX BdX XD) (hli : D[li]? = some tl) (hps : tl.ps = [("script" : Str)]) (hname : d.name = tl.name) (main : ∀ ns : List Int, ns.length ≤ 63 → ∃ S', callN (D.map (·.fd)) dd li [.lst (ns.map .int)] ⟨[], false⟩ = .ok (.bl true) S') :
    PySem.W.WalkO q loose XP (hookM n T D XD).says l.row.toRowW d [] (fun f vs => PySem.call f vs) := by
  refine Att.attach_call hmost hdf fun w s₀ s₁ mg mb fa o pm cd doc a vs ns G Y ho hd hcd hmg hobj hints hlen hg => ?_
  obtain ⟨K, KX, hl⟩ := Y
  letI := rtOf T K
  have GO : GlobOk T (txOf T K) D K mg := glob_ok KX G.T.g hl hb hxb hbx
  have GO2 : ∃ fdata, (∀ (s : Shared) (us : List Value), us.length = tl.ps.length → BindsTo s fdata ⟨us, []⟩ (tl.ps.zip us)) ∧ ∀ base : Heap, base.NoSeer → FnOk l.prog w K mg base (L2.CX l.prog w) (40 + dd) fa fdata tl.ps (spF K (txOf T K) D dd li) := by
    obtain ⟨fa1, fd1, a1, _, _, a4, F1⟩ := GO.fns li tl hli
    obtain ⟨_, _, _, lk1⟩ := F1.lk
    refine ⟨fd1, a4, fun base sr => ?_⟩
    obtain ⟨fa2, fd2, b1, _, _, _, F2, _, _, _, lk2⟩ := fn_all (P := l.prog) (w := w) (base := base) hT hD hn hi0 hm0 sr htree GO dd li tl hli
    rw [hname] at hmg
    cases hmg.symm.trans a1
    cases hmg.symm.trans b1
    rw [lk1] at lk2
    cases lk2
    exact F2
  obtain ⟨fdata, hbd, hF⟩ := GO2
  refine law_goes (k := 40 + dd) (fd := fdata) (x := "script") (sp := spF K (txOf T K) D dd li) KX G.T.g G.T.b G.T.builtins G.T.nolimit (G.T.seer himp) hg hobj hints (Nat.le_trans hlen (by decide)) hr (fun base sr => ?_) (fun s u => ?_) fun H ro => ?_
  · rw [← hps]
    exact hF base sr
  · have z := hbd s [u] (by rw [hps]; rfl)
    rw [hps] at z
    exact z
  · obtain ⟨S', hS'⟩ := main ns hlen
    have isI : ∀ ms : List Int, RelPs K [] H (ms.map PV.int) (ms.map V.int) := fun ms => by
      induction ms with
      | nil => exact .nil
      | cons m ms ih => exact .cons (.int m) ih
    refine ⟨[], ⟨[], false⟩, [.lst (ns.map .int)], ⟨rfl, (fun k c b q e => by cases q), (fun j k b c e e1 e2 q1 q2 n1 n2 => by cases q1), Nat.le_refl _⟩, .cons (.lst ro (isI ns)) .nil, ?_⟩
    rw [hS']
    intro ρ' H' v g so r
    exact r.of_bl
end MP
end
section
set_option Elab.async false
set_option linter.all false
set_option maxRecDepth 100000
/-! MPTool: how MP's runs are computed; sizes of numbers; lowest terms. -/
namespace MP
theorem callN_of {F : List FDef} {d i : Nat} {fd : FDef} {args : List PV} {S : Sto} (h : F[i]? = some fd) (hl : args.length = fd.np) : callN F (d + 1) i args S = runF (callN F d) fd args S := by
  rw [callN, h]
  exact if_pos hl
theorem fin_pure {S : Sto} {v : PV} {cs : List Cell} (h : v.pure = true) : fin S v ⟨cs, false⟩ = .ok v ⟨cs.take S.cells.length, S.dirty⟩ := by
  unfold fin
  rw [h]
  rfl
theorem fin_same {S : Sto} {v : PV} (h : v.pure = true) : fin S v ⟨S.cells, false⟩ = .ok v S := by
  rw [fin_pure h, List.take_length]
theorem fin_ref {S : Sto} {k : Nat} {cs : List Cell} : fin S (.ref k) ⟨cs, false⟩ = .ok (.ref k) ⟨cs, S.dirty⟩ := by
  unfold fin
  show R.ok _ (⟨cs, S.dirty || false⟩ : Sto) = _
  rw [Bool.or_false]
section
variable {α β : Type} {C : Nat → List PV → Sto → R PV} {b : Nat}
theorem bd_ok {a : α} {S : Sto} {f : α → Sto → R β} : (R.ok a S).bd f = f a S := by simp only [R.bd]
theorem bd_exc {c : Nat} {as : List PV} {S : Sto} {f : α → Sto → R β} : (R.exc c as S).bd f = .exc c as S := by simp only [R.bd]
theorem st_ok {a : α} {S : Sto} {σ : Env} {f : α → Sto → RS} : (R.ok a S).st σ f = f a S := by simp only [R.st]
theorem st_exc {c : Nat} {as : List PV} {S : Sto} {σ : Env} {f : α → Sto → RS} : (R.exc c as S).st σ f = .exc c as σ S := by simp only [R.st]
theorem xss_cons {s : St} {ss : Ss} {σ : Env} {S : Sto} : xss C b (.cons s ss) σ S = (xst C b s σ S).seq (xss C b ss) := by
  rw [xss]
  unfold RS.seq
  cases xst C b s σ S <;> rfl
theorem xss_nil {σ : Env} {S : Sto} : xss C b .nil σ S = .next σ S := by rw [xss]
theorem seq_next {σ : Env} {S : Sto} {f : Env → Sto → RS} : (RS.next σ S).seq f = f σ S := by simp only [RS.seq]
theorem seq_ret {v : PV} {S : Sto} {f : Env → Sto → RS} : (RS.ret v S).seq f = .ret v S := by simp only [RS.seq]
theorem seq_brk {σ : Env} {S : Sto} {f : Env → Sto → RS} : (RS.brk σ S).seq f = .brk σ S := by simp only [RS.seq]
theorem seq_cont {σ : Env} {S : Sto} {f : Env → Sto → RS} : (RS.cont σ S).seq f = .cont σ S := by simp only [RS.seq]
theorem seq_exc {c : Nat} {as : List PV} {σ : Env} {S : Sto} {f : Env → Sto → RS} : (RS.exc c as σ S).seq f = .exc c as σ S := by simp only [RS.seq]
theorem eqV_int {S : Sto} {i j : Int} : eqV S (.int i) (.int j) = some (decide (i = j)) := by
  unfold eqV
  simp only [toDS, PV.toD]
  have z : ∀ i : Int, shaped (.int i) = true := fun _ => rfl
  rw [z, z]
  show some ((PySem.PyData.int i).eqv (.int j)) = _
  congr 1
theorem eqV_pr {S : Sto} {i j k l : Int} : eqV S (.tup [.int i, .int j]) (.tup [.int k, .int l]) = some (decide (i = k) && decide (j = l)) := by
  unfold eqV
  simp only [toDS, PV.toD, PV.toDs, Option.map]
  have z : ∀ i j : Int, shaped (.tuple [.int i, .int j]) = true := fun _ _ => rfl
  rw [z, z]
  show some ((PySem.PyData.tuple [.int i, .int j]).eqv (.tuple [.int k, .int l])) = _
  congr 1
  rw [PySem.PyData.eqv, PySem.PyData.eqvAll, PySem.PyData.eqvAll, PySem.PyData.eqvAll]
  simp [PySem.PyData.eqv]
  rfl
/-- a for that never stops early keeps what each turn keeps -/
theorem for_inv {g : Sto → Bool} {bind : PV → Env → Option Env} {body : Env → Sto → RS} {P : Nat → Env → Sto → Prop} (hg : ∀ i σ S, P i σ S → g S = true) : ∀ (xs : List PV) (i : Nat) (σ : Env) (S : Sto), P i σ S →
    (∀ j x σ S, xs[j]? = some x → P (i + j) σ S → ∃ σ1 σ2 S2, bind x σ = some σ1 ∧ body σ1 S = .next σ2 S2 ∧ P (i + j + 1) σ2 S2) → ∃ σ' S', forLoop g bind body xs σ S = .next σ' S' ∧ P (i + xs.length) σ' S'
  | [], i, σ, S, h, _ => ⟨σ, S, by unfold forLoop; rw [if_pos (hg _ _ _ h)], h⟩
  | x :: xs, i, σ, S, h, st => by
    obtain ⟨σ1, σ2, S2, e1, e2, h2⟩ := st 0 x σ S rfl h
    obtain ⟨σ', S', e3, h3⟩ := for_inv hg xs (i + 1) σ2 S2 h2 fun j y σ S hj hP => by
      have e : i + 1 + j = i + (j + 1) := by omega
      rw [e] at hP ⊢
      exact st (j + 1) y σ S hj hP
    refine ⟨σ', S', ?_, ?_⟩
    · unfold forLoop
      rw [if_pos (hg _ _ _ h), e1]
      show (match body σ1 S with
        | .next σ2 S2 => forLoop g bind body xs σ2 S2
        | .cont σ2 S2 => forLoop g bind body xs σ2 S2
        | .brk σ2 S2 => .next σ2 S2
        | r => r) = _
      rw [e2]
      exact e3
    · have e : i + (x :: xs).length = i + 1 + xs.length := by rw [List.length_cons]; omega
      rw [e]
      exact h3
theorem evi_rng1 {e : E} {σ : Env} {S S1 : Sto} {n : Int} (h : ev C b e σ S = .ok (.int n) S1) (hs : small n = true) : evi C b (.rng1 e) σ S = .ok (rngL 0 n.toNat, []) S1 := by
  rw [evi, h]
  show (if small n = true then R.ok (rngL 0 n.toNat, []) S1 else .bad) = _
  rw [if_pos hs]
theorem xst_for {t : Tg} {it : It} {p : Ss} {σ : Env} {S S1 : Sto} {w : Walk} (h : evi C b it σ S = .ok w S1) : xst C b (.fors t it p) σ S = forLoop (fun S => stands S w.2) (bindT t) (xss C b p) w.1 σ S1 := by
  rw [xst, h]
  rfl
theorem xss_step {s : St} {ss : Ss} {σ σ' : Env} {S S' : Sto} (h : xst C b s σ S = .next σ' S') : xss C b (.cons s ss) σ S = xss C b ss σ' S' := by
  rw [xss_cons, h]
  rfl
theorem xss_ret {s : St} {ss : Ss} {σ σ' : Env} {S S' : Sto} {v : PV} (h : xst C b s σ S = .next σ' S') (g : ∃ S2, xss C b ss σ' S' = .ret v S2) : ∃ S2, xss C b (.cons s ss) σ S = .ret v S2 := by
  rw [xss_step h]
  exact g
theorem xss_same {s : St} {ss : Ss} {σ : Env} {S : Sto} {v : PV} (h : xst C b s σ S = .next σ S) (g : ∃ S2, xss C b ss σ S = .ret v S2) : ∃ S2, xss C b (.cons s ss) σ S = .ret v S2 := xss_ret h g
/-- a for over a range that keeps what each turn keeps -/
theorem for_rng {t : Tg} {e : E} {p : Ss} {σ : Env} {S : Sto} {n : Nat} {P : Nat → Env → Sto → Prop} (h : ev C b e σ S = .ok (.int n) S) (hn : n < 1000000) (h0 : P 0 σ S)
    (st : ∀ j σ S, j < n → P j σ S → ∃ σ1 σ2 S2, bindT t (.int j) σ = some σ1 ∧ xss C b p σ1 S = .next σ2 S2 ∧ P (j + 1) σ2 S2) : ∃ σ' S', xst C b (.fors t (.rng1 e) p) σ S = .next σ' S' ∧ P n σ' S' := by
  have sm : small (n : Int) = true := by
    unfold small
    have h1 : -(2 ^ 62 : Int) ≤ n := by omega
    have h2 : (n : Int) < 2 ^ 62 := by omega
    simp only [h1, h2, decide_true, Bool.and_self]
  obtain ⟨σ', S', e1, h1⟩ := for_inv (g := fun S => stands S []) (bind := bindT t) (body := xss C b p) (fun _ _ _ _ => rfl) (rngL 0 n) 0 σ S h0 fun j x σ S hj hP => by
    have z : x = .int (0 + (j : Int)) ∧ j < n := by
      unfold rngL at hj
      rw [List.getElem?_map] at hj
      by_cases q : j < n
      · rw [List.getElem?_range q] at hj
        exact ⟨(Option.some.inj hj).symm, q⟩
      · rw [List.getElem?_eq_none (by simpa using q)] at hj
        cases hj
    rw [Int.zero_add] at z
    obtain ⟨rfl, hj2⟩ := z
    rw [Nat.zero_add] at hP ⊢
    exact st j σ S hj2 hP
  refine ⟨σ', S', ?_, ?_⟩
  · rw [xst_for (evi_rng1 h sm)]
    exact e1
  · have z : 0 + (rngL 0 n).length = n := by simp [rngL]
    rw [z] at h1
    exact h1
theorem rngL_len {a : Int} {n : Nat} : (rngL a n).length = n := by simp [rngL]
theorem rngL_get {a : Int} {n j : Nat} {x : PV} (h : (rngL a n)[j]? = some x) : x = .int (a + j) ∧ j < n := by
  unfold rngL at h
  rw [List.getElem?_map] at h
  by_cases hj : j < n
  · rw [List.getElem?_range hj] at h
    exact ⟨(Option.some.inj h).symm, hj⟩
  · rw [List.getElem?_eq_none (by simpa using hj)] at h
    cases h
/-- a def that leaves the store alone -/
theorem run_ret {fd : FDef} {args : List PV} {S : Sto} {v : PV} (h : xss C S.cells.length fd.body (args.map some ++ List.replicate (fd.nn - fd.np) none) ⟨S.cells, false⟩ = .ret v ⟨S.cells, false⟩) (p : v.pure = true) : runF C fd args S = .ok v S := by
  unfold runF
  rw [h]
  exact fin_same p
theorem run_retT {fd : FDef} {args : List PV} {S : Sto} {v : PV} {cs : List Cell} (h : xss C S.cells.length fd.body (args.map some ++ List.replicate (fd.nn - fd.np) none) ⟨S.cells, false⟩ = .ret v ⟨cs, false⟩) (p : v.pure = true) : runF C fd args S = .ok v ⟨cs.take S.cells.length, S.dirty⟩ := by
  unfold runF
  rw [h]
  exact fin_pure p
theorem run_main {fd : FDef} {args : List PV} {S S' : Sto} {v : PV} (h : xss C S.cells.length fd.body (args.map some ++ List.replicate (fd.nn - fd.np) none) ⟨S.cells, false⟩ = .ret v S') : ∃ S', runF C fd args S = .ok v S' := by
  unfold runF
  rw [h]
  show ∃ S'', fin S v S' = _
  unfold fin
  split
  · exact ⟨_, rfl⟩
  · exact ⟨_, rfl⟩
theorem run_exc {fd : FDef} {args : List PV} {S : Sto} {c : Nat} {as : List PV} {σ : Env} (h : xss C S.cells.length fd.body (args.map some ++ List.replicate (fd.nn - fd.np) none) ⟨S.cells, false⟩ = .exc c as σ ⟨S.cells, false⟩) (p : PV.pures as = true) : runF C fd args S = .exc c as S := by
  unfold runF
  rw [h]
  show (if (PV.pures as && !false) = true then R.exc c as ⟨S.cells.take S.cells.length, S.dirty⟩ else .bad) = _
  rw [p, List.take_length]
  rfl
end
/-! ### sizes -/
def sz (k : Nat) (a : Int) : Prop := a.natAbs < 2 ^ k
theorem sz.mono {j k : Nat} {a : Int} (h : sz j a) (l : j ≤ k) : sz k a := Nat.lt_of_lt_of_le h (Nat.pow_le_pow_right (by decide) l)
theorem sz.neg {k : Nat} {a : Int} (h : sz k a) : sz k (-a) := by unfold sz; rw [Int.natAbs_neg]; exact h
theorem sz.mul {j k : Nat} {a b : Int} (h : sz j a) (h' : sz k b) : sz (j + k) (a * b) := by
  unfold sz at *
  rw [Int.natAbs_mul, Nat.pow_add]
  exact Nat.mul_lt_mul'' h h'
theorem sz.add {k : Nat} {a b : Int} (h : sz k a) (h' : sz k b) : sz (k + 1) (a + b) := by
  unfold sz at *
  have z := Int.natAbs_add_le a b
  rw [Nat.pow_succ]
  omega
theorem sz.sub {k : Nat} {a b : Int} (h : sz k a) (h' : sz k b) : sz (k + 1) (a - b) := by
  rw [Int.sub_eq_add_neg]
  exact h.add h'.neg
theorem sz.fdiv {k : Nat} {a b : Int} (h : sz k a) : sz k (a.fdiv b) ∨ b = 0 := by
  by_cases hb : b = 0
  · exact .inr hb
  left
  unfold sz at *
  rcases Int.lt_or_gt_of_ne hb with hb | hb
  · have : (a.fdiv b).natAbs ≤ a.natAbs := by
      rw [← Int.neg_fdiv_neg, Int.fdiv_eq_ediv_of_nonneg _ (by omega)]
      have z := Int.natAbs_ediv_le_natAbs (-a) (-b)
      rw [Int.natAbs_neg] at z
      exact z
    omega
  · have : (a.fdiv b).natAbs ≤ a.natAbs := by
      rw [Int.fdiv_eq_ediv_of_nonneg _ (by omega)]
      exact Int.natAbs_ediv_le_natAbs a b
    omega
theorem sz.log {k : Nat} {a : Int} (h : sz k a) : a.natAbs.log2 ≤ k := by
  by_cases h0 : a.natAbs = 0
  · rw [h0]; exact Nat.zero_le k
  · exact Nat.le_of_lt ((Nat.log2_lt h0).mpr h)
theorem mulOk_of {j k : Nat} {a b : Int} (h : sz j a) (h' : sz k b) (l : j + k + 2 ≤ 134217728) : mulOk a b = true := by
  have h1 := h.log
  have h2 := h'.log
  have : a.natAbs.log2 + b.natAbs.log2 + 2 ≤ 134217728 := by omega
  simp [mulOk, this]
theorem mulOk_l {a b : Int} (h : sz 64 a) : mulOk a b = true := by
  have h : a.natAbs < 2 ^ 64 := h
  unfold mulOk
  rw [decide_eq_true h]
  rfl
theorem mulOk_r {a b : Int} (h : sz 64 b) : mulOk a b = true := by
  have h : b.natAbs < 2 ^ 64 := h
  unfold mulOk
  rw [decide_eq_true h, Bool.or_true]
  rfl
theorem divOk_of {b : Int} (h0 : b ≠ 0) : divOk b = true := by simp [divOk, h0]
/-- some size -/
theorem sz_any (a : Int) : sz a.natAbs a := Nat.lt_two_pow_self
/-! ### lowest terms -/
def mkG (t b : Int) : Int := ((Nat.gcd t.natAbs b.natAbs : Nat) : Int)
def mkT (t b : Int) : Int := (if b < 0 then -t else t).fdiv (mkG t b)
def mkB (t b : Int) : Int := (if b < 0 then -b else b).fdiv (mkG t b)
theorem mkG_pos {t b : Int} (h : b ≠ 0) : 0 < mkG t b := by
  unfold mkG
  have : 0 < Nat.gcd t.natAbs b.natAbs := Nat.gcd_pos_of_pos_right _ (by omega)
  omega
theorem mkG_dl (t b : Int) : mkG t b ∣ t := by
  unfold mkG
  exact Int.ofNat_dvd_left.mpr (Nat.gcd_dvd_left _ _)
theorem mkG_dr (t b : Int) : mkG t b ∣ b := by
  unfold mkG
  exact Int.ofNat_dvd_left.mpr (Nat.gcd_dvd_right _ _)
/-- what make promises -/
theorem mk_ok {t b : Int} (h : b ≠ 0) : ∃ s : Int, s ≠ 0 ∧ t = mkT t b * s ∧ b = mkB t b * s ∧ 0 < mkB t b ∧ Nat.gcd (mkT t b).natAbs (mkB t b).natAbs = 1 ∧ s.natAbs = Nat.gcd t.natAbs b.natAbs := by
  have gp := mkG_pos (t := t) h
  obtain ⟨x, hx⟩ := mkG_dl t b
  obtain ⟨y, hy⟩ := mkG_dr t b
  have gn : mkG t b ≠ 0 := by omega
  have co : Nat.gcd x.natAbs y.natAbs = 1 := by
    have e : Nat.gcd t.natAbs b.natAbs = (mkG t b).natAbs * Nat.gcd x.natAbs y.natAbs := by
      rw [← Nat.gcd_mul_left, ← Int.natAbs_mul, ← Int.natAbs_mul, ← hx, ← hy]
    have e2 : (mkG t b).natAbs = Nat.gcd t.natAbs b.natAbs := by unfold mkG; rfl
    rw [e2] at e
    have p : 0 < Nat.gcd t.natAbs b.natAbs := Nat.gcd_pos_of_pos_right _ (by omega)
    exact Nat.eq_of_mul_eq_mul_left p (by omega)
  have sg : (mkG t b).natAbs = Nat.gcd t.natAbs b.natAbs := by unfold mkG; rfl
  by_cases hb : b < 0
  · have et : mkT t b = -x := by
      unfold mkT
      rw [if_pos hb]
      refine Int.fdiv_eq_of_eq_mul_left gn ?_
      rw [Int.neg_mul, Int.mul_comm x, ← hx]
    have eb : mkB t b = -y := by
      unfold mkB
      rw [if_pos hb]
      refine Int.fdiv_eq_of_eq_mul_left gn ?_
      rw [Int.neg_mul, Int.mul_comm y, ← hy]
    refine ⟨-mkG t b, by omega, ?_, ?_, ?_, ?_, ?_⟩
    · rw [et, Int.neg_mul_neg, Int.mul_comm x]; exact hx
    · rw [eb, Int.neg_mul_neg, Int.mul_comm y]; exact hy
    · rw [eb]
      have : y < 0 := by
        rcases Int.lt_or_le y 0 with q | q
        · exact q
        · have : 0 ≤ mkG t b * y := Int.mul_nonneg (by omega) q
          omega
      omega
    · rw [et, eb, Int.natAbs_neg, Int.natAbs_neg]; exact co
    · rw [Int.natAbs_neg]; exact sg
  · have et : mkT t b = x := by
      unfold mkT
      rw [if_neg hb]
      refine Int.fdiv_eq_of_eq_mul_left gn ?_
      rw [Int.mul_comm x, ← hx]
    have eb : mkB t b = y := by
      unfold mkB
      rw [if_neg hb]
      refine Int.fdiv_eq_of_eq_mul_left gn ?_
      rw [Int.mul_comm y, ← hy]
    refine ⟨mkG t b, by omega, ?_, ?_, ?_, ?_, ?_⟩
    · rw [et, Int.mul_comm x]; exact hx
    · rw [eb, Int.mul_comm y]; exact hy
    · rw [eb]
      have : 0 < y := by
        rcases Int.lt_or_le 0 y with q | q
        · exact q
        · have : mkG t b * y ≤ 0 := Int.mul_nonpos_of_nonneg_of_nonpos (by omega) q
          omega
      exact this
    · rw [et, eb]; exact co
    · exact sg
theorem mkT_sz {k : Nat} {t b : Int} (h : sz k t) (hb : b ≠ 0) : sz k (mkT t b) := by
  have gp := mkG_pos (t := t) hb
  unfold mkT
  split
  · exact h.neg.fdiv.resolve_right (by omega)
  · exact h.fdiv.resolve_right (by omega)
theorem mkB_sz {k : Nat} {t b : Int} (h : sz k b) (hb : b ≠ 0) : sz k (mkB t b) := by
  have gp := mkG_pos (t := t) hb
  unfold mkB
  split
  · exact h.neg.fdiv.resolve_right (by omega)
  · exact h.fdiv.resolve_right (by omega)
theorem mkB_pos {t b : Int} (hb : b ≠ 0) : 0 < mkB t b := (mk_ok hb).choose_spec.2.2.2.1
theorem mk_cross {t b : Int} (hb : b ≠ 0) : mkT t b * b = t * mkB t b := by
  obtain ⟨s, _, e1, e2, _⟩ := mk_ok (t := t) hb
  have z : mkT t b * (mkB t b * s) = (mkT t b * s) * mkB t b := by
    rw [← Int.mul_assoc, Int.mul_assoc, Int.mul_comm (mkB t b) s, ← Int.mul_assoc]
  rw [← e1, ← e2] at z
  exact z
theorem mk_gcd {t b : Int} (hb : b ≠ 0) : Nat.gcd (mkT t b).natAbs (mkB t b).natAbs = 1 := (mk_ok hb).choose_spec.2.2.2.2.1
/-- what is in lowest terms is told by its ratio -/
theorem mk_cross2 {t b T B : Int} (hb : b ≠ 0) (h : t * B = T * b) : mkT t b * B = T * mkB t b := by
  have c := mk_cross (t := t) hb
  have e : b * (mkT t b * B) = b * (T * mkB t b) := by
    calc b * (mkT t b * B) = (mkT t b * b) * B := by rw [← Int.mul_assoc, Int.mul_comm b]
      _ = t * mkB t b * B := by rw [c]
      _ = (t * B) * mkB t b := by rw [Int.mul_assoc, Int.mul_comm (mkB t b), ← Int.mul_assoc]
      _ = T * b * mkB t b := by rw [h]
      _ = b * (T * mkB t b) := by rw [Int.mul_comm T, Int.mul_assoc]
  exact Int.eq_of_mul_eq_mul_left hb e
/-- v is the ratio T to B in lowest terms -/
abbrev pr (t b : Int) : PV := .tup [.int t, .int b]
def Q (v : PV) (T B : Int) (k : Nat) : Prop := ∃ t b, v = pr t b ∧ 0 < b ∧ Nat.gcd t.natAbs b.natAbs = 1 ∧ t * B = T * b ∧ sz k t ∧ sz k b
theorem Q.mk {t b T B : Int} {k : Nat} (hb : b ≠ 0) (h : t * B = T * b) (ht : sz k t) (hz : sz k b) : Q (pr (mkT t b) (mkB t b)) T B k :=
  ⟨_, _, rfl, mkB_pos hb, mk_gcd hb, mk_cross2 hb h, mkT_sz ht hb, mkB_sz hz hb⟩
theorem sz.pow {k : Nat} {t : Int} (h : sz k t) : ∀ n : Nat, sz (1 + k * n) (t ^ n)
  | 0 => by rw [Nat.mul_zero, Int.pow_zero]; unfold sz; decide
  | n + 1 => by
    have z := (sz.pow h n).mul h
    rw [Int.pow_succ, Nat.mul_succ, ← Nat.add_assoc]
    exact z
theorem same_terms {a b c d : Int} (hb : 0 < b) (hd : 0 < d) (g1 : Nat.gcd a.natAbs b.natAbs = 1) (g2 : Nat.gcd c.natAbs d.natAbs = 1) (h : a * d = c * b) : a = c ∧ b = d := by
  have hn : a.natAbs * d.natAbs = c.natAbs * b.natAbs := by rw [← Int.natAbs_mul, ← Int.natAbs_mul, h]
  have d1 : b.natAbs ∣ d.natAbs := by
    have z : b.natAbs ∣ a.natAbs * d.natAbs := hn ▸ Nat.dvd_mul_left _ _
    exact (Nat.Coprime.symm g1).dvd_of_dvd_mul_left z
  have d2 : d.natAbs ∣ b.natAbs := by
    have z : d.natAbs ∣ c.natAbs * b.natAbs := hn ▸ Nat.dvd_mul_left _ _
    exact (Nat.Coprime.symm g2).dvd_of_dvd_mul_left z
  have e : b.natAbs = d.natAbs := Nat.dvd_antisymm d1 d2
  have e2 : b = d := by omega
  subst e2
  exact ⟨Int.eq_of_mul_eq_mul_right (by omega) h, rfl⟩
/-! ### Euclid's steps -/
def fibP : Nat → Nat × Nat
  | 0 => (0, 1)
  | n + 1 => ((fibP n).2, (fibP n).1 + (fibP n).2)
/-- one turn: over at 0 -/
def euc : Nat → Nat → Nat → Option (Nat × Nat)
  | 0, a, b => if b = 0 then some (a, b) else none
  | n + 1, a, b => if b = 0 then some (a, b) else euc n b (a % b)
theorem euc_fib : ∀ (n a b : Nat), b < a → euc n a b = none → (fibP (n + 1)).1 ≤ b ∧ (fibP (n + 2)).1 ≤ a
  | 0, a, b, h, e => by
    unfold euc at e
    split at e
    · cases e
    · rename_i hb
      refine ⟨?_, ?_⟩ <;> simp [fibP] <;> omega
  | n + 1, a, b, h, e => by
    unfold euc at e
    split at e
    · cases e
    · rename_i hb
      obtain ⟨h1, h2⟩ := euc_fib n b (a % b) (Nat.mod_lt _ (by omega)) e
      refine ⟨h2, ?_⟩
      have q : b + a % b ≤ a := by
        have z := Nat.div_add_mod a b
        have w : 1 ≤ a / b := (Nat.one_le_div_iff (by omega)).mpr (by omega)
        have w2 : b * 1 ≤ b * (a / b) := Nat.mul_le_mul_left b w
        omega
      have f : (fibP (n + 3)).1 = (fibP (n + 1)).1 + (fibP (n + 2)).1 := rfl
      show (fibP (n + 3)).1 ≤ a
      omega
theorem euc_gcd : ∀ (n a b : Nat) (r : Nat × Nat), euc n a b = some r → r = (Nat.gcd a b, 0)
  | 0, a, b, r, e => by
    unfold euc at e
    split at e
    · rename_i h; subst h; cases e; simp
    · cases e
  | n + 1, a, b, r, e => by
    unfold euc at e
    split at e
    · rename_i h; subst h; cases e; simp
    · rename_i h
      rw [euc_gcd n b (a % b) r e, Nat.gcd_comm b (a % b), ← Nat.gcd_rec, Nat.gcd_comm]
theorem euc_of {n a b : Nat} (h : b < (fibP (n + 2)).1) : euc (n + 1) a b = some (Nat.gcd a b, 0) := by
  cases e : euc (n + 1) a b with
  | some r => rw [euc_gcd _ _ _ _ e]
  | none =>
    unfold euc at e
    split at e
    · cases e
    · rename_i hb
      obtain ⟨_, h2⟩ := euc_fib n b (a % b) (Nat.mod_lt _ (by omega)) e
      omega
/-- the law's own Euclid: slots 3 and 4 -/
theorem euc_loop {bind : PV → Env → Option Env} {body : Env → Sto → RS} {g : Sto → Bool} {S : Sto} {mk : Nat → Nat → Option PV → Env} (hg : g S = true) (hb : ∀ x a b k, ∃ k', bind x (mk a b k) = some (mk a b k')) (h0 : ∀ a k, body (mk a 0 k) S = .brk (mk a 0 k) S) (h1 : ∀ a b k, b ≠ 0 → body (mk a b k) S = .next (mk b (a % b) k) S) :
    ∀ (xs : List PV) (a b : Nat) (k : Option PV) (r : Nat × Nat), euc xs.length a b = some r → ∃ k', forLoop g bind body xs (mk a b k) S = .next (mk r.1 r.2 k') S
  | [], a, b, k, r, e => by
    unfold forLoop
    rw [if_pos hg]
    change euc 0 a b = some r at e
    unfold euc at e
    split at e
    · cases e; exact ⟨k, rfl⟩
    · cases e
  | x :: xs, a, b, k, r, e => by
    unfold forLoop
    rw [if_pos hg]
    obtain ⟨k', e1⟩ := hb x a b k
    rw [e1]
    change euc (xs.length + 1) a b = some r at e
    unfold euc at e
    split at e
    · rename_i hb0
      subst hb0
      cases e
      refine ⟨k', ?_⟩
      show (match body (mk a 0 k') S with
        | .next σ2 S2 => forLoop g bind body xs σ2 S2
        | .cont σ2 S2 => forLoop g bind body xs σ2 S2
        | .brk σ2 S2 => .next σ2 S2
        | r => r) = _
      rw [h0]
    · rename_i hb0
      obtain ⟨k2, e2⟩ := euc_loop hg hb h0 h1 xs b (a % b) k' r e
      refine ⟨k2, ?_⟩
      show (match body (mk a b k') S with
        | .next σ2 S2 => forLoop g bind body xs σ2 S2
        | .cont σ2 S2 => forLoop g bind body xs σ2 S2
        | .brk σ2 S2 => .next σ2 S2
        | r => r) = _
      rw [h1 _ _ _ hb0]
      exact e2
theorem fib701 : 2 ^ 480 ≤ (fibP 701).1 := by decide +kernel
/-! ### the law's draws -/
/-- the store with the draws' state -/
def G (ns : List Int) (a i c : Int) (tl : List Cell) : Sto := ⟨.lst [.int a, .lst (ns.map .int), .int i, .int c] :: tl, false⟩
/-! ### comprehensions -/
section
variable {C : Nat → List PV → Sto → R PV} {b : Nat}
theorem evc_none {σ : Env} {S : Sto} : evc C b .none σ S = .ok true S := by rw [evc]
theorem evc_some {e : E} {σ : Env} {S : Sto} : evc C b (.some e) σ S = evT C b e σ S := by rw [evc]
/-- a comprehension whose parts leave the store alone -/
theorem lcLoop_map {g : Sto → Bool} {bind : PV → Option Env} {test : Env → Sto → R Bool} {elt : Env → Sto → R PV} {S : Sto} (hg : g S = true) {α : Type} (f : α → PV) (h : α → PV) : ∀ (xs : List α) (acc : List PV), acc.length + xs.length ≤ lenMax → (∀ x ∈ xs, ∃ σ, bind (f x) = some σ ∧ test σ S = .ok true S ∧ elt σ S = .ok (h x) S) →
    lcLoop g bind test elt (xs.map f) acc S = .ok (acc ++ xs.map h) S
  | [], acc, _, _ => by simp only [List.map_nil]; unfold lcLoop; rw [if_pos hg, List.append_nil]
  | x :: xs, acc, hl, hx => by
    obtain ⟨σ, h1, h2, h3⟩ := hx x List.mem_cons_self
    have l1 : acc.length < lenMax := by simp only [List.length_cons] at hl; omega
    rw [List.map_cons]
    unfold lcLoop
    rw [if_pos hg]
    simp only [h1, h2, bd_ok, h3, if_pos l1]
    rw [lcLoop_map hg f h xs (acc ++ [h x]) (by rw [List.length_append]; simp only [List.length_cons, List.length_nil] at hl ⊢; omega) fun y hy => hx y (List.mem_cons_of_mem _ hy)]
    rw [List.append_assoc]
    rfl
theorem noExc_ok {α : Type} {a : α} {S : Sto} : noExc (.ok a S) = .ok a S := rfl
theorem ev_lc {t : Tg} {own : List Nat} {it : It} {c : Eo} {e : E} {σ : Env} {S S1 S2 : Sto} {w : Walk} {ys : List PV} (h : evi C b it σ S = .ok w S1) (h2 : lcLoop (fun S => stands S w.2) (fun x => bindT t x (wipe σ own)) (evc C b c) (ev C b e) w.1 [] S1 = .ok ys S2) :
    ev C b (.lc t own it c e) σ S = .ok (.lst ys) S2 := by
  rw [ev, h]
  simp only [bd_ok, h2, noExc_ok]
end
end MP
end
section
set_option Elab.async false
set_option linter.all false
set_option maxRecDepth 100000
/-! MPRat: pairs in lowest terms are Lean's rational numbers. -/
namespace MP
/-- the value of a number in lowest terms -/
def fr (q : Rat) : PV := pr q.num q.den
theorem fr_zero : PV.tup [.int 0, .int 1] = fr 0 := rfl
theorem fr_one : PV.tup [.int 1, .int 1] = fr 1 := rfl
theorem fr_pure (q : Rat) : (fr q).pure = true := rfl
def szq (k : Nat) (q : Rat) : Prop := sz k q.num ∧ sz k q.den
theorem szq.mono {j k : Nat} {a : Rat} (h : szq j a) (l : j ≤ k) : szq k a := ⟨h.1.mono l, h.2.mono l⟩
theorem den_ne (q : Rat) : (q.den : Int) ≠ 0 := by have := q.den_pos; omega
theorem den_gt (q : Rat) : (0 : Int) < q.den := by have := q.den_pos; omega
theorem fr_of {t b : Int} (hb : 0 < b) (g : Nat.gcd t.natAbs b.natAbs = 1) {T B : Int} (hB : B ≠ 0) (h : t * B = T * b) : pr t b = fr (Rat.divInt T B) := by
  have e : (Rat.divInt T B).num * B = T * (Rat.divInt T B).den := by
    have z := Rat.num_divInt_den (Rat.divInt T B)
    exact (Rat.divInt_eq_divInt_iff (den_ne _) hB).mp z
  have x : t * ((Rat.divInt T B).den : Int) = (Rat.divInt T B).num * b := by
    have hbB : B ≠ 0 := hB
    refine Int.eq_of_mul_eq_mul_right hbB ?_
    calc t * ((Rat.divInt T B).den : Int) * B = (t * B) * ((Rat.divInt T B).den : Int) := by ac_rfl
      _ = (T * b) * ((Rat.divInt T B).den : Int) := by rw [h]
      _ = (T * ((Rat.divInt T B).den : Int)) * b := by ac_rfl
      _ = ((Rat.divInt T B).num * B) * b := by rw [e]
      _ = (Rat.divInt T B).num * b * B := by ac_rfl
  obtain ⟨e1, e2⟩ := same_terms hb (den_gt _) g (by have z := (Rat.divInt T B).reduced; exact z) x
  rw [e1, e2]
  rfl
theorem Q.fr {v : PV} {T B : Int} {k : Nat} (q : Q v T B k) (hB : B ≠ 0) : v = MP.fr (Rat.divInt T B) ∧ szq k (Rat.divInt T B) := by
  obtain ⟨t, b, rfl, p, g, e, z1, z2⟩ := q
  have h := fr_of p g hB e
  refine ⟨h, ?_⟩
  have h' : pr t b = MP.fr (Rat.divInt T B) := h
  unfold pr MP.fr pr at h'
  injection h' with h1
  injection h1 with h2 h3
  injection h2 with h2
  injection h3 with h3
  injection h3 with h3
  exact ⟨h2 ▸ z1, h3 ▸ z2⟩
theorem rat_add (a b : Rat) : Rat.divInt (a.num * b.den + b.num * a.den) (a.den * b.den) = a + b := by
  rw [← Rat.divInt_add_divInt _ _ (den_ne a) (den_ne b), Rat.num_divInt_den, Rat.num_divInt_den]
theorem rat_mul (a b : Rat) : Rat.divInt (a.num * b.num) (a.den * b.den) = a * b := by
  rw [← Rat.divInt_mul_divInt, Rat.num_divInt_den, Rat.num_divInt_den]
theorem rat_div (a b : Rat) : Rat.divInt (a.num * b.den) (a.den * b.num) = a / b := by
  rw [← Rat.divInt_mul_divInt, Rat.num_divInt_den, Rat.div_def]
  congr 1
  rw [Rat.divInt_eq_div]
  have z := Rat.num_divInt_den b
  rw [Rat.divInt_eq_div] at z
  have w : b⁻¹ = ((b.num : Rat) / (b.den : Rat))⁻¹ := by
    have z' : (b.num : Rat) / ((b.den : Int) : Rat) = b := z
    rw [Rat.intCast_natCast] at z'
    rw [z']
  rw [w, Rat.intCast_natCast]
  grind
theorem fr_neg (a : Rat) : pr (-a.num) a.den = fr (-a) := by
  unfold fr
  rw [Rat.neg_num, Rat.neg_den]
theorem fr_inj {a b : Rat} : (decide (a.num = b.num) && decide ((a.den : Int) = b.den)) = decide (a = b) := by
  by_cases h : a = b
  · subst h; simp
  · have : ¬ (a.num = b.num ∧ (a.den : Int) = b.den) := fun ⟨h1, h2⟩ => h (Rat.ext h1 (by omega))
    simp only [h, decide_false]
    by_cases h1 : a.num = b.num
    · have h2 : ¬ (a.den : Int) = b.den := fun h2 => this ⟨h1, h2⟩
      simp only [h2, decide_false, Bool.and_false]
    · simp only [h1, decide_false, Bool.false_and]
/-- the order as compare tells it -/
def cq (a b : Rat) : Int := if a < b then -1 else if b < a then 1 else 0
theorem cq_lt {a b : Rat} : cq a b < 0 ↔ a < b := by
  unfold cq
  split
  · simp [*]
  · split <;> simp_all
theorem cq_gt {a b : Rat} : 0 < cq a b ↔ b < a := by
  unfold cq
  split
  · rename_i h
    have : ¬ b < a := by grind
    simp [this]
  · split <;> simp_all
theorem cq_le {a b : Rat} : cq a b ≤ 0 ↔ a ≤ b := by
  have z := cq_gt (a := a) (b := b)
  have y : a ≤ b ↔ ¬ b < a := by grind
  rw [y, ← z]
  omega
/-- least, greatest -/
def mn (a b : Rat) : Rat := if b < a then b else a
def mx (a b : Rat) : Rat := if a < b then b else a
instance : Std.Commutative mn := ⟨fun a b => by unfold mn; grind⟩
instance : Std.Associative mn := ⟨fun a b c => by unfold mn; grind⟩
instance : Std.Commutative mx := ⟨fun a b => by unfold mx; grind⟩
instance : Std.Associative mx := ⟨fun a b c => by unfold mx; grind⟩
theorem mn_self (a : Rat) : mn a a = a := by unfold mn; grind
theorem mx_self (a : Rat) : mx a a = a := by unfold mx; grind
theorem mn_le {a b : Rat} (h : a ≤ b) : mn a b = a := by unfold mn; grind
theorem mx_le {a b : Rat} (h : a ≤ b) : mx a b = b := by unfold mx; grind
theorem mn_ge {a b : Rat} (h : b ≤ a) : mn a b = b := by unfold mn; grind
theorem mx_ge {a b : Rat} (h : b ≤ a) : mx a b = a := by unfold mx; grind
theorem szq.mn {k : Nat} {a b : Rat} (h : szq k a) (h' : szq k b) : szq k (mn a b) := by unfold MP.mn; split <;> assumption
theorem szq.mx {k : Nat} {a b : Rat} (h : szq k a) (h' : szq k b) : szq k (mx a b) := by unfold MP.mx; split <;> assumption
theorem szq.neg {k : Nat} {a : Rat} (h : szq k a) : szq k (-a) := ⟨by rw [Rat.neg_num]; exact h.1.neg, by rw [Rat.neg_den]; exact h.2⟩
/-- an interval's value -/
abbrev iv (l h : Rat) : PV := .tup [fr l, fr h]
theorem eqV_fr {S : Sto} {a b : Rat} : eqV S (fr a) (fr b) = some (decide (a = b)) := by
  unfold fr
  rw [eqV_pr, fr_inj]
theorem eqV_iv {S : Sto} {a b c d : Rat} : eqV S (iv a b) (iv c d) = some (decide (a = c) && decide (b = d)) := by
  rw [← fr_inj, ← fr_inj]
  unfold iv fr eqV
  simp only [toDS, PV.toD, PV.toDs, Option.map]
  have z : ∀ i j k l : Int, shaped (.tuple [.tuple [.int i, .int j], .tuple [.int k, .int l]]) = true := fun _ _ _ _ => rfl
  rw [z, z]
  simp only [Bool.and_self, if_true]
  congr 1
  simp only [PySem.PyData.eqv, PySem.PyData.eqvAll, Bool.and_true]
  rfl
theorem szq.pow {k : Nat} {t : Rat} (h : szq k t) (n : Nat) : szq (1 + k * n) (t ^ n) := by
  rw [Rat.pow_def]
  refine ⟨h.1.pow n, ?_⟩
  show sz _ ((t.den ^ n : Nat) : Int)
  rw [Int.natCast_pow]
  exact h.2.pow n
theorem szq_divInt {k : Nat} {t b : Int} (hb : b ≠ 0) (ht : sz k t) (hz : sz k b) : szq k (Rat.divInt t b) := ((Q.mk (T := t) (B := b) hb rfl ht hz).fr hb).2
theorem szq.add {k : Nat} {a b : Rat} (h : szq k a) (h' : szq k b) : szq (k + k + 1) (a + b) := by
  rw [← rat_add]
  exact szq_divInt (Int.mul_ne_zero (den_ne _) (den_ne _)) ((h.1.mul h'.2).add (h'.1.mul h.2)) ((h.2.mul h'.2).mono (by omega))
theorem szq.sub {k : Nat} {a b : Rat} (h : szq k a) (h' : szq k b) : szq (k + k + 1) (a - b) := by
  rw [Rat.sub_eq_add_neg]
  exact h.add h'.neg
theorem szq.mul {j k : Nat} {a b : Rat} (h : szq j a) (h' : szq k b) : szq (j + k) (a * b) := by
  rw [← rat_mul]
  exact szq_divInt (Int.mul_ne_zero (den_ne _) (den_ne _)) (h.1.mul h'.1) (h.2.mul h'.2)
theorem num_ne {b : Rat} (h : b ≠ 0) : b.num ≠ 0 := fun e => h (Rat.num_eq_zero.mp e)
theorem szq.div {j k : Nat} {a b : Rat} (h : szq j a) (h' : szq k b) (hb : b ≠ 0) : szq (j + k) (a / b) := by
  rw [← rat_div]
  exact szq_divInt (Int.mul_ne_zero (den_ne _) (num_ne hb)) (h.1.mul h'.2) (h.2.mul h'.1)
section
variable {C : Nat → List PV → Sto → R PV}
theorem push_at {S : Sto} {c : Cell} : (S.push c).cells[S.len]? = some c := by unfold Sto.push Sto.len; simp
theorem push_lst {S : Sto} {xs : List PV} : (S.push (.lst xs)).lst? S.len = some xs := by unfold Sto.lst?; rw [push_at]
theorem push_old {S : Sto} {c : Cell} {k : Nat} (h : k < S.len) : (S.push c).cells[k]? = S.cells[k]? := by
  unfold Sto.push
  exact List.getElem?_append_left h
theorem push_len {S : Sto} {c : Cell} : (S.push c).len = S.len + 1 := by unfold Sto.push Sto.len; simp
theorem push_set {S : Sto} {c d : Cell} : (⟨(S.push c).cells.set S.len d, (S.push c).dirty⟩ : Sto) = S.push d := by unfold Sto.push Sto.len; simp
end
theorem fr_mk {t b : Int} (hb : b ≠ 0) : pr (mkT t b) (mkB t b) = fr (Rat.divInt t b) :=
  ((Q.mk (k := max t.natAbs b.natAbs) hb (T := t) (B := b) rfl ((sz_any t).mono (Nat.le_max_left _ _)) ((sz_any b).mono (Nat.le_max_right _ _))).fr hb).1
theorem szq.addA {j k : Nat} {a b : Rat} (h : szq j a) (h' : szq k b) : szq (j + k + 1) (a + b) := by
  rw [← rat_add]
  exact szq_divInt (Int.mul_ne_zero (den_ne _) (den_ne _)) ((h.1.mul h'.2).add ((h'.1.mul h.2).mono (by omega))) ((h.2.mul h'.2).mono (by omega))
theorem szq.subA {j k : Nat} {a b : Rat} (h : szq j a) (h' : szq k b) : szq (j + k + 1) (a - b) := by
  rw [Rat.sub_eq_add_neg]
  exact h.addA h'.neg
theorem rat_same {t s b : Int} (hb : b ≠ 0) : Rat.divInt (t + s) b = Rat.divInt (t * b + s * b) (b * b) := by
  refine (Rat.divInt_eq_divInt_iff hb (Int.mul_ne_zero hb hb)).mpr ?_
  rw [← Int.add_mul, Int.mul_assoc]
theorem rmul_pow (a b : Rat) : ∀ n : Nat, (a * b) ^ n = a ^ n * b ^ n
  | 0 => by rw [Rat.pow_zero, Rat.pow_zero, Rat.pow_zero, Rat.mul_one]
  | n + 1 => by
    rw [Rat.pow_succ, Rat.pow_succ, Rat.pow_succ, rmul_pow a b n]
    grind
end MP
end
section
set_option Elab.async false
set_option linter.all false
set_option maxRecDepth 100000
/-! MPIv: ranges of rational numbers: what the operations on intervals hold. -/
namespace MP
theorem sq_nn (x : Rat) : 0 ≤ x * x := by
  by_cases h : 0 ≤ x
  · exact Rat.mul_nonneg h h
  · have z := Rat.mul_nonneg (show 0 ≤ -x by grind) (show 0 ≤ -x by grind)
    grind
theorem pow_nn {x : Rat} (h : 0 ≤ x) : ∀ n : Nat, 0 ≤ x ^ n
  | 0 => by rw [Rat.pow_zero]; decide
  | n + 1 => by rw [Rat.pow_succ]; exact Rat.mul_nonneg (pow_nn h n) h
theorem even_nn (x : Rat) : ∀ m : Nat, 0 ≤ x ^ (2 * m)
  | 0 => by rw [Nat.mul_zero, Rat.pow_zero]; decide
  | m + 1 => by
    have e : x ^ (2 * (m + 1)) = x ^ (2 * m) * (x * x) := by
      rw [Nat.mul_succ, Rat.pow_succ, Rat.pow_succ]
      grind
    rw [e]
    exact Rat.mul_nonneg (even_nn x m) (sq_nn x)
theorem odd_neg (x : Rat) : ∀ m : Nat, (-x) ^ (2 * m + 1) = -(x ^ (2 * m + 1))
  | 0 => by rw [Nat.mul_zero, Rat.pow_succ, Rat.pow_succ, Rat.pow_zero, Rat.pow_zero]; grind
  | m + 1 => by
    have e : ∀ y : Rat, y ^ (2 * (m + 1) + 1) = y ^ (2 * m + 1) * (y * y) := fun y => by
      rw [Nat.mul_succ, Rat.pow_succ, Rat.pow_succ, Rat.pow_succ]
      grind
    rw [e, e, odd_neg x m]
    grind
theorem pow_mono {a b : Rat} (h : 0 ≤ a) (o : a ≤ b) : ∀ n : Nat, a ^ n ≤ b ^ n
  | 0 => by rw [Rat.pow_zero, Rat.pow_zero]; decide
  | n + 1 => by
    rw [Rat.pow_succ, Rat.pow_succ]
    have z1 := Rat.mul_le_mul_of_nonneg_right (pow_mono h o n) h
    have z2 := Rat.mul_le_mul_of_nonneg_left o (pow_nn (show 0 ≤ b by grind) n)
    grind
theorem odd_mono {a b : Rat} (o : a ≤ b) (m : Nat) : a ^ (2 * m + 1) ≤ b ^ (2 * m + 1) := by
  by_cases h : 0 ≤ a
  · exact pow_mono h o _
  · have na : 0 ≤ (-a) ^ (2 * m + 1) := pow_nn (by grind) _
    rw [odd_neg] at na
    by_cases hb : 0 ≤ b
    · have nb : 0 ≤ b ^ (2 * m + 1) := pow_nn hb _
      grind
    · have z := pow_mono (a := -b) (b := -a) (by grind) (by grind) (2 * m + 1)
      rw [odd_neg, odd_neg] at z
      grind
/-- whether 0 is told of too -/
def zc (a b : Rat) (n : Nat) : Prop := 0 < n ∧ n % 2 = 0 ∧ a ≤ 0 ∧ 0 ≤ b
instance (a b : Rat) (n : Nat) : Decidable (zc a b n) := by unfold zc; exact inferInstance
def rlo (a b : Rat) (n : Nat) : Rat := if zc a b n then mn (mn (a ^ n) (b ^ n)) 0 else mn (a ^ n) (b ^ n)
def rhi (a b : Rat) (n : Nat) : Rat := if zc a b n then mx (mx (a ^ n) (b ^ n)) 0 else mx (a ^ n) (b ^ n)
theorem mul_mono {a b c : Rat} (h : a ≤ b) (hc : 0 ≤ c) : a * c ≤ b * c := Rat.mul_le_mul_of_nonneg_right h hc
theorem mul_anti {a b c : Rat} (h : a ≤ b) (hc : c ≤ 0) : b * c ≤ a * c := by
  have z := Rat.mul_le_mul_of_nonneg_right h (show 0 ≤ -c by grind)
  grind
theorem mn_l (a b : Rat) : mn a b ≤ a := by unfold mn; grind
theorem mn_r (a b : Rat) : mn a b ≤ b := by unfold mn; grind
theorem mx_l (a b : Rat) : a ≤ mx a b := by unfold mx; grind
theorem mx_r (a b : Rat) : b ≤ mx a b := by unfold mx; grind
theorem le_mn {a b c : Rat} (h : c ≤ a) (h' : c ≤ b) : c ≤ mn a b := by unfold mn; grind
theorem mx_le' {a b c : Rat} (h : a ≤ c) (h' : b ≤ c) : mx a b ≤ c := by unfold mx; grind
/-- the product's ends -/
def tlo (a b c e : Rat) : Rat := mn (mn (a * c) (b * c)) (mn (a * e) (b * e))
def thi (a b c e : Rat) : Rat := mx (mx (a * c) (b * c)) (mx (a * e) (b * e))
theorem mul_in1 {a b x y : Rat} (h1 : a ≤ x) (h2 : x ≤ b) : mn (a * y) (b * y) ≤ x * y ∧ x * y ≤ mx (a * y) (b * y) := by
  by_cases h : 0 ≤ y
  · have z1 := mul_mono h1 h
    have z2 := mul_mono h2 h
    have m1 := mn_l (a * y) (b * y)
    have m2 := mx_r (a * y) (b * y)
    constructor <;> grind
  · have h' : y ≤ 0 := by grind
    have z1 := mul_anti h1 h'
    have z2 := mul_anti h2 h'
    have m1 := mn_r (a * y) (b * y)
    have m2 := mx_l (a * y) (b * y)
    constructor <;> grind
theorem mul_in {a b c e x y : Rat} (h1 : a ≤ x) (h2 : x ≤ b) (h3 : c ≤ y) (h4 : y ≤ e) : tlo a b c e ≤ x * y ∧ x * y ≤ thi a b c e := by
  obtain ⟨p1, p2⟩ := mul_in1 (y := y) h1 h2
  obtain ⟨q1, q2⟩ := mul_in1 (y := a) h3 h4
  obtain ⟨r1, r2⟩ := mul_in1 (y := b) h3 h4
  rw [Rat.mul_comm c a, Rat.mul_comm e a, Rat.mul_comm y a] at q1 q2
  rw [Rat.mul_comm c b, Rat.mul_comm e b, Rat.mul_comm y b] at r1 r2
  have e1 : tlo a b c e = mn (mn (a * c) (a * e)) (mn (b * c) (b * e)) := by unfold tlo; ac_rfl
  have e2 : thi a b c e = mx (mx (a * c) (a * e)) (mx (b * c) (b * e)) := by unfold thi; ac_rfl
  rw [e1, e2]
  constructor
  · have l1 := mn_l (mn (a * c) (a * e)) (mn (b * c) (b * e))
    have l2 := mn_r (mn (a * c) (a * e)) (mn (b * c) (b * e))
    have : mn (mn (a * c) (a * e)) (mn (b * c) (b * e)) ≤ mn (a * y) (b * y) := le_mn (by grind) (by grind)
    grind
  · have l1 := mx_l (mx (a * c) (a * e)) (mx (b * c) (b * e))
    have l2 := mx_r (mx (a * c) (a * e)) (mx (b * c) (b * e))
    have : mx (a * y) (b * y) ≤ mx (mx (a * c) (a * e)) (mx (b * c) (b * e)) := mx_le' (by grind) (by grind)
    grind
/-- what holds at the corners holds of the ends -/
theorem tlo_ge {a b c e l : Rat} (h1 : l ≤ a * c) (h2 : l ≤ b * c) (h3 : l ≤ a * e) (h4 : l ≤ b * e) : l ≤ tlo a b c e := le_mn (le_mn h1 h2) (le_mn h3 h4)
theorem thi_le {a b c e l : Rat} (h1 : a * c ≤ l) (h2 : b * c ≤ l) (h3 : a * e ≤ l) (h4 : b * e ≤ l) : thi a b c e ≤ l := mx_le' (mx_le' h1 h2) (mx_le' h3 h4)
theorem tlo_thi (a b c e : Rat) : tlo a b c e ≤ thi a b c e := by
  have h1 : tlo a b c e ≤ a * c := by unfold tlo; have := mn_l (mn (a * c) (b * c)) (mn (a * e) (b * e)); have := mn_l (a * c) (b * c); grind
  have h2 : a * c ≤ thi a b c e := by unfold thi; have := mx_l (mx (a * c) (b * c)) (mx (a * e) (b * e)); have := mx_l (a * c) (b * c); grind
  grind
theorem mul_sub {a b c e a' b' c' e' : Rat} (h1 : a ≤ a') (o : a' ≤ b') (h2 : b' ≤ b) (h3 : c ≤ c') (o' : c' ≤ e') (h4 : e' ≤ e) : tlo a b c e ≤ tlo a' b' c' e' ∧ thi a' b' c' e' ≤ thi a b c e := by
  have p1 := mul_in (a := a) (b := b) (c := c) (e := e) (x := a') (y := c') h1 (by grind) h3 (by grind)
  have p2 := mul_in (a := a) (b := b) (c := c) (e := e) (x := b') (y := c') (by grind) h2 h3 (by grind)
  have p3 := mul_in (a := a) (b := b) (c := c) (e := e) (x := a') (y := e') h1 (by grind) (by grind) h4
  have p4 := mul_in (a := a) (b := b) (c := c) (e := e) (x := b') (y := e') (by grind) h2 (by grind) h4
  exact ⟨tlo_ge p1.1 p2.1 p3.1 p4.1, thi_le p1.2 p2.2 p3.2 p4.2⟩
/-- inverses -/
theorem inv_anti {a b : Rat} (h : 0 < a) (o : a ≤ b) : b⁻¹ ≤ a⁻¹ := by
  have hb : 0 < b := by grind
  have ia : 0 < a⁻¹ := Rat.inv_pos.mpr h
  have ib : 0 < b⁻¹ := Rat.inv_pos.mpr hb
  have z := Rat.mul_le_mul_of_nonneg_right o (show 0 ≤ a⁻¹ * b⁻¹ from Rat.mul_nonneg (by grind) (by grind))
  have e1 : a * (a⁻¹ * b⁻¹) = b⁻¹ := by
    rw [← Rat.mul_assoc, Rat.mul_inv_cancel a (by grind), Rat.one_mul]
  have e2 : b * (a⁻¹ * b⁻¹) = a⁻¹ := by
    rw [Rat.mul_comm a⁻¹, ← Rat.mul_assoc, Rat.mul_inv_cancel b (by grind), Rat.one_mul]
  rw [e1, e2] at z
  exact z
theorem inv_neg' (a : Rat) : (-a)⁻¹ = -(a⁻¹) := by
  by_cases h : a = 0
  · subst h; decide +kernel
  · have z := Rat.mul_inv_cancel a h
    have z2 := Rat.mul_inv_cancel (-a) (by grind)
    have e : a * (-(-a)⁻¹) = 1 := by grind
    have e2 : a⁻¹ * (a * (-(-a)⁻¹)) = a⁻¹ := by rw [e, Rat.mul_one]
    rw [← Rat.mul_assoc, Rat.mul_comm a⁻¹, z, Rat.one_mul] at e2
    grind
/-- 1/y between 1/e and 1/c -/
theorem inv_in {c e y : Rat} (h1 : c ≤ y) (h2 : y ≤ e) (h : ¬ (c ≤ 0 ∧ 0 ≤ e)) : 1 / e ≤ 1 / y ∧ 1 / y ≤ 1 / c := by
  simp only [Rat.div_def, Rat.one_mul]
  by_cases hc : 0 < c
  · exact ⟨inv_anti (by grind) h2, inv_anti hc h1⟩
  · have he : e < 0 := by grind
    have z1 := inv_anti (a := -e) (b := -y) (by grind) (by grind)
    have z2 := inv_anti (a := -y) (b := -c) (by grind) (by grind)
    simp only [inv_neg'] at z1 z2
    constructor <;> grind
theorem div_one (x y : Rat) : x * (1 / y) = x / y := by rw [Rat.div_def, Rat.div_def, Rat.one_mul]
/-- the quotient's ends -/
def dlo (a b c e : Rat) : Rat := tlo a b (1 / e) (1 / c)
def dhi (a b c e : Rat) : Rat := thi a b (1 / e) (1 / c)
theorem div_in {a b c e x y : Rat} (h1 : a ≤ x) (h2 : x ≤ b) (h3 : c ≤ y) (h4 : y ≤ e) (h : ¬ (c ≤ 0 ∧ 0 ≤ e)) : dlo a b c e ≤ x / y ∧ x / y ≤ dhi a b c e := by
  obtain ⟨p, q⟩ := inv_in h3 h4 h
  rw [← div_one]
  exact mul_in h1 h2 p q
theorem div_sub {a b c e a' b' c' e' : Rat} (h1 : a ≤ a') (o : a' ≤ b') (h2 : b' ≤ b) (h3 : c ≤ c') (o' : c' ≤ e') (h4 : e' ≤ e) (h : ¬ (c ≤ 0 ∧ 0 ≤ e)) : dlo a b c e ≤ dlo a' b' c' e' ∧ dhi a' b' c' e' ≤ dhi a b c e := by
  have p1 := inv_in (c := c) (e := e) (y := c') h3 (by grind) h
  have p2 := inv_in (c := c) (e := e) (y := e') (by grind) h4 h
  have p3 := inv_in (y := c') (c := c') (e := e') (by grind) o' (by grind)
  exact mul_sub h1 o h2 p2.1 p3.1 p1.2
/-- the power's ends -/
theorem pow_in {a b x : Rat} (n : Nat) (h1 : a ≤ x) (h2 : x ≤ b) : rlo a b n ≤ x ^ n ∧ x ^ n ≤ rhi a b n := by
  have base : mn (a ^ n) (b ^ n) ≤ x ^ n ∧ x ^ n ≤ mx (a ^ n) (b ^ n) ∨ (0 < n ∧ n % 2 = 0 ∧ a ≤ 0 ∧ 0 ≤ b) ∧ 0 ≤ x ^ n ∧ x ^ n ≤ mx (a ^ n) (b ^ n) := by
    have l1 := mn_l (a ^ n) (b ^ n)
    have l2 := mn_r (a ^ n) (b ^ n)
    have l3 := mx_l (a ^ n) (b ^ n)
    have l4 := mx_r (a ^ n) (b ^ n)
    by_cases h0 : n = 0
    · subst h0
      simp only [Rat.pow_zero] at *
      left
      constructor <;> grind
    by_cases hm : n % 2 = 1
    · have e : n = 2 * (n / 2) + 1 := by omega
      have z1 := odd_mono h1 (n / 2)
      have z2 := odd_mono h2 (n / 2)
      rw [← e] at z1 z2
      left
      constructor <;> grind
    · have e : n = 2 * (n / 2) := by omega
      have evn : ∀ y : Rat, 0 ≤ y ^ n := fun y => by rw [e]; exact even_nn _ _
      have sgn : ∀ y : Rat, (-y) ^ n = y ^ n := fun y => by
        have z : ∀ m : Nat, (-y) ^ (2 * m) = y ^ (2 * m) := fun m => by
          induction m with
          | zero => rw [Nat.mul_zero, Rat.pow_zero, Rat.pow_zero]
          | succ m ih =>
            have q : ∀ w : Rat, w ^ (2 * (m + 1)) = w ^ (2 * m) * (w * w) := fun w => by
              rw [Nat.mul_succ, Rat.pow_succ, Rat.pow_succ]
              grind
            rw [q, q, ih]
            grind
        rw [e]
        exact z _
      have up : x ^ n ≤ mx (a ^ n) (b ^ n) := by
        by_cases hx : 0 ≤ x
        · have z := pow_mono hx h2 n
          grind
        · have z := pow_mono (a := -x) (b := -a) (by grind) (by grind) n
          rw [sgn, sgn] at z
          grind
      by_cases hz : a ≤ 0 ∧ 0 ≤ b
      · exact .inr ⟨⟨by omega, by omega, hz.1, hz.2⟩, evn x, up⟩
      · left
        refine ⟨?_, up⟩
        by_cases ha : 0 ≤ a
        · have z := pow_mono ha h1 n
          grind
        · have z := pow_mono (a := -b) (b := -x) (by grind) (by grind) n
          rw [sgn, sgn] at z
          grind
  unfold rlo rhi
  by_cases z : zc a b n
  · rw [if_pos z, if_pos z]
    have l1 := mn_l (mn (a ^ n) (b ^ n)) 0
    have l2 := mn_r (mn (a ^ n) (b ^ n)) 0
    have l3 := mx_l (mx (a ^ n) (b ^ n)) 0
    rcases base with h | h
    · constructor <;> grind
    · constructor <;> grind
  · rw [if_neg z, if_neg z]
    rcases base with h | h
    · exact h
    · exact absurd h.1 z
theorem zero_pow {n : Nat} (h : 0 < n) : (0 : Rat) ^ n = 0 := by
  cases n with
  | zero => omega
  | succ n => rw [Rat.pow_succ, Rat.mul_zero]
theorem pow_sub {a b a' b' : Rat} (n : Nat) (h1 : a ≤ a') (o : a' ≤ b') (h2 : b' ≤ b) : rlo a b n ≤ rlo a' b' n ∧ rhi a' b' n ≤ rhi a b n := by
  have p1 := pow_in (a := a) (b := b) (x := a') n h1 (by grind)
  have p2 := pow_in (a := a) (b := b) (x := b') n (by grind) h2
  have l := le_mn p1.1 p2.1
  have u := mx_le' p1.2 p2.2
  by_cases z : zc a' b' n
  · have p3 := pow_in (a := a) (b := b) (x := 0) n (by have := z.2.2.1; grind) (by have := z.2.2.2; grind)
    rw [zero_pow z.1] at p3
    have e1 : rlo a' b' n = mn (mn (a' ^ n) (b' ^ n)) 0 := by unfold rlo; rw [if_pos z]
    have e2 : rhi a' b' n = mx (mx (a' ^ n) (b' ^ n)) 0 := by unfold rhi; rw [if_pos z]
    rw [e1, e2]
    exact ⟨le_mn l p3.1, mx_le' u p3.2⟩
  · have e1 : rlo a' b' n = mn (a' ^ n) (b' ^ n) := by unfold rlo; rw [if_neg z]
    have e2 : rhi a' b' n = mx (a' ^ n) (b' ^ n) := by unfold rhi; rw [if_neg z]
    rw [e1, e2]
    exact ⟨l, u⟩
theorem rlo_rhi {a b : Rat} (n : Nat) (o : a ≤ b) : rlo a b n ≤ rhi a b n := by
  have p := pow_in (a := a) (b := b) (x := a) n (by grind) o
  grind
/-! ### the grid -/
def flo (a : Rat) (n : Nat) : Rat := Rat.divInt ((a.num * 2 ^ n).fdiv a.den) (2 ^ n)
def cei (a : Rat) (n : Nat) : Rat := Rat.divInt (-((-a.num * 2 ^ n).fdiv a.den)) (2 ^ n)
theorem cei_flo (a : Rat) (n : Nat) : cei a n = -flo (-a) n := by
  unfold cei flo
  rw [Rat.neg_divInt, Rat.neg_num, Rat.neg_den]
theorem two_pos (n : Nat) : (0 : Rat) < ((2 ^ n : Int) : Rat) := Rat.intCast_pos.mpr (Int.pow_pos (by decide))
theorem num_den (a : Rat) : a * ((a.den : Int) : Rat) = (a.num : Rat) := by
  have z := Rat.num_divInt_den a
  rw [Rat.divInt_eq_div] at z
  have d : ((a.den : Int) : Rat) ≠ 0 := by
    have : (0 : Rat) < ((a.den : Int) : Rat) := Rat.intCast_pos.mpr (den_gt a)
    grind
  have y := Rat.div_mul_cancel (a := (a.num : Rat)) (b := ((a.den : Int) : Rat)) d
  rw [z] at y
  exact y
/-- the floor's number -/
def flm (a : Rat) (n : Nat) : Int := (a.num * 2 ^ n).fdiv a.den
theorem flo_mul (a : Rat) (n : Nat) : flo a n * ((2 ^ n : Int) : Rat) = (flm a n : Rat) := by
  unfold flo
  rw [Rat.divInt_eq_div]
  exact Rat.div_mul_cancel (by have := two_pos n; grind)
theorem flm_le (a : Rat) (n : Nat) : (flm a n : Rat) ≤ a * ((2 ^ n : Int) : Rat) := by
  have dp : (0 : Rat) < ((a.den : Int) : Rat) := Rat.intCast_pos.mpr (den_gt a)
  refine Rat.le_of_mul_le_mul_right (c := ((a.den : Int) : Rat)) ?_ dp
  have e : a * ((2 ^ n : Int) : Rat) * ((a.den : Int) : Rat) = ((a.num * 2 ^ n : Int) : Rat) := by
    rw [Rat.intCast_mul, ← num_den a]
    grind
  rw [e, ← Rat.intCast_mul]
  refine Rat.intCast_le_intCast.mpr ?_
  unfold flm
  rw [Int.fdiv_eq_ediv_of_nonneg _ (by omega)]
  exact Int.ediv_mul_le _ (den_ne a)
theorem lt_flm (a : Rat) (n : Nat) : a * ((2 ^ n : Int) : Rat) < ((flm a n + 1 : Int) : Rat) := by
  have dp : (0 : Rat) < ((a.den : Int) : Rat) := Rat.intCast_pos.mpr (den_gt a)
  refine Rat.lt_of_mul_lt_mul_right (c := ((a.den : Int) : Rat)) ?_ (by grind)
  have e : a * ((2 ^ n : Int) : Rat) * ((a.den : Int) : Rat) = ((a.num * 2 ^ n : Int) : Rat) := by
    rw [Rat.intCast_mul, ← num_den a]
    grind
  rw [e, ← Rat.intCast_mul]
  refine Rat.intCast_lt_intCast.mpr ?_
  exact Int.lt_fdiv_add_one_mul_self _ (den_gt a)
theorem flo_le (a : Rat) (n : Nat) : flo a n ≤ a := by
  refine Rat.le_of_mul_le_mul_right (c := ((2 ^ n : Int) : Rat)) ?_ (two_pos n)
  rw [flo_mul]
  exact flm_le a n
theorem flo_mono {a b : Rat} (h : a ≤ b) (n : Nat) : flo a n ≤ flo b n := by
  refine Rat.le_of_mul_le_mul_right (c := ((2 ^ n : Int) : Rat)) ?_ (two_pos n)
  rw [flo_mul, flo_mul]
  refine Rat.intCast_le_intCast.mpr ?_
  have z1 := flm_le a n
  have z2 := lt_flm b n
  have z3 := Rat.mul_le_mul_of_nonneg_right h (show (0 : Rat) ≤ ((2 ^ n : Int) : Rat) by have := two_pos n; grind)
  have z4 : (flm a n : Rat) < ((flm b n + 1 : Int) : Rat) := by grind
  have := Rat.intCast_lt_intCast.mp z4
  omega
theorem le_cei (a : Rat) (n : Nat) : a ≤ cei a n := by
  have := flo_le (-a) n
  rw [cei_flo]
  grind
theorem cei_mono {a b : Rat} (h : a ≤ b) (n : Nat) : cei a n ≤ cei b n := by
  have := flo_mono (a := -b) (b := -a) (by grind) n
  rw [cei_flo, cei_flo]
  grind
theorem flo_den (a : Rat) (n : Nat) : ((flo a n).den : Int) ∣ 2 ^ n := by
  unfold flo
  rw [Rat.den_divInt, if_neg (by have : (0 : Int) < 2 ^ n := Int.pow_pos (by decide); omega)]
  have z : (2 ^ n : Int).natAbs / (2 ^ n : Int).gcd ((a.num * 2 ^ n).fdiv a.den) ∣ (2 ^ n : Int).natAbs := Nat.div_dvd_of_dvd (Nat.gcd_dvd_left _ _)
  exact Int.ofNat_dvd_left.mpr z
theorem cei_den (a : Rat) (n : Nat) : ((cei a n).den : Int) ∣ 2 ^ n := by
  rw [cei_flo, Rat.neg_den]
  exact flo_den _ _
theorem sz_two {n : Nat} (h : n < 50) : sz 51 ((2 : Int) ^ n) := by
  unfold sz
  rw [Int.natAbs_pow]
  exact Nat.pow_lt_pow_right (by decide) (by omega)
theorem szq.flo {k n : Nat} {a : Rat} (h : szq k a) (hn : n < 50) : szq (k + 51) (flo a n) := by
  refine szq_divInt (by have : (0 : Int) < 2 ^ n := Int.pow_pos (by decide); omega) ((h.1.mul (sz_two hn)).fdiv.resolve_right (den_ne a)) ((sz_two hn).mono (by omega))
theorem szq.cei {k n : Nat} {a : Rat} (h : szq k a) (hn : n < 50) : szq (k + 51) (cei a n) := by
  rw [cei_flo]
  exact (h.neg.flo hn).neg
theorem sz_one : szq 1 (1 : Rat) := ⟨by unfold sz; decide, by unfold sz; decide⟩
theorem sz_zero : szq 1 (0 : Rat) := ⟨by unfold sz; decide, by unfold sz; decide⟩
end MP
end
section
set_option Elab.async false
set_option linter.all false
set_option maxRecDepth 100000
/-! MPEq: == and in over data of any depth. -/
namespace MP
open PySem
mutual
/-- data without truth values, instances, numbers of the store -/
def PV.std : PV → Bool
  | .non => true
  | .int _ => true
  | .str x => PyData.strOk x
  | .tup xs => PV.stds xs
  | .lst xs => PV.stds xs
  | _ => false
def PV.stds : List PV → Bool
  | [] => true
  | x :: xs => x.std && PV.stds xs
end
mutual
def PV.dp : PV → Nat
  | .tup xs => PV.dps xs + 1
  | .lst xs => PV.dps xs + 1
  | _ => 0
def PV.dps : List PV → Nat
  | [] => 0
  | x :: xs => max x.dp (PV.dps xs)
end
mutual
theorem std_toD : ∀ {x : PV}, x.std = true → ∃ d, x.toD = some d ∧ d.canLay0 = true ∧ d.depth = x.dp
  | .non, _ => ⟨_, rfl, rfl, rfl⟩
  | .int _, _ => ⟨_, rfl, rfl, rfl⟩
  | .str x, h => ⟨_, rfl, h, rfl⟩
  | .tup xs, h => by
    obtain ⟨ds, e, c, p⟩ := stds_toD (xs := xs) h
    exact ⟨.tuple ds, by simp [PV.toD, e], by simpa [PyData.canLay0] using c, by simp [PyData.depth, PV.dp, p]⟩
  | .lst xs, h => by
    obtain ⟨ds, e, c, p⟩ := stds_toD (xs := xs) h
    exact ⟨.list ds, by simp [PV.toD, e], by simpa [PyData.canLay0] using c, by simp [PyData.depth, PV.dp, p]⟩
  | .bl _, h => by cases h
  | .obj _ _, h => by cases h
  | .ref _, h => by cases h
theorem stds_toD : ∀ {xs : List PV}, PV.stds xs = true → ∃ ds, PV.toDs xs = some ds ∧ PyData.canLayAll0 ds = true ∧ PyData.depthAll ds = PV.dps xs
  | [], _ => ⟨[], rfl, rfl, rfl⟩
  | x :: xs, h => by
    have h' := Bool.and_eq_true_iff.mp (show (x.std && PV.stds xs) = true from h)
    obtain ⟨d, e1, c1, p1⟩ := std_toD h'.1
    obtain ⟨ds, e2, c2, p2⟩ := stds_toD h'.2
    exact ⟨d :: ds, by simp [PV.toDs, e1, e2], by simp [PyData.canLayAll0, c1, c2], by simp [PyData.depthAll, PV.dps, p1, p2]⟩
end
theorem str_beq (x y : Str) : (x == y) = decide (x = y) := by
  by_cases h : x = y
  · subst h; simp
  · rw [decide_eq_false h]
    simpa using h
mutual
theorem std_eqv : ∀ {x y : PV} {d e : PyData}, x.std = true → y.std = true → x.toD = some d → y.toD = some e → d.eqv e = decide (x = y)
  | .non, y, d, e, _, hy, h1, h2 => by
    cases h1
    cases y <;> first | (cases h2; simp [PyData.eqv]; done) | (simp [PV.std] at hy; done) | skip
    all_goals
      rename_i xs
      cases q : PV.toDs xs with
      | none => simp [PV.toD, q] at h2
      | some ds =>
        simp [PV.toD, q] at h2
        subst h2
        simp [PyData.eqv]
  | .int i, y, d, e, _, hy, h1, h2 => by
    cases h1
    cases y <;> first | (cases h2; simp [PyData.eqv, BEq.beq]; done) | (cases h2; simp [PyData.eqv]; done) | (simp [PV.std] at hy; done) | skip
    all_goals
      rename_i xs
      cases q : PV.toDs xs with
      | none => simp [PV.toD, q] at h2
      | some ds =>
        simp [PV.toD, q] at h2
        subst h2
        simp [PyData.eqv]
  | .str z, y, d, e, _, hy, h1, h2 => by
    cases h1
    cases y <;> first | (cases h2; simp [PyData.eqv]; done) | (cases h2; simp only [PyData.eqv, PV.str.injEq]; exact str_beq _ _) | (simp [PV.std] at hy; done) | skip
    all_goals
      rename_i xs
      cases q : PV.toDs xs with
      | none => simp [PV.toD, q] at h2
      | some ds =>
        simp [PV.toD, q] at h2
        subst h2
        simp [PyData.eqv]
  | .tup xs, y, d, e, hx, hy, h1, h2 => by
    cases q1 : PV.toDs xs with
    | none => simp [PV.toD, q1] at h1
    | some ds =>
      simp [PV.toD, q1] at h1
      subst h1
      cases y with
      | tup ys =>
        cases q2 : PV.toDs ys with
        | none => simp [PV.toD, q2] at h2
        | some es =>
          simp [PV.toD, q2] at h2
          subst h2
          have ih := stds_eqv (xs := xs) (ys := ys) hx hy q1 q2
          simp [PyData.eqv, ih]
      | lst ys =>
        cases q2 : PV.toDs ys with
        | none => simp [PV.toD, q2] at h2
        | some es =>
          simp [PV.toD, q2] at h2
          subst h2
          simp [PyData.eqv]
      | bl _ => simp [PV.std] at hy
      | obj _ _ => simp [PV.std] at hy
      | ref _ => simp [PV.std] at hy
      | _ => cases h2; simp [PyData.eqv]
  | .lst xs, y, d, e, hx, hy, h1, h2 => by
    cases q1 : PV.toDs xs with
    | none => simp [PV.toD, q1] at h1
    | some ds =>
      simp [PV.toD, q1] at h1
      subst h1
      cases y with
      | lst ys =>
        cases q2 : PV.toDs ys with
        | none => simp [PV.toD, q2] at h2
        | some es =>
          simp [PV.toD, q2] at h2
          subst h2
          have ih := stds_eqv (xs := xs) (ys := ys) hx hy q1 q2
          simp [PyData.eqv, ih]
      | tup ys =>
        cases q2 : PV.toDs ys with
        | none => simp [PV.toD, q2] at h2
        | some es =>
          simp [PV.toD, q2] at h2
          subst h2
          simp [PyData.eqv]
      | bl _ => simp [PV.std] at hy
      | obj _ _ => simp [PV.std] at hy
      | ref _ => simp [PV.std] at hy
      | _ => cases h2; simp [PyData.eqv]
  | .bl _, _, _, _, hx, _, _, _ => by cases hx
  | .obj _ _, _, _, _, hx, _, _, _ => by cases hx
  | .ref _, _, _, _, hx, _, _, _ => by cases hx
theorem stds_eqv : ∀ {xs ys : List PV} {ds es : List PyData}, PV.stds xs = true → PV.stds ys = true → PV.toDs xs = some ds → PV.toDs ys = some es → PyData.eqvAll ds es = decide (xs = ys)
  | [], [], ds, es, _, _, h1, h2 => by cases h1; cases h2; simp [PyData.eqvAll]
  | [], y :: ys, ds, es, _, hy, h1, h2 => by
    obtain ⟨fs, e, _⟩ := stds_toD hy
    cases h1
    rw [e] at h2
    cases h2
    cases es with
    | nil =>
      exfalso
      cases q : y.toD with
      | none => simp [PV.toDs, q] at e
      | some d => cases q2 : PV.toDs ys with
        | none => simp [PV.toDs, q, q2] at e
        | some r => simp [PV.toDs, q, q2] at e
    | cons _ _ => simp [PyData.eqvAll]
  | x :: xs, [], ds, es, hx, _, h1, h2 => by
    obtain ⟨fs, e, _⟩ := stds_toD hx
    cases h2
    rw [e] at h1
    cases h1
    cases ds with
    | nil =>
      exfalso
      cases q : x.toD with
      | none => simp [PV.toDs, q] at e
      | some d => cases q2 : PV.toDs xs with
        | none => simp [PV.toDs, q, q2] at e
        | some r => simp [PV.toDs, q, q2] at e
    | cons _ _ => simp [PyData.eqvAll]
  | x :: xs, y :: ys, ds, es, hx, hy, h1, h2 => by
    have hx' := Bool.and_eq_true_iff.mp (show (x.std && PV.stds xs) = true from hx)
    have hy' := Bool.and_eq_true_iff.mp (show (y.std && PV.stds ys) = true from hy)
    obtain ⟨d, a1, _⟩ := std_toD hx'.1
    obtain ⟨ds', a2, _⟩ := stds_toD hx'.2
    obtain ⟨e, b1, _⟩ := std_toD hy'.1
    obtain ⟨es', b2, _⟩ := stds_toD hy'.2
    have c1 := std_eqv hx'.1 hy'.1 a1 b1
    have c2 := stds_eqv hx'.2 hy'.2 a2 b2
    simp [PV.toDs, a1, a2] at h1
    simp [PV.toDs, b1, b2] at h2
    subst h1
    subst h2
    by_cases p : x = y
    · by_cases q : xs = ys
      · simp [PyData.eqvAll, c1, c2, p, q]
      · simp [PyData.eqvAll, c1, c2, p, q]
    · simp [PyData.eqvAll, c1, c2, p]
end
theorem toDS_std {S : Sto} {x : PV} (h : x.std = true) : toDS S x = x.toD := by
  cases x <;> first | rfl | cases h
theorem eqV_std {S : Sto} {x y : PV} (hx : x.std = true) (hy : y.std = true) (dx : x.dp ≤ 64) (dy : y.dp ≤ 64) : eqV S x y = some (decide (x = y)) := by
  obtain ⟨d, a1, a2, a3⟩ := std_toD hx
  obtain ⟨e, b1, b2, b3⟩ := std_toD hy
  unfold eqV
  rw [toDS_std hx, toDS_std hy, a1, b1]
  have s1 : shaped d = true := by unfold shaped; rw [a2, a3, decide_eq_true dx]; rfl
  have s2 : shaped e = true := by unfold shaped; rw [b2, b3, decide_eq_true dy]; rfl
  simp only [s1, s2, Bool.and_self, if_true]
  rw [std_eqv hx hy a1 b1]
theorem flat_eq {x y : PV} (hx : x.std = true) (hy : y.std = true) (fx : x.flat = true) (fy : y.flat = true) : x.eqF y = decide (x = y) := by
  cases x <;> cases y <;> first | (cases fx; done) | (cases fy; done) | (cases hx; done) | (cases hy; done) | (simp [PV.eqF]; done) | (simp [PV.eqF, BEq.beq]; done)
theorem stds_mem : ∀ {xs : List PV} {x : PV}, PV.stds xs = true → x ∈ xs → x.std = true
  | y :: ys, x, h, m => by
    have h' := Bool.and_eq_true_iff.mp (show (y.std && PV.stds ys) = true from h)
    rcases List.mem_cons.mp m with rfl | m
    · exact h'.1
    · exact stds_mem h'.2 m
theorem any_eqv {x : PV} {d : PyData} (hx : x.std = true) (a1 : x.toD = some d) : ∀ {xs : List PV} {ds : List PyData}, PV.stds xs = true → PV.toDs xs = some ds → (ds.any fun z => z.eqv d) = xs.any fun z => decide (z = x)
  | [], ds, _, e => by cases e; rfl
  | y :: ys, ds, h, e => by
    have h' := Bool.and_eq_true_iff.mp (show (y.std && PV.stds ys) = true from h)
    obtain ⟨e1, b1, _⟩ := std_toD h'.1
    obtain ⟨es, b2, _⟩ := stds_toD h'.2
    simp [PV.toDs, b1, b2] at e
    subst e
    rw [List.any_cons, List.any_cons, std_eqv h'.1 hx b1 a1, any_eqv hx a1 h'.2 b2]
/-- in, over a written or locked list -/
theorem inSeq_std {S : Sto} {x : PV} {xs : List PV} (hx : x.std = true) (h : PV.stds xs = true) (dx : x.dp ≤ 64) (dy : PV.dps xs ≤ 63) : inSeq S x (.lst xs) = some (xs.any fun z => decide (z = x)) := by
  unfold inSeq
  show (if (x.flat && xs.all PV.flat) = true then some (xs.any fun z => z.eqF x) else inDeep S x (.lst xs)) = _
  split
  · rename_i hf
    have hf := Bool.and_eq_true_iff.mp hf
    congr 1
    have z : ∀ y ∈ xs, y.eqF x = decide (y = x) := fun y m => flat_eq (stds_mem h m) hx (List.all_eq_true.mp hf.2 y m) hf.1
    rename_i hh
    clear h dy hf hh
    induction xs with
    | nil => rfl
    | cons y ys ih => rw [List.any_cons, List.any_cons, z y List.mem_cons_self, ih fun w m => z w (List.mem_cons_of_mem _ m)]
  · obtain ⟨d, a1, a2, a3⟩ := std_toD hx
    obtain ⟨ds, b1, b2, b3⟩ := stds_toD h
    unfold inDeep
    rw [toDS_std hx, a1, show toDS S (.lst xs) = some (.list ds) by simp [toDS, PV.toD, b1]]
    have s1 : shaped d = true := by unfold shaped; rw [a2, a3, decide_eq_true dx]; rfl
    have s2 : shaped (.list ds) = true := by
      unfold shaped
      have : PyData.depth (.list ds) = PV.dps xs + 1 := by simp [PyData.depth, b3]
      rw [this, show PyData.canLay0 (.list ds) = true by simpa [PyData.canLay0] using b2, decide_eq_true (by omega)]
      rfl
    simp only [s1, s2, Bool.and_self, if_true]
    rw [any_eqv hx a1 h b1]
end MP
end
section
set_option Elab.async false
set_option linter.all false
set_option maxRecDepth 100000
/-! MPSimp: each operator where its operands are known. -/
namespace MP
open PySem
section
variable {S : Sto} {i j : Int} {x y : PV} {xs ys : List PV}
theorem ix_tup : ixV S (.tup xs) (.int i) = itemAt xs i := by simp only [ixV]
theorem ix_lst : ixV S (.lst xs) (.int i) = itemAt xs i := by simp only [ixV]
theorem ix_r {k : Nat} : ixV S (.ref k) (.int i) = match S.lst? k with
    | some xs => itemAt xs i
    | none => (dAsk S k (.int i)).bind id := by
  cases h : S.lst? k <;> simp only [ixV, h]
theorem cm_eq : cmV S .eq x y = eqV S x y := by simp only [cmV]
theorem cm_ne : cmV S .ne x y = (eqV S x y).map (!·) := by simp only [cmV]
theorem cm_lt : cmV S .lt (.int i) (.int j) = some (decide (i < j)) := by simp only [cmV, cmL]
theorem cm_le : cmV S .le (.int i) (.int j) = some (decide (i ≤ j)) := by simp only [cmV, cmI]
theorem cm_gt : cmV S .gt (.int i) (.int j) = some (decide (j < i)) := by simp only [cmV, cmI]
theorem cm_ge : cmV S .ge (.int i) (.int j) = some (decide (j ≤ i)) := by simp only [cmV, cmI]
theorem cm_isn : cmV S .isn x .non = some (decide (x = .non)) := by simp only [cmV, isV]
theorem cm_nisn : cmV S .nisn x .non = some (!decide (x = .non)) := by simp only [cmV, isV, Option.map]
theorem cm_isb {b c : Bool} : cmV S .isn (.bl b) (.bl c) = some (decide (b = c)) := by simp only [cmV, isV]
theorem cm_inn : cmV S .inn x y = inSeq S x y := by simp only [cmV]
theorem cm_nin : cmV S .nin x y = (inSeq S x y).map (!·) := by simp only [cmV]
theorem op_ad : opV S .add (.int i) (.int j) = some (.int (i + j)) := by simp only [opV]
theorem op_sb : opV S .sub (.int i) (.int j) = some (.int (i - j)) := by simp only [opV]
theorem op_ml : opV S .mul (.int i) (.int j) = if mulOk i j then some (.int (i * j)) else none := by simp only [opV]
theorem op_dv : opV S .fdiv (.int i) (.int j) = if divOk j then some (.int (i.fdiv j)) else none := by simp only [opV]
theorem op_md : opV S .mod (.int i) (.int j) = if j = 0 then none else some (.int (i.fmod j)) := by simp only [opV]
theorem op_pw : opV S .pow (.int i) (.int j) = if powOk i j then some (.int (i ^ j.toNat)) else none := by simp only [opV]
theorem op_sl : opV S .shl (.int i) (.int j) = if shlOk i j then some (.int (i * 2 ^ j.toNat)) else none := by simp only [opV]
theorem op_as {a b : Str} : opV S .add (.str a) (.str b) = if a.length + b.length ≤ lenMax then some (.str (a ++ b)) else none := by simp only [opV]
theorem op_at : opV S .add (.tup xs) (.tup ys) = if xs.length + ys.length ≤ lenMax then some (.tup (xs ++ ys)) else none := by simp only [opV]
theorem op_mt : opV S .mul (.tup xs) (.int j) = if !xs.isEmpty && decide (2 ≤ j) && decide (j ≤ 1000) && decide (xs.length ≤ 1000) then some (.tup (List.replicate j.toNat xs).flatten) else none := by simp only [opV]
theorem op_al : opV S .add (.lst xs) (.lst ys) = if xs.length + ys.length ≤ lenMax then some (.lst (xs ++ ys)) else none := by simp only [opV, lstOf]
theorem bi_abs : biV S .abs [.int i] = some (.int (if i < 0 then -i else i)) := by simp only [biV]
theorem bi_int : biV S .int [.int i] = some (.int i) := by simp only [biV]
theorem bi_intb {b : Bool} : biV S .int [.bl b] = some (.int (if b then 1 else 0)) := by simp only [biV]
theorem bi_ints {z : Str} : biV S .int [.str z] = if z.length ≤ 640 then (intText? z).map .int else none := by simp only [biV]
theorem bi_lent : biV S .len [.tup xs] = some (.int xs.length) := by simp only [biV]
theorem bi_lenl : biV S .len [.lst xs] = some (.int xs.length) := by simp only [biV, lstOf, Option.map]
theorem bi_lenr {k : Nat} : biV S .len [.ref k] = (S.lst? k).map fun ys => .int ys.length := by simp only [biV, lstOf]
theorem bi_lens {z : Str} : biV S .len [.str z] = if z.length ≤ lenMax then some (.int z.length) else none := by simp only [biV]
theorem bi_listt : biV S .list [.tup xs] = some (.lst xs) := by simp only [biV, seqOf, Option.map]
theorem bi_listl : biV S .list [.lst xs] = some (.lst xs) := by simp only [biV, seqOf, Option.map]
theorem bi_tupt : biV S .tuple [.tup xs] = some (.tup xs) := by simp only [biV, seqOf, Option.map]
theorem bi_tupl : biV S .tuple [.lst xs] = some (.tup xs) := by simp only [biV, seqOf, Option.map]
theorem bi_tupr {k : Nat} : biV S .tuple [.ref k] = (S.lst? k).map .tup := by simp only [biV, seqOf]
theorem bi_gcd : biV S .gcd [.int i, .int j] = some (.int ((Nat.gcd i.natAbs j.natAbs : Nat) : Int)) := by simp only [biV]
theorem bi_max : biV S .max2 [.int i, .int j] = some (.int (if j > i then j else i)) := by simp only [biV]
theorem bi_min : biV S .min2 [.int i, .int j] = some (.int (if j < i then j else i)) := by simp only [biV]
theorem bi_str : biV S .str [.int i] = if i.natAbs.log2 < 1920 then some (.str (toString i)) else none := by simp only [biV]
theorem bi_sum : biV S .sum [x] = ((seqOf S x).bind intsOf).map fun ns => .int ns.sum := by simp only [biV]
theorem bi_all : biV S .all [x] = ((lstOf S x).bind blsOf).map fun ns => .bl (ns.all id) := by simp only [biV]
theorem bi_any : biV S .any [x] = ((lstOf S x).bind blsOf).map fun ns => .bl (ns.any id) := by simp only [biV]
theorem tr_non : truV S .non = some false := by simp only [truV]
theorem tr_bl {b : Bool} : truV S (.bl b) = some b := by simp only [truV]
theorem tr_int : truV S (.int i) = some (i != 0) := by simp only [truV]
theorem tr_tup : truV S (.tup xs) = some (!xs.isEmpty) := by simp only [truV]
theorem tr_lst : truV S (.lst xs) = some (!xs.isEmpty) := by simp only [truV]
theorem ty_nt {b : Ty} : isTy .non b = some false := by simp only [isTy]
theorem ty_tt : isTy (.tup xs) .tup = some true := by simp only [isTy]
theorem ty_ti : isTy (.tup xs) .int = some false := by simp only [isTy]
theorem ty_ii : isTy (.int i) .int = some true := by simp only [isTy]
theorem ty_it : isTy (.int i) .tup = some false := by simp only [isTy]
theorem ty_is : isTy (.int i) .str = some false := by simp only [isTy]
theorem sl_tup {lo hi : Option Int} : slV S (.tup xs) lo hi = some (.tup (cut xs lo hi)) := by simp only [slV]
theorem sl_lst {lo hi : Option Int} : slV S (.lst xs) lo hi = some (.lst (cut xs lo hi)) := by simp only [slV]
theorem sq_tup : seqOf S (.tup xs) = some xs := by simp only [seqOf]
theorem sq_lst : seqOf S (.lst xs) = some xs := by simp only [seqOf]
theorem ls_lst : lstOf S (.lst xs) = some xs := by simp only [lstOf]
theorem th_lst : thaw (.lst xs) S = .ok (.ref S.len) (S.push (.lst xs)) := by simp only [thaw]
theorem wk_tup : walkV S (.tup xs) = some (xs, []) := by simp only [walkV]
theorem wk_lst : walkV S (.lst xs) = some (xs, []) := by simp only [walkV]
theorem opt_some {α : Type} {a : α} : opt (some a) S = .ok a S := by simp only [opt]
theorem eqV_non : eqV S .non .non = some true := by rw [eqV_std rfl rfl (by decide) (by decide)]; rfl
end
end MP
end
section
set_option Elab.async false
set_option linter.all false
set_option maxRecDepth 100000
/-! MPStr: short texts that are met (printed by a program) -/
namespace MP
open PySem
theorem eqV_str {S : Sto} {x y : Str} {c : Bool} (hx : shaped (.str x) = true) (hy : shaped (.str y) = true) (h : (PyData.str x).eqv (.str y) = c) : eqV S (.str x) (.str y) = some c := by
  unfold eqV
  simp only [toDS, PV.toD]
  rw [hx, hy, h]
  rfl
theorem es_num_num {S : Sto} : eqV S (.str "num") (.str "num") = some true := eqV_str (by decide +kernel) (by decide +kernel) (by decide +kernel)
theorem es_num_state {S : Sto} : eqV S (.str "num") (.str "state") = some false := eqV_str (by decide +kernel) (by decide +kernel) (by decide +kernel)
theorem es_num_const {S : Sto} : eqV S (.str "num") (.str "const") = some false := eqV_str (by decide +kernel) (by decide +kernel) (by decide +kernel)
theorem es_num_pow {S : Sto} : eqV S (.str "num") (.str "pow") = some false := eqV_str (by decide +kernel) (by decide +kernel) (by decide +kernel)
theorem es_num_add {S : Sto} : eqV S (.str "num") (.str "add") = some false := eqV_str (by decide +kernel) (by decide +kernel) (by decide +kernel)
theorem es_num_sub {S : Sto} : eqV S (.str "num") (.str "sub") = some false := eqV_str (by decide +kernel) (by decide +kernel) (by decide +kernel)
theorem es_num_mul {S : Sto} : eqV S (.str "num") (.str "mul") = some false := eqV_str (by decide +kernel) (by decide +kernel) (by decide +kernel)
theorem es_num_div {S : Sto} : eqV S (.str "num") (.str "div") = some false := eqV_str (by decide +kernel) (by decide +kernel) (by decide +kernel)
theorem es_state_num {S : Sto} : eqV S (.str "state") (.str "num") = some false := eqV_str (by decide +kernel) (by decide +kernel) (by decide +kernel)
theorem es_state_state {S : Sto} : eqV S (.str "state") (.str "state") = some true := eqV_str (by decide +kernel) (by decide +kernel) (by decide +kernel)
theorem es_state_const {S : Sto} : eqV S (.str "state") (.str "const") = some false := eqV_str (by decide +kernel) (by decide +kernel) (by decide +kernel)
theorem es_state_pow {S : Sto} : eqV S (.str "state") (.str "pow") = some false := eqV_str (by decide +kernel) (by decide +kernel) (by decide +kernel)
theorem es_state_add {S : Sto} : eqV S (.str "state") (.str "add") = some false := eqV_str (by decide +kernel) (by decide +kernel) (by decide +kernel)
theorem es_state_sub {S : Sto} : eqV S (.str "state") (.str "sub") = some false := eqV_str (by decide +kernel) (by decide +kernel) (by decide +kernel)
theorem es_state_mul {S : Sto} : eqV S (.str "state") (.str "mul") = some false := eqV_str (by decide +kernel) (by decide +kernel) (by decide +kernel)
theorem es_state_div {S : Sto} : eqV S (.str "state") (.str "div") = some false := eqV_str (by decide +kernel) (by decide +kernel) (by decide +kernel)
theorem es_const_num {S : Sto} : eqV S (.str "const") (.str "num") = some false := eqV_str (by decide +kernel) (by decide +kernel) (by decide +kernel)
theorem es_const_state {S : Sto} : eqV S (.str "const") (.str "state") = some false := eqV_str (by decide +kernel) (by decide +kernel) (by decide +kernel)
theorem es_const_const {S : Sto} : eqV S (.str "const") (.str "const") = some true := eqV_str (by decide +kernel) (by decide +kernel) (by decide +kernel)
theorem es_const_pow {S : Sto} : eqV S (.str "const") (.str "pow") = some false := eqV_str (by decide +kernel) (by decide +kernel) (by decide +kernel)
theorem es_const_add {S : Sto} : eqV S (.str "const") (.str "add") = some false := eqV_str (by decide +kernel) (by decide +kernel) (by decide +kernel)
theorem es_const_sub {S : Sto} : eqV S (.str "const") (.str "sub") = some false := eqV_str (by decide +kernel) (by decide +kernel) (by decide +kernel)
theorem es_const_mul {S : Sto} : eqV S (.str "const") (.str "mul") = some false := eqV_str (by decide +kernel) (by decide +kernel) (by decide +kernel)
theorem es_const_div {S : Sto} : eqV S (.str "const") (.str "div") = some false := eqV_str (by decide +kernel) (by decide +kernel) (by decide +kernel)
theorem es_pow_num {S : Sto} : eqV S (.str "pow") (.str "num") = some false := eqV_str (by decide +kernel) (by decide +kernel) (by decide +kernel)
theorem es_pow_state {S : Sto} : eqV S (.str "pow") (.str "state") = some false := eqV_str (by decide +kernel) (by decide +kernel) (by decide +kernel)
theorem es_pow_const {S : Sto} : eqV S (.str "pow") (.str "const") = some false := eqV_str (by decide +kernel) (by decide +kernel) (by decide +kernel)
theorem es_pow_pow {S : Sto} : eqV S (.str "pow") (.str "pow") = some true := eqV_str (by decide +kernel) (by decide +kernel) (by decide +kernel)
theorem es_pow_add {S : Sto} : eqV S (.str "pow") (.str "add") = some false := eqV_str (by decide +kernel) (by decide +kernel) (by decide +kernel)
theorem es_pow_sub {S : Sto} : eqV S (.str "pow") (.str "sub") = some false := eqV_str (by decide +kernel) (by decide +kernel) (by decide +kernel)
theorem es_pow_mul {S : Sto} : eqV S (.str "pow") (.str "mul") = some false := eqV_str (by decide +kernel) (by decide +kernel) (by decide +kernel)
theorem es_pow_div {S : Sto} : eqV S (.str "pow") (.str "div") = some false := eqV_str (by decide +kernel) (by decide +kernel) (by decide +kernel)
theorem es_add_num {S : Sto} : eqV S (.str "add") (.str "num") = some false := eqV_str (by decide +kernel) (by decide +kernel) (by decide +kernel)
theorem es_add_state {S : Sto} : eqV S (.str "add") (.str "state") = some false := eqV_str (by decide +kernel) (by decide +kernel) (by decide +kernel)
theorem es_add_const {S : Sto} : eqV S (.str "add") (.str "const") = some false := eqV_str (by decide +kernel) (by decide +kernel) (by decide +kernel)
theorem es_add_pow {S : Sto} : eqV S (.str "add") (.str "pow") = some false := eqV_str (by decide +kernel) (by decide +kernel) (by decide +kernel)
theorem es_add_add {S : Sto} : eqV S (.str "add") (.str "add") = some true := eqV_str (by decide +kernel) (by decide +kernel) (by decide +kernel)
theorem es_add_sub {S : Sto} : eqV S (.str "add") (.str "sub") = some false := eqV_str (by decide +kernel) (by decide +kernel) (by decide +kernel)
theorem es_add_mul {S : Sto} : eqV S (.str "add") (.str "mul") = some false := eqV_str (by decide +kernel) (by decide +kernel) (by decide +kernel)
theorem es_add_div {S : Sto} : eqV S (.str "add") (.str "div") = some false := eqV_str (by decide +kernel) (by decide +kernel) (by decide +kernel)
theorem es_sub_num {S : Sto} : eqV S (.str "sub") (.str "num") = some false := eqV_str (by decide +kernel) (by decide +kernel) (by decide +kernel)
theorem es_sub_state {S : Sto} : eqV S (.str "sub") (.str "state") = some false := eqV_str (by decide +kernel) (by decide +kernel) (by decide +kernel)
theorem es_sub_const {S : Sto} : eqV S (.str "sub") (.str "const") = some false := eqV_str (by decide +kernel) (by decide +kernel) (by decide +kernel)
theorem es_sub_pow {S : Sto} : eqV S (.str "sub") (.str "pow") = some false := eqV_str (by decide +kernel) (by decide +kernel) (by decide +kernel)
theorem es_sub_add {S : Sto} : eqV S (.str "sub") (.str "add") = some false := eqV_str (by decide +kernel) (by decide +kernel) (by decide +kernel)
theorem es_sub_sub {S : Sto} : eqV S (.str "sub") (.str "sub") = some true := eqV_str (by decide +kernel) (by decide +kernel) (by decide +kernel)
theorem es_sub_mul {S : Sto} : eqV S (.str "sub") (.str "mul") = some false := eqV_str (by decide +kernel) (by decide +kernel) (by decide +kernel)
theorem es_sub_div {S : Sto} : eqV S (.str "sub") (.str "div") = some false := eqV_str (by decide +kernel) (by decide +kernel) (by decide +kernel)
theorem es_mul_num {S : Sto} : eqV S (.str "mul") (.str "num") = some false := eqV_str (by decide +kernel) (by decide +kernel) (by decide +kernel)
theorem es_mul_state {S : Sto} : eqV S (.str "mul") (.str "state") = some false := eqV_str (by decide +kernel) (by decide +kernel) (by decide +kernel)
theorem es_mul_const {S : Sto} : eqV S (.str "mul") (.str "const") = some false := eqV_str (by decide +kernel) (by decide +kernel) (by decide +kernel)
theorem es_mul_pow {S : Sto} : eqV S (.str "mul") (.str "pow") = some false := eqV_str (by decide +kernel) (by decide +kernel) (by decide +kernel)
theorem es_mul_add {S : Sto} : eqV S (.str "mul") (.str "add") = some false := eqV_str (by decide +kernel) (by decide +kernel) (by decide +kernel)
theorem es_mul_sub {S : Sto} : eqV S (.str "mul") (.str "sub") = some false := eqV_str (by decide +kernel) (by decide +kernel) (by decide +kernel)
theorem es_mul_mul {S : Sto} : eqV S (.str "mul") (.str "mul") = some true := eqV_str (by decide +kernel) (by decide +kernel) (by decide +kernel)
theorem es_mul_div {S : Sto} : eqV S (.str "mul") (.str "div") = some false := eqV_str (by decide +kernel) (by decide +kernel) (by decide +kernel)
theorem es_div_num {S : Sto} : eqV S (.str "div") (.str "num") = some false := eqV_str (by decide +kernel) (by decide +kernel) (by decide +kernel)
theorem es_div_state {S : Sto} : eqV S (.str "div") (.str "state") = some false := eqV_str (by decide +kernel) (by decide +kernel) (by decide +kernel)
theorem es_div_const {S : Sto} : eqV S (.str "div") (.str "const") = some false := eqV_str (by decide +kernel) (by decide +kernel) (by decide +kernel)
theorem es_div_pow {S : Sto} : eqV S (.str "div") (.str "pow") = some false := eqV_str (by decide +kernel) (by decide +kernel) (by decide +kernel)
theorem es_div_add {S : Sto} : eqV S (.str "div") (.str "add") = some false := eqV_str (by decide +kernel) (by decide +kernel) (by decide +kernel)
theorem es_div_sub {S : Sto} : eqV S (.str "div") (.str "sub") = some false := eqV_str (by decide +kernel) (by decide +kernel) (by decide +kernel)
theorem es_div_mul {S : Sto} : eqV S (.str "div") (.str "mul") = some false := eqV_str (by decide +kernel) (by decide +kernel) (by decide +kernel)
theorem es_div_div {S : Sto} : eqV S (.str "div") (.str "div") = some true := eqV_str (by decide +kernel) (by decide +kernel) (by decide +kernel)
theorem in_tS {S : Sto} {x : Str} {ys : List PV} {c : Bool} (h : ((PV.str x).flat && ys.all PV.flat) = true) (e : (ys.any fun z => z.eqF (.str x)) = c) : inSeq S (.str x) (.tup ys) = some c := by
  unfold inSeq
  show (if ((PV.str x).flat && ys.all PV.flat) = true then some (ys.any fun z => z.eqF (.str x)) else inDeep S (.str x) (.tup ys)) = _
  rw [if_pos h, e]
theorem in_lS {S : Sto} {x : Str} {ys : List PV} {c : Bool} (h : ((PV.str x).flat && ys.all PV.flat) = true) (e : (ys.any fun z => z.eqF (.str x)) = c) : inSeq S (.str x) (.lst ys) = some c := by
  unfold inSeq
  show (if ((PV.str x).flat && ys.all PV.flat) = true then some (ys.any fun z => z.eqF (.str x)) else inDeep S (.str x) (.lst ys)) = _
  rw [if_pos h, e]
theorem ip_num {S : Sto} : inSeq S (.str "num") (.tup [.str "add", .str "sub", .str "mul", .str "div"]) = some false := in_tS rfl (by decide +kernel)
theorem il_num {S : Sto} : inSeq S (.str "num") (.lst [.str "num", .str "state", .str "const"]) = some true := in_lS rfl (by decide +kernel)
theorem it_num {S : Sto} : inSeq S (.str "num") (.tup [.str "num", .str "state", .str "const"]) = some true := in_tS rfl (by decide +kernel)
theorem ip_state {S : Sto} : inSeq S (.str "state") (.tup [.str "add", .str "sub", .str "mul", .str "div"]) = some false := in_tS rfl (by decide +kernel)
theorem il_state {S : Sto} : inSeq S (.str "state") (.lst [.str "num", .str "state", .str "const"]) = some true := in_lS rfl (by decide +kernel)
theorem it_state {S : Sto} : inSeq S (.str "state") (.tup [.str "num", .str "state", .str "const"]) = some true := in_tS rfl (by decide +kernel)
theorem ip_const {S : Sto} : inSeq S (.str "const") (.tup [.str "add", .str "sub", .str "mul", .str "div"]) = some false := in_tS rfl (by decide +kernel)
theorem il_const {S : Sto} : inSeq S (.str "const") (.lst [.str "num", .str "state", .str "const"]) = some true := in_lS rfl (by decide +kernel)
theorem it_const {S : Sto} : inSeq S (.str "const") (.tup [.str "num", .str "state", .str "const"]) = some true := in_tS rfl (by decide +kernel)
theorem ip_pow {S : Sto} : inSeq S (.str "pow") (.tup [.str "add", .str "sub", .str "mul", .str "div"]) = some false := in_tS rfl (by decide +kernel)
theorem il_pow {S : Sto} : inSeq S (.str "pow") (.lst [.str "num", .str "state", .str "const"]) = some false := in_lS rfl (by decide +kernel)
theorem it_pow {S : Sto} : inSeq S (.str "pow") (.tup [.str "num", .str "state", .str "const"]) = some false := in_tS rfl (by decide +kernel)
theorem ip_add {S : Sto} : inSeq S (.str "add") (.tup [.str "add", .str "sub", .str "mul", .str "div"]) = some true := in_tS rfl (by decide +kernel)
theorem il_add {S : Sto} : inSeq S (.str "add") (.lst [.str "num", .str "state", .str "const"]) = some false := in_lS rfl (by decide +kernel)
theorem it_add {S : Sto} : inSeq S (.str "add") (.tup [.str "num", .str "state", .str "const"]) = some false := in_tS rfl (by decide +kernel)
theorem ip_sub {S : Sto} : inSeq S (.str "sub") (.tup [.str "add", .str "sub", .str "mul", .str "div"]) = some true := in_tS rfl (by decide +kernel)
theorem il_sub {S : Sto} : inSeq S (.str "sub") (.lst [.str "num", .str "state", .str "const"]) = some false := in_lS rfl (by decide +kernel)
theorem it_sub {S : Sto} : inSeq S (.str "sub") (.tup [.str "num", .str "state", .str "const"]) = some false := in_tS rfl (by decide +kernel)
theorem ip_mul {S : Sto} : inSeq S (.str "mul") (.tup [.str "add", .str "sub", .str "mul", .str "div"]) = some true := in_tS rfl (by decide +kernel)
theorem il_mul {S : Sto} : inSeq S (.str "mul") (.lst [.str "num", .str "state", .str "const"]) = some false := in_lS rfl (by decide +kernel)
theorem it_mul {S : Sto} : inSeq S (.str "mul") (.tup [.str "num", .str "state", .str "const"]) = some false := in_tS rfl (by decide +kernel)
theorem ip_div {S : Sto} : inSeq S (.str "div") (.tup [.str "add", .str "sub", .str "mul", .str "div"]) = some true := in_tS rfl (by decide +kernel)
theorem il_div {S : Sto} : inSeq S (.str "div") (.lst [.str "num", .str "state", .str "const"]) = some false := in_lS rfl (by decide +kernel)
theorem it_div {S : Sto} : inSeq S (.str "div") (.tup [.str "num", .str "state", .str "const"]) = some false := in_tS rfl (by decide +kernel)
end MP
end
section
set_option Elab.async false
set_option linter.all false
set_option maxRecDepth 100000
/-! MPText: texts as lists of code points. -/
namespace MP
open PySem
def Tx (l : List Nat) : Str := ⟨l.toArray⟩
theorem Tx_len {l : List Nat} : (Tx l).length = l.length := by simp [Tx, Str.length]
theorem Tx_tl {l : List Nat} : (Tx l).cps.toList = l := rfl
theorem Tx_app {a b : List Nat} : Tx a ++ Tx b = Tx (a ++ b) := Str.ext' (Array.toList_inj.mp (by rw [show (Tx a ++ Tx b).cps = (Tx a).cps ++ (Tx b).cps from rfl, Array.toList_append] <;> rfl))
theorem Tx_inj {a b : List Nat} (h : Tx a = Tx b) : a = b := congrArg (fun x : Str => x.cps.toList) h
def okL (l : List Nat) : Prop := ∀ c ∈ l, c < 1114112
theorem okL.app {a b : List Nat} (h : okL a) (h' : okL b) : okL (a ++ b) := fun c m => (List.mem_append.mp m).elim (h c) (h' c)
theorem Tx_std {l : List Nat} (h : okL l) : (PV.str (Tx l)).std = true := by
  show PyData.strOk (Tx l) = true
  unfold PyData.strOk
  rw [← Array.all_toList, List.all_eq_true]
  exact fun c m => decide_eq_true (h c m)
section
variable {S : Sto} {l m : List Nat} {i : Int}
theorem eq_tx (hl : okL l) (hm : okL m) : eqV S (.str (Tx l)) (.str (Tx m)) = some (decide (l = m)) := by
  rw [eqV_std (Tx_std hl) (Tx_std hm) (Nat.zero_le _) (Nat.zero_le _)]
  congr 1
  by_cases h : l = m
  · subst h; simp
  · rw [decide_eq_false h, decide_eq_false]
    intro e
    exact h (Tx_inj (PV.str.inj e))
theorem ix_tx (h : l.length ≤ lenMax) : ixV S (.str (Tx l)) (.int i) = (itemAt l i).map fun c => .str (Tx [c]) := by
  simp only [ixV]
  rw [Tx_len, if_pos h, Tx_tl]
  rfl
theorem sl_tx {lo hi : Option Int} (h : l.length ≤ lenMax) : slV S (.str (Tx l)) lo hi = some (.str (Tx (cut l lo hi))) := by
  simp only [slV]
  rw [Tx_len, if_pos h, Tx_tl]
  rfl
theorem ad_tx (h : l.length + m.length ≤ lenMax) : opV S .add (.str (Tx l)) (.str (Tx m)) = some (.str (Tx (l ++ m))) := by
  rw [op_as, Tx_len, Tx_len, if_pos h, Tx_app]
theorem len_tx (h : l.length ≤ lenMax) : biV S .len [.str (Tx l)] = some (.int l.length) := by
  rw [bi_lens, Tx_len, if_pos h]
theorem int_tx (h : NumText.AllDigits l) (h1 : l ≠ []) (h2 : l.length ≤ 640) : biV S .int [.str (Tx l)] = some (.int ((NumText.digitsVal l : Nat) : Int)) := by
  rw [bi_ints, Tx_len, if_pos h2, intText_digits (x := Tx l) h h1 (by rw [Tx_len]; omega)]
  rfl
/-- the text of a whole number -/
def intL (a : Int) : List Nat := if a < 0 then 45 :: TL.numL a.natAbs else TL.numL a.natAbs
theorem Tx_int (a : Int) : Str.ofString (toString a) = Tx (intL a) := by
  refine TL.ext_tl ?_
  show TL.tl _ = intL a
  unfold intL
  match a with
  | .ofNat n =>
    rw [if_neg (by show ¬ (n : Int) < 0; omega)]
    exact TL.tl_num n
  | .negSucc n =>
    rw [if_pos (by omega)]
    show TL.tl (Str.ofString ("-" ++ Nat.repr (n + 1))) = _
    rw [TL.tl_ofString, String.toList_append, List.map_append]
    show 45 :: ((Nat.repr (n + 1)).toList.map Char.toNat) = 45 :: TL.numL (n + 1)
    rw [Nat.toList_repr]
    rfl
theorem str_tx {a : Int} (h : a.natAbs.log2 < 1920) : biV S .str [.int a] = some (.str (Tx (intL a))) := by
  rw [bi_str, if_pos h, Tx_int]
theorem dig_in {c : Nat} : inSeq S (.str (Tx [c])) (.str (Tx l)) = some (decide (c ∈ l)) := by
  unfold inSeq
  simp only [Tx_tl]
  congr
end
/-- a digit -/
def dg (c : Nat) : Bool := decide (48 ≤ c) && decide (c ≤ 57)
def digL : List Nat := [48, 49, 50, 51, 52, 53, 54, 55, 56, 57]
theorem dig_mem {c : Nat} : decide (c ∈ digL) = dg c := by
  unfold dg digL
  by_cases h : c ∈ [48, 49, 50, 51, 52, 53, 54, 55, 56, 57]
  · rw [decide_eq_true h]
    simp only [List.mem_cons, List.not_mem_nil, or_false] at h
    rw [decide_eq_true (by omega), decide_eq_true (by omega)]
    rfl
  · rw [decide_eq_false h]
    simp only [List.mem_cons, List.not_mem_nil, or_false] at h
    by_cases h1 : 48 ≤ c
    · rw [decide_eq_true h1, decide_eq_false (by omega)]
      rfl
    · rw [decide_eq_false h1]
      rfl
theorem lit_digits : ("0123456789" : Str) = Tx digL := by decide +kernel
theorem lit_minus : ("-" : Str) = Tx [45] := by decide +kernel
theorem lit_slash : ("/" : Str) = Tx [47] := by decide +kernel
theorem lit_zero : ("0" : Str) = Tx [48] := by decide +kernel
theorem lit_empty : ("" : Str) = Tx [] := by decide +kernel
/-- where the digits from k on end -/
def dRun (l : List Nat) (k : Nat) : Nat := k + ((l.drop k).takeWhile dg).length
theorem dRun_go {l : List Nat} {k c : Nat} (h : l[k]? = some c) (hd : dg c = true) : dRun l k = dRun l (k + 1) := by
  obtain ⟨hk, e⟩ := List.getElem?_eq_some_iff.mp h
  unfold dRun
  rw [List.drop_eq_getElem_cons hk, e, List.takeWhile_cons, if_pos hd, List.length_cons]
  omega
theorem dRun_end {l : List Nat} {k : Nat} (h : ∀ c, l[k]? = some c → dg c = false) : dRun l k = k := by
  unfold dRun
  by_cases hk : k < l.length
  · rw [List.drop_eq_getElem_cons hk, List.takeWhile_cons, if_neg (by rw [h _ (List.getElem?_eq_getElem hk)]; exact Bool.false_ne_true)]
    rfl
  · rw [List.drop_eq_nil_of_le (by omega)]
    rfl
theorem dRun_ge {l : List Nat} {k : Nat} : k ≤ dRun l k := Nat.le_add_right _ _
theorem dRun_le {l : List Nat} {k : Nat} (h : k ≤ l.length) : dRun l k ≤ l.length := by
  unfold dRun
  have z := NumText.len_takeWhile dg (l.drop k)
  rw [List.length_drop] at z
  omega
theorem edge_nat {n d k : Nat} (h : k ≤ n) : edge n d (some (k : Int)) = k := by
  show (if (k : Int) < 0 then ((k : Int) + (n : Int)).toNat else min (k : Int).toNat n) = k
  rw [if_neg (by omega)]
  omega
theorem cut_nat {α : Type} {l : List α} {i j : Nat} (hi : i ≤ l.length) (hj : j ≤ l.length) : cut l (some (i : Int)) (some (j : Int)) = (l.drop i).take (j - i) := by
  unfold cut
  rw [edge_nat hi, edge_nat hj]
theorem takeWhile_take {p : Nat → Bool} : ∀ l : List Nat, l.take (l.takeWhile p).length = l.takeWhile p
  | [] => rfl
  | c :: l => by
    rw [List.takeWhile_cons]
    split
    · rw [List.length_cons, List.take_succ_cons, takeWhile_take l]
    · rfl
/-- the digits from k on -/
theorem dRun_cut {l : List Nat} {k : Nat} (h : k ≤ l.length) : cut l (some (k : Int)) (some (dRun l k : Int)) = (l.drop k).takeWhile dg := by
  rw [cut_nat h (dRun_le h)]
  unfold dRun
  rw [Nat.add_sub_cancel_left, takeWhile_take]
theorem takeWhile_all {p : Nat → Bool} : ∀ (l : List Nat) (c : Nat), c ∈ l.takeWhile p → p c = true
  | [], c, h => by simp at h
  | x :: l, c, h => by
    rw [List.takeWhile_cons] at h
    split at h
    · rename_i hx
      rcases List.mem_cons.mp h with rfl | h
      · exact hx
      · exact takeWhile_all l c h
    · simp at h
theorem dRun_digits (l : List Nat) (k : Nat) : NumText.AllDigits ((l.drop k).takeWhile dg) := fun c h => by
  have z := takeWhile_all _ c h
  unfold dg at z
  rw [Bool.and_eq_true, decide_eq_true_eq, decide_eq_true_eq] at z
  exact z
/-- where a number of the grammar ends -/
def dEnd (l : List Nat) (k : Nat) : Option Nat := if dRun l k = k ∨ (l[k]? = some 48 ∧ k + 1 < dRun l k) then none else some (dRun l k)
theorem dRun_mid {l : List Nat} {k : Nat} : ∀ i, k + i ≤ dRun l k → dRun l (k + i) = dRun l k
  | 0, _ => rfl
  | i + 1, h => by
    have ih := dRun_mid (l := l) (k := k) i (by omega)
    rw [← ih] at h ⊢
    by_cases z : ∀ c, l[k + i]? = some c → dg c = false
    · have e := dRun_end z
      omega
    · have z2 : ∃ c, l[k + i]? = some c ∧ dg c = true := by
        apply Classical.byContradiction
        intro n
        exact z fun c hc => by
          cases hd : dg c with
          | false => rfl
          | true => exact absurd ⟨c, hc, hd⟩ n
      obtain ⟨c, hc, hd⟩ := z2
      exact (dRun_go hc hd).symm
theorem dRun_in {l : List Nat} {k j : Nat} (h : k ≤ j) (h' : j < dRun l k) : ∃ c, l[j]? = some c ∧ dg c = true := by
  obtain ⟨i, rfl⟩ := Nat.le.dest h
  have e := dRun_mid (l := l) (k := k) i (by omega)
  apply Classical.byContradiction
  intro n
  have z := dRun_end (l := l) (k := k + i) fun c hc => by
    cases hd : dg c with
    | false => rfl
    | true => exact absurd ⟨c, hc, hd⟩ n
  omega
theorem dRun_out {l : List Nat} {k c : Nat} (h : l[dRun l k]? = some c) : dg c = false := by
  cases hd : dg c with
  | false => rfl
  | true =>
    have e := dRun_mid (l := l) (k := k) ((l.drop k).takeWhile dg).length (by unfold dRun; omega)
    have g := dRun_go h hd
    have z := dRun_ge (l := l) (k := dRun l k + 1)
    have e : dRun l (dRun l k) = dRun l k := e
    omega
theorem while_go {test : Env → Sto → R Bool} {body : Env → Sto → RS} {S : Sto} {mk : Nat → Env} {k e : Nat} (step : ∀ j, k ≤ j → j < e → test (mk j) S = .ok true S ∧ body (mk j) S = .next (mk (j + 1)) S) (stop : test (mk e) S = .ok false S) : ∀ (n j : Nat), k ≤ j → j ≤ e → e - j < n → whileLoop test body n (mk j) S = .next (mk e) S
  | 0, _, _, _, h => absurd h (by omega)
  | n + 1, j, hk, hj, hn => by
    by_cases h : j = e
    · subst h
      rw [whileLoop, stop]
      simp only [R.st]
    · obtain ⟨h1, h2⟩ := step j hk (by omega)
      rw [whileLoop, h1]
      simp only [R.st, h2]
      exact while_go step stop n (j + 1) (by omega) (by omega) (by omega)
theorem fuel_big {n : Nat} (h : n ≤ 1000000) : n < fuel := Nat.lt_of_le_of_lt h (by decide)
theorem item_nat {α : Type} {l : List α} {k : Nat} : itemAt l (k : Int) = l[k]? := by
  unfold itemAt placeOf
  by_cases h : k < l.length
  · simp [h]
  · simp [h]
end MP
end
section
set_option Elab.async false
set_option linter.all false
set_option maxRecDepth 100000
/-! MPPoly: polynomials as rows of terms, dicts of terms, the order of rows. -/
namespace MP
open PySem
/-! ### the order of rows -/
theorem lexI_same : ∀ a : List Int, lexI a a = false
  | [] => rfl
  | x :: a => by rw [lexI, if_pos rfl]; exact lexI_same a
theorem lexI_trans : ∀ a b c : List Int, lexI a b = true → lexI b c = true → lexI a c = true
  | [], [], c, h, _ => by simp [lexI] at h
  | [], _ :: _, [], _, h => by simp [lexI] at h
  | [], _ :: _, _ :: _, _, _ => rfl
  | _ :: _, [], _, h, _ => by simp [lexI] at h
  | x :: a, y :: b, [], _, h => by simp [lexI] at h
  | x :: a, y :: b, z :: c, h1, h2 => by
    rw [lexI] at h1 h2 ⊢
    by_cases e1 : x = y
    · subst e1
      rw [if_pos rfl] at h1
      by_cases e2 : x = z
      · subst e2
        rw [if_pos rfl] at h2 ⊢
        exact lexI_trans a b c h1 h2
      · rw [if_neg e2] at h2 ⊢
        exact h2
    · rw [if_neg e1] at h1
      have h1 := of_decide_eq_true h1
      by_cases e2 : y = z
      · subst e2
        rw [if_neg e1]
        exact decide_eq_true h1
      · rw [if_neg e2] at h2
        have h2 := of_decide_eq_true h2
        rw [if_neg (by omega)]
        exact decide_eq_true (by omega)
theorem lexI_tri : ∀ a b : List Int, lexI a b = true ∨ a = b ∨ lexI b a = true
  | [], [] => .inr (.inl rfl)
  | [], _ :: _ => .inl rfl
  | _ :: _, [] => .inr (.inr rfl)
  | x :: a, y :: b => by
    rw [lexI, lexI]
    by_cases e : x = y
    · subst e
      rw [if_pos rfl, if_pos rfl]
      rcases lexI_tri a b with h | h | h
      · exact .inl h
      · exact .inr (.inl (by rw [h]))
      · exact .inr (.inr h)
    · rw [if_neg e, if_neg (fun z => e z.symm)]
      by_cases l : x < y
      · exact .inl (decide_eq_true l)
      · exact .inr (.inr (decide_eq_true (by omega)))
/-! ### sorted -/
def ascK (ks : List (List Int)) : Prop := ks.Pairwise fun a b => lexI a b = true
theorem ins_mem {x y : List Int} : ∀ {ks : List (List Int)}, y ∈ insL lexI x ks ↔ y = x ∨ y ∈ ks
  | [] => by simp [insL]
  | k :: ks => by
    unfold insL
    split
    · simp
    · rw [List.mem_cons, ins_mem (ks := ks), List.mem_cons]
      constructor
      · rintro (h | h | h)
        · exact .inr (.inl h)
        · exact .inl h
        · exact .inr (.inr h)
      · rintro (h | h | h)
        · exact .inr (.inl h)
        · exact .inl h
        · exact .inr (.inr h)
theorem ins_perm {x : List Int} : ∀ {ks : List (List Int)}, (insL lexI x ks).Perm (x :: ks)
  | [] => .refl _
  | k :: ks => by
    unfold insL
    split
    · exact .refl _
    · exact (List.Perm.cons k (ins_perm (ks := ks))).trans (.swap x k ks)
theorem ins_asc {x : List Int} : ∀ {ks : List (List Int)}, ascK ks → x ∉ ks → ascK (insL lexI x ks)
  | [], _, _ => List.pairwise_singleton _ _
  | k :: ks, h, n => by
    obtain ⟨h1, h2⟩ := List.pairwise_cons.mp h
    unfold insL
    split
    · rename_i hx
      exact List.pairwise_cons.mpr ⟨fun y m => (List.mem_cons.mp m).elim (fun e => by rw [e]; exact hx) (fun m => lexI_trans _ _ _ hx (h1 y m)), h⟩
    · rename_i hx
      have kx : lexI k x = true := by
        rcases lexI_tri k x with q | q | q
        · exact q
        · exact absurd (by rw [q]; exact List.mem_cons_self) n
        · exact absurd q hx
      exact List.pairwise_cons.mpr ⟨fun y m => (ins_mem.mp m).elim (fun e => by rw [e]; exact kx) (h1 y), ins_asc h2 fun m => n (List.mem_cons_of_mem _ m)⟩
theorem ins_top {x : List Int} : ∀ {ks : List (List Int)}, (∀ k ∈ ks, lexI k x = true) → insL lexI x ks = ks ++ [x]
  | [], _ => rfl
  | k :: ks, h => by
    have hk := h k List.mem_cons_self
    unfold insL
    rw [if_neg, ins_top fun y m => h y (List.mem_cons_of_mem _ m)]
    · rfl
    · intro q
      have := lexI_trans _ _ _ hk q
      rw [lexI_same] at this
      cases this
theorem sort_gen : ∀ (xs acc : List (List Int)), ascK acc → (xs ++ acc).Nodup → ascK (xs.foldl (fun acc x => insL lexI x acc) acc) ∧ (xs.foldl (fun acc x => insL lexI x acc) acc).Perm (xs ++ acc)
  | [], acc, h, _ => ⟨h, .refl _⟩
  | x :: xs, acc, h, n => by
    have n' : (xs ++ insL lexI x acc).Nodup := by
      have p : (xs ++ insL lexI x acc).Perm (x :: xs ++ acc) := (List.Perm.append_left xs ins_perm).trans List.perm_middle
      exact p.nodup_iff.mpr n
    have nx : x ∉ acc := by
      have z := (List.nodup_cons.mp n).1
      exact fun m => z (List.mem_append_right _ m)
    obtain ⟨a, p⟩ := sort_gen xs (insL lexI x acc) (ins_asc h nx) n'
    exact ⟨a, p.trans ((List.Perm.append_left xs ins_perm).trans List.perm_middle)⟩
theorem sort_asc {xs : List (List Int)} (n : xs.Nodup) : ascK (sortL lexI xs) := (sort_gen xs [] List.Pairwise.nil (by simpa using n)).1
theorem sort_perm {xs : List (List Int)} (n : xs.Nodup) : (sortL lexI xs).Perm xs := by
  have z := (sort_gen xs [] List.Pairwise.nil (by simpa using n)).2
  rw [List.append_nil] at z
  exact z
theorem sort_id_gen : ∀ (xs acc : List (List Int)), ascK (acc ++ xs) → xs.foldl (fun acc x => insL lexI x acc) acc = acc ++ xs
  | [], acc, _ => by simp
  | x :: xs, acc, h => by
    rw [List.foldl_cons, ins_top, sort_id_gen xs (acc ++ [x]) (by simpa using h)]
    · simp
    · intro k m
      exact (List.pairwise_append.mp h).2.2 k m x List.mem_cons_self
theorem sort_id {xs : List (List Int)} (h : ascK xs) : sortL lexI xs = xs := by
  exact sort_id_gen xs [] (by simpa using h)
/-! ### terms -/
abbrev Tm := List Int × Rat
def tm (t : Tm) : PV := .tup [rowPV t.1, fr t.2]
def pl (p : List Tm) : PV := .tup (p.map tm)
/-- the product of the powers -/
def mon : List Rat → List Int → Rat
  | a :: x, n :: e => a ^ n.toNat * mon x e
  | _, _ => 1
/-- a polynomial's value -/
def vp (x : List Rat) : List Tm → Rat
  | [] => 0
  | t :: p => t.2 * mon x t.1 + vp x p
theorem vp_app {x : List Rat} : ∀ {p q : List Tm}, vp x (p ++ q) = vp x p + vp x q
  | [], q => by show vp x q = 0 + vp x q; rw [Rat.zero_add]
  | t :: p, q => by
    show t.2 * mon x t.1 + vp x (p ++ q) = t.2 * mon x t.1 + vp x p + vp x q
    rw [vp_app, Rat.add_assoc]
theorem vp_perm {x : List Rat} {p q : List Tm} (h : p.Perm q) : vp x p = vp x q := by
  induction h with
  | nil => rfl
  | cons t _ ih => show _ + _ = _ + _; rw [ih]
  | swap s t p => show t.2 * mon x t.1 + (s.2 * mon x s.1 + vp x p) = s.2 * mon x s.1 + (t.2 * mon x t.1 + vp x p); grind
  | trans _ _ h1 h2 => exact h1.trans h2
/-! ### a dict of terms -/
def keys (d : List Tm) : List (List Int) := d.map (·.1)
def kv (d : List Tm) : List (List Int × PV) := d.map fun t => (t.1, fr t.2)
def getQ (d : List Tm) (e : List Int) : Option Rat := (d.find? fun t => decide (t.1 = e)).map (·.2)
def getT (d : List Tm) (e : List Int) : Rat := (getQ d e).getD 0
def putT (d : List Tm) (e : List Int) (c : Rat) : List Tm := if (d.any fun t => decide (t.1 = e)) = true then d.map (fun t => if t.1 = e then (t.1, c) else t) else d ++ [(e, c)]
theorem valK_kv {d : List Tm} {e : List Int} : valK (kv d) e = (getQ d e).map fr := by
  unfold valK kv getQ
  induction d with
  | nil => rfl
  | cons t d ih =>
    rw [List.map_cons, List.find?_cons, List.find?_cons]
    by_cases h : t.1 = e
    · simp [h]
    · simp only [h, decide_false]
      exact ih
theorem putK_kv {d : List Tm} {e : List Int} {c : Rat} : putK (kv d) e (fr c) = kv (putT d e c) := by
  unfold putK putT kv
  rw [List.any_map]
  have hc : (d.any ((fun kv : List Int × PV => decide (kv.1 = e)) ∘ fun t : Tm => (t.1, fr t.2))) = d.any fun t => decide (t.1 = e) := rfl
  rw [hc]
  split
  · rw [List.map_map, List.map_map]
    apply List.map_congr_left
    intro t _
    show (if t.1 = e then (t.1, fr c) else (t.1, fr t.2)) = ((if t.1 = e then (t.1, c) else t).1, fr (if t.1 = e then (t.1, c) else t).2)
    by_cases h : t.1 = e
    · rw [if_pos h, if_pos h]
    · rw [if_neg h, if_neg h]
  · rw [List.map_append]; rfl
theorem kv_keys {d : List Tm} : (kv d).map (·.1) = keys d := by
  unfold kv keys
  rw [List.map_map]
  rfl
theorem put_keys {d : List Tm} {e : List Int} {c : Rat} : keys (putT d e c) = if e ∈ keys d then keys d else keys d ++ [e] := by
  have hm : (d.any fun t => decide (t.1 = e)) = true ↔ e ∈ keys d := by
    unfold keys
    rw [List.any_eq_true, List.mem_map]
    constructor
    · rintro ⟨t, m, h⟩
      exact ⟨t, m, of_decide_eq_true h⟩
    · rintro ⟨t, m, h⟩
      exact ⟨t, m, decide_eq_true h⟩
  unfold putT
  by_cases h : e ∈ keys d
  · rw [if_pos (hm.mpr h), if_pos h]
    unfold keys
    rw [List.map_map]
    apply List.map_congr_left
    intro t _
    show (if t.1 = e then (t.1, c) else t).1 = t.1
    split <;> rfl
  · rw [if_neg (fun z => h (hm.mp z)), if_neg h]
    unfold keys
    rw [List.map_append]
    rfl
theorem put_nodup {d : List Tm} {e : List Int} {c : Rat} (n : (keys d).Nodup) : (keys (putT d e c)).Nodup := by
  rw [put_keys]
  split
  · exact n
  · rename_i h
    rw [List.nodup_append]
    exact ⟨n, by simp, fun a ha b hb => by
      rw [List.mem_singleton.mp hb]
      intro z
      exact h (z ▸ ha)⟩
theorem get_nil {e : List Int} : getQ [] e = none := rfl
theorem get_cons {t : Tm} {d : List Tm} {e : List Int} : getQ (t :: d) e = if t.1 = e then some t.2 else getQ d e := by
  unfold getQ
  rw [List.find?_cons]
  by_cases h : t.1 = e
  · simp [h]
  · simp [h]
theorem get_out {e : List Int} : ∀ {d : List Tm}, e ∉ keys d → getQ d e = none
  | [], _ => rfl
  | t :: d, h => by
    rw [get_cons, if_neg (fun z => h (by unfold keys; rw [List.map_cons, z]; exact List.mem_cons_self)), get_out fun m => h (List.mem_cons_of_mem _ m)]
theorem get_in {e : List Int} : ∀ {d : List Tm}, e ∈ keys d → ∃ c, getQ d e = some c ∧ (e, c) ∈ d
  | t :: d, h => by
    rw [get_cons]
    by_cases z : t.1 = e
    · exact ⟨t.2, if_pos z, by rw [← z]; exact List.mem_cons_self⟩
    · rw [if_neg z]
      obtain ⟨c, h1, h2⟩ := get_in (d := d) ((List.mem_cons.mp h).resolve_left fun q => z q.symm)
      exact ⟨c, h1, List.mem_cons_of_mem _ h2⟩
theorem get_app {e e' : List Int} {c : Rat} : ∀ {d : List Tm}, getQ (d ++ [(e, c)]) e' = (getQ d e').or (if e = e' then some c else none)
  | [] => by
    show getQ [(e, c)] e' = _
    rw [get_cons, get_nil]
    simp [getQ]
  | t :: d => by
    show getQ (t :: (d ++ [(e, c)])) e' = _
    rw [get_cons, get_cons, get_app]
    split <;> simp
theorem get_map {e e' : List Int} {c : Rat} : ∀ {d : List Tm}, getQ (d.map fun t => if t.1 = e then (t.1, c) else t) e' = if e' = e ∧ e ∈ keys d then some c else getQ d e'
  | [] => by simp [keys, getQ]
  | t :: d => by
    rw [List.map_cons, get_cons, get_cons, get_map]
    unfold keys
    rw [List.map_cons]
    by_cases h : t.1 = e
    · subst h
      simp only [if_true]
      by_cases h2 : t.1 = e'
      · subst h2; simp
      · have h3 : ¬ e' = t.1 := fun z => h2 z.symm
        simp [h2, h3]
    · simp only [h, if_false]
      by_cases h2 : t.1 = e'
      · subst h2
        simp [h]
      · have h4 : ¬ e = t.1 := fun z => h z.symm
        simp only [h2, if_false, List.mem_cons, h4, false_or]
theorem get_put {d : List Tm} {e e' : List Int} {c : Rat} : getQ (putT d e c) e' = if e' = e then some c else getQ d e' := by
  unfold putT
  have hm : (d.any fun t => decide (t.1 = e)) = true ↔ e ∈ keys d := by
    unfold keys
    rw [List.any_eq_true, List.mem_map]
    exact ⟨fun ⟨t, m, h⟩ => ⟨t, m, of_decide_eq_true h⟩, fun ⟨t, m, h⟩ => ⟨t, m, decide_eq_true h⟩⟩
  by_cases h : e ∈ keys d
  · rw [if_pos (hm.mpr h), get_map]
    by_cases z : e' = e
    · rw [if_pos ⟨z, h⟩, if_pos z]
    · rw [if_neg (fun q => z q.1), if_neg z]
  · rw [if_neg (fun z => h (hm.mp z)), get_app]
    by_cases z : e' = e
    · subst z
      rw [get_out h, if_pos rfl]; simp
    · rw [if_neg (fun q => z q.symm), if_neg z]
      cases getQ d e' <;> rfl
/-- a dict, told by its keys -/
theorem dict_self : ∀ {d : List Tm}, (keys d).Nodup → d = (keys d).map fun k => (k, getT d k)
  | [], _ => rfl
  | t :: d, n => by
    obtain ⟨n1, n2⟩ := List.nodup_cons.mp n
    have ih := dict_self n2
    show t :: d = (t.1, getT (t :: d) t.1) :: (keys d).map fun k => (k, getT (t :: d) k)
    have e1 : getT (t :: d) t.1 = t.2 := by unfold getT; rw [get_cons, if_pos rfl]; rfl
    rw [e1]
    congr 1
    refine ih.trans ?_
    apply List.map_congr_left
    intro k m
    have : ¬ t.1 = k := fun z => n1 (by show t.1 ∈ keys d; rw [z]; exact m)
    unfold getT
    rw [get_cons, if_neg this]
theorem vp_put {x : List Rat} {d : List Tm} {e : List Int} {c : Rat} (n : (keys d).Nodup) : vp x (putT d e c) = vp x d + (c - getT d e) * mon x e := by
  unfold putT
  have hm : (d.any fun t => decide (t.1 = e)) = true ↔ e ∈ keys d := by
    unfold keys
    rw [List.any_eq_true, List.mem_map]
    exact ⟨fun ⟨t, m, h⟩ => ⟨t, m, of_decide_eq_true h⟩, fun ⟨t, m, h⟩ => ⟨t, m, decide_eq_true h⟩⟩
  by_cases h : e ∈ keys d
  · rw [if_pos (hm.mpr h)]
    clear hm
    induction d with
    | nil => cases h
    | cons t d ih =>
      obtain ⟨n1, n2⟩ := List.nodup_cons.mp n
      rw [List.map_cons]
      show (if t.1 = e then (t.1, c) else t).2 * mon x (if t.1 = e then (t.1, c) else t).1 + vp x _ = t.2 * mon x t.1 + vp x d + _
      by_cases z : t.1 = e
      · have same : (d.map fun t => if t.1 = e then (t.1, c) else t) = d := by
          refine (List.map_congr_left (g := id) fun s m => ?_).trans (List.map_id d)
          rw [if_neg]
          · rfl
          · intro q
            exact n1 (by show t.1 ∈ keys d; rw [z, ← q]; exact List.mem_map_of_mem m)
        rw [if_pos z, same]
        have g : getT (t :: d) e = t.2 := by unfold getT; rw [get_cons, if_pos z]; rfl
        rw [g, z]
        show c * mon x e + vp x d = _
        grind
      · rw [if_neg z, ih n2 ((List.mem_cons.mp h).resolve_left fun q => z q.symm)]
        have g : getT (t :: d) e = getT d e := by unfold getT; rw [get_cons, if_neg z]
        rw [g, Rat.add_assoc]
  · rw [if_neg (fun z => h (hm.mp z)), vp_app]
    have g : getT d e = 0 := by unfold getT; rw [get_out h]; rfl
    rw [g]
    show vp x d + (c * mon x e + 0) = _
    grind
/-- the polynomial of a dict -/
def fromT (d : List Tm) : List Tm := ((sortL lexI (keys d)).map fun k => (k, getT d k)).filter fun t => decide (t.2 ≠ 0)
theorem vp_filter {x : List Rat} : ∀ {p : List Tm}, vp x (p.filter fun t => decide (t.2 ≠ 0)) = vp x p
  | [] => rfl
  | t :: p => by
    rw [List.filter_cons]
    split
    · show _ + _ = _ + _; rw [vp_filter]
    · rename_i h
      have h : t.2 = 0 := by simpa using h
      rw [vp_filter]
      show vp x p = t.2 * mon x t.1 + vp x p
      rw [h, Rat.zero_mul, Rat.zero_add]
theorem vp_from {x : List Rat} {d : List Tm} (n : (keys d).Nodup) : vp x (fromT d) = vp x d := by
  unfold fromT
  rw [vp_filter]
  refine (vp_perm ((sort_perm n).map _)).trans ?_
  rw [← dict_self n]
end MP
end
section
set_option Elab.async false
set_option linter.all false
set_option maxRecDepth 100000
/-! MPX: the rules of MP's runs as rules for simp; sizes of rational numbers; loops as folds. -/
namespace MP
open PySem
section
variable {C : Nat → List PV → Sto → R PV} {b : Nat} {σ : Env} {S : Sto}
/-! ### expressions -/
def boolK {α : Type} (v : PV) (x y : R α) : R α := match v with
  | .bl true => x
  | .bl false => y
  | _ => .bad
@[simp] theorem boolK_bl {α : Type} {c : Bool} {x y : R α} : boolK (.bl c) x y = if c = true then x else y := by cases c <;> simp [boolK]
def iteK {α : Type} (c : Bool) (x y : α) : α := if c = true then x else y
@[simp] theorem bd_ite {α β : Type} {p : Prop} [Decidable p] {x y : R α} {f : α → Sto → R β} : (if p then x else y).bd f = if p then x.bd f else y.bd f := by split <;> rfl
@[simp] theorem st_ite {α : Type} {p : Prop} [Decidable p] {x y : R α} {f : α → Sto → RS} : (if p then x else y).st σ f = if p then x.st σ f else y.st σ f := by split <;> rfl
@[simp] theorem seq_ite {p : Prop} [Decidable p] {x y : RS} {f : Env → Sto → RS} : (if p then x else y).seq f = if p then x.seq f else y.seq f := by split <;> rfl
@[simp] theorem xbd_ok {α β : Type} {a : α} {f : α → Sto → R β} : (R.ok a S).bd f = f a S := bd_ok
@[simp] theorem xbd_exc {α β : Type} {c : Nat} {as : List PV} {f : α → Sto → R β} : (R.exc c as S).bd f = .exc c as S := bd_exc
@[simp] theorem xst_ok {α : Type} {a : α} {f : α → Sto → RS} : (R.ok a S).st σ f = f a S := st_ok
@[simp] theorem xst_exc {α : Type} {c : Nat} {as : List PV} {f : α → Sto → RS} : (R.exc c as S).st σ f = .exc c as σ S := st_exc
@[simp] theorem xopt_some {α : Type} {a : α} : opt (some a) S = .ok a S := opt_some
@[simp] theorem opt_ite {α : Type} {p : Prop} [Decidable p] {x y : Option α} : opt (if p then x else y) S = if p then opt x S else opt y S := by split <;> rfl
@[simp] theorem ev_var {i : Nat} : ev C b (.var i) σ S = match σ[i]? with
    | some (some v) => .ok v S
    | _ => .bad := by rw [ev]; first | done | rfl
@[simp] theorem ev_cst {v : PV} : ev C b (.cst v) σ S = .ok v S := by rw [ev]
@[simp] theorem ev_tup {es : Es} : ev C b (.tup es) σ S = (evs C b es σ S).bd fun vs S1 => .ok (.tup vs) S1 := by rw [ev]
@[simp] theorem ev_lst {es : Es} : ev C b (.lst es) σ S = (evs C b es σ S).bd fun vs S1 => .ok (.lst vs) S1 := by rw [ev]
@[simp] theorem ev_bin {o : Op} {x y : E} : ev C b (.bin o x y) σ S = (ev C b x σ S).bd fun v S1 => (ev C b y σ S1).bd fun u S2 => opt (opV S2 o v u) S2 := by rw [ev]
@[simp] theorem ev_neg {x : E} : ev C b (.neg x) σ S = (ev C b x σ S).bd fun v S1 => match v with
    | .int i => .ok (.int (-i)) S1
    | _ => .bad := by rw [ev]; first | done | rfl
@[simp] theorem ev_not {x : E} : ev C b (.not x) σ S = (ev C b x σ S).bd fun v S1 => (opt (truV S1 v) S1).bd fun c S2 => .ok (.bl (!c)) S2 := by rw [ev]
@[simp] theorem ev_and {x y : E} : ev C b (.and x y) σ S = (ev C b x σ S).bd fun v S1 => boolK v (ev C b y σ S1) (.ok (.bl false) S1) := by
  rw [ev]
  congr
@[simp] theorem ev_or {x y : E} : ev C b (.or x y) σ S = (ev C b x σ S).bd fun v S1 => boolK v (.ok (.bl true) S1) (ev C b y σ S1) := by
  rw [ev]
  congr
@[simp] theorem ev_cmp {o : Cm} {x y : E} : ev C b (.cmp o x y) σ S = (ev C b x σ S).bd fun v S1 => (ev C b y σ S1).bd fun u S2 => (opt (cmV S2 o v u) S2).bd fun c S3 => .ok (.bl c) S3 := by rw [ev]
theorem mbool {α : Type} {c : Bool} {x y : α} : (match c with
    | true => x
    | false => y) = if c = true then x else y := by cases c <;> rfl
@[simp] theorem ev_chain {o o' : Cm} {x y z : E} : ev C b (.chain o o' x y z) σ S = (ev C b x σ S).bd fun v S1 => (ev C b y σ S1).bd fun u S2 => (opt (cmV S2 o v u) S2).bd fun c S3 => if c = true then (ev C b z σ S3).bd fun w S4 => (opt (cmV S4 o' u w) S4).bd fun d S5 => .ok (.bl d) S5 else .ok (.bl false) S3 := by
  rw [ev]
  congr 1; funext v S1; congr 1; funext u S2; congr 1; funext d S3
  cases d <;> rfl
@[simp] theorem ev_ife {c x y : E} : ev C b (.ife c x y) σ S = (evT C b c σ S).bd fun d S1 => if d = true then ev C b x σ S1 else ev C b y σ S1 := by
  rw [ev]
  congr 1; funext d S1
  cases d <;> rfl
@[simp] theorem ev_ix {x y : E} : ev C b (.ix x y) σ S = (ev C b x σ S).bd fun v S1 => (ev C b y σ S1).bd fun u S2 => opt (ixV S2 v u) S2 := by rw [ev]
@[simp] theorem ev_slc {x : E} {lo hi : Eo} : ev C b (.slc x lo hi) σ S = (ev C b x σ S).bd fun v S1 => (evo C b lo σ S1).bd fun l S2 => (evo C b hi σ S2).bd fun h S3 => opt (slV S3 v l h) S3 := by rw [ev]
@[simp] theorem ev_call {f : Nat} {es : Es} : ev C b (.call f es) σ S = (evs C b es σ S).bd fun vs S1 => C f vs S1 := by rw [ev]
@[simp] theorem ev_bi {f : Bi} {es : Es} : ev C b (.bi f es) σ S = (evs C b es σ S).bd fun vs S1 => opt (biV S1 f vs) S1 := by rw [ev]
@[simp] theorem ev_isi {x : E} {t : Ty} : ev C b (.isi x t) σ S = (ev C b x σ S).bd fun v S1 => (opt (isTy v t) S1).bd fun c S2 => .ok (.bl c) S2 := by rw [ev]
@[simp] theorem ev_eat {i j : Nat} : ev C b (.eat i j) σ S = match σ[i]? with
    | some (some (.tup (_ :: as))) => opt as[j]? S
    | _ => .bad := by rw [ev]; first | done | rfl
@[simp] theorem ev_eisi {i : Nat} : ev C b (.eisi i) σ S = match σ[i]? with
    | some (some (.tup (_ :: _))) => .ok (.bl true) S
    | _ => .bad := by rw [ev]; first | done | rfl
@[simp] theorem ev_new {e : E} : ev C b (.new e) σ S = (ev C b e σ S).bd thaw := by rw [ev]
@[simp] theorem ev_frz {e : E} : ev C b (.frz e) σ S = (ev C b e σ S).bd freeze := by rw [ev]
@[simp] theorem ev_att {e : E} {ps : List (Nat × Nat)} : ev C b (.att e ps) σ S = (ev C b e σ S).bd fun v S1 => opt (attV S1 v ps) S1 := by rw [ev]
@[simp] theorem ev_meth {f : Nat} {cs : List Nat} {e : E} {es : Es} : ev C b (.meth f cs e es) σ S = (ev C b e σ S).bd fun v S1 => if ((clsV S1 v).any fun c => cs.contains c) then (evs C b es σ S1).bd fun vs S2 => C f (v :: vs) S2 else .bad := by rw [ev]
@[simp] theorem ev_mk {f c : Nat} {fr : Bool} {es : Es} : ev C b (.mk f c fr es) σ S = (evs C b es σ S).bd fun vs S1 => (C f (.ref S1.len :: vs) (S1.push (.ins c []))).bd fun v S2 => made S1.len fr v S2 := by rw [ev]
@[simp] theorem ev_isr {e : E} {c : Nat} : ev C b (.isr e c) σ S = (ev C b e σ S).bd fun v S1 => (opt (clsV S1 v) S1).bd fun d S2 => .ok (.bl (decide (d = c))) S2 := by rw [ev]
@[simp] theorem ev_dnew {t : Bool} : ev C b (.dnew t) σ S = .ok (.ref S.len) (S.push (if t then .dT [] else .dK [])) := by rw [ev]
@[simp] theorem ev_dget {d k x : E} : ev C b (.dget d k x) σ S = (ev C b d σ S).bd fun v S1 => (dictAt v S1).bd fun j S1 => (ev C b k σ S1).bd fun y S2 => (ev C b x σ S2).bd fun z S3 => (opt (dAsk S3 j y) S3).bd fun o S4 => .ok (o.getD z) S4 := by rw [ev]
@[simp] theorem ev_sdef {d k x : E} : ev C b (.sdef d k x) σ S = (ev C b d σ S).bd fun v S1 => (dictAt v S1).bd fun j S1 => (ev C b k σ S1).bd fun y S2 => (ev C b x σ S2).bd fun z S3 => sdefR S3 b j y z := by rw [ev]
@[simp] theorem ev_disp {ks : List PV} {es : Es} : ev C b (.disp ks es) σ S = (evs C b es σ S).bd fun vs S1 => (opt (dispK ks vs) S1).bd fun kvs S2 => .ok (.ref S2.len) (S2.push (.dK kvs)) := by rw [ev]
@[simp] theorem ev_maxD {e d : E} : ev C b (.maxD e d) σ S = (ev C b e σ S).bd fun v S1 => (ev C b d σ S1).bd fun u S2 => opt (maxDV S2 v u) S2 := by rw [ev]
@[simp] theorem evs_nil : evs C b .nil σ S = .ok [] S := by rw [evs]
@[simp] theorem evs_cons {e : E} {es : Es} : evs C b (.cons e es) σ S = (ev C b e σ S).bd fun v S1 => (evs C b es σ S1).bd fun vs S2 => .ok (v :: vs) S2 := by rw [evs]
@[simp] theorem evo_none : evo C b .none σ S = .ok none S := by rw [evo]
@[simp] theorem evo_some {e : E} : evo C b (.some e) σ S = (ev C b e σ S).bd fun v S1 => match v with
    | .int i => .ok (some i) S1
    | _ => .bad := by rw [evo]; first | done | rfl
@[simp] theorem xevc_none : evc C b .none σ S = .ok true S := evc_none
@[simp] theorem xevc_some {e : E} : evc C b (.some e) σ S = evT C b e σ S := evc_some
@[simp] theorem evi_seq {e : E} : evi C b (.seq e) σ S = (ev C b e σ S).bd fun v S1 => opt (walkV S1 v) S1 := by rw [evi]
@[simp] theorem evi_zip {x y : E} : evi C b (.zip x y) σ S = (ev C b x σ S).bd fun v S1 => (ev C b y σ S1).bd fun u S2 => opt (zipV S2 v u) S2 := by rw [evi]
@[simp] theorem evi_enum {e : E} : evi C b (.enum e) σ S = (ev C b e σ S).bd fun v S1 => opt (enumV S1 v) S1 := by rw [evi]
/-! ### tests -/
@[simp] theorem evT_not {x : E} : evT C b (.not x) σ S = (evT C b x σ S).bd fun c S1 => .ok (!c) S1 := by rw [evT]
@[simp] theorem evT_and {x y : E} : evT C b (.and x y) σ S = (evT C b x σ S).bd fun c S1 => if c = true then evT C b y σ S1 else .ok false S1 := by
  rw [evT]
  congr 1; funext d S1
  cases d <;> rfl
@[simp] theorem evT_or {x y : E} : evT C b (.or x y) σ S = (evT C b x σ S).bd fun c S1 => if c = true then .ok true S1 else evT C b y σ S1 := by
  rw [evT]
  congr 1; funext d S1
  cases d <;> rfl
@[simp] theorem evT_cmp {o : Cm} {x y : E} : evT C b (.cmp o x y) σ S = (ev C b x σ S).bd fun v S1 => (ev C b y σ S1).bd fun u S2 => opt (cmV S2 o v u) S2 := by rw [evT]
@[simp] theorem evT_chain {o o' : Cm} {x y z : E} : evT C b (.chain o o' x y z) σ S = (ev C b x σ S).bd fun v S1 => (ev C b y σ S1).bd fun u S2 => (opt (cmV S2 o v u) S2).bd fun c S3 => if c = true then (ev C b z σ S3).bd fun w S4 => opt (cmV S4 o' u w) S4 else .ok false S3 := by
  rw [evT]
  congr 1; funext v S1; congr 1; funext u S2; congr 1; funext d S3
  cases d <;> rfl
@[simp] theorem evT_var {i : Nat} : evT C b (.var i) σ S = match σ[i]? with
    | some (some v) => opt (truV S v) S
    | _ => .bad := by rw [evT]; first | done | rfl
@[simp] theorem evT_ix {x y : E} : evT C b (.ix x y) σ S = (ev C b x σ S).bd fun v S1 => (ev C b y σ S1).bd fun u S2 => (opt (ixV S2 v u) S2).bd fun z S3 => opt (truV S3 z) S3 := by rw [evT]
@[simp] theorem evT_call {f : Nat} {es : Es} : evT C b (.call f es) σ S = ((evs C b es σ S).bd fun vs S1 => C f vs S1).bd fun z S3 => opt (truV S3 z) S3 := by rw [evT]
@[simp] theorem evT_bi {f : Bi} {es : Es} : evT C b (.bi f es) σ S = ((evs C b es σ S).bd fun vs S1 => opt (biV S1 f vs) S1).bd fun z S3 => opt (truV S3 z) S3 := by rw [evT]
@[simp] theorem evT_isi {x : E} {t : Ty} : evT C b (.isi x t) σ S = (ev C b x σ S).bd fun v S1 => opt (isTy v t) S1 := by rw [evT]
@[simp] theorem evT_eisi {i : Nat} : evT C b (.eisi i) σ S = match σ[i]? with
    | some (some (.tup (_ :: _))) => .ok true S
    | _ => .bad := by rw [evT]; first | done | rfl
@[simp] theorem evT_att {e : E} {ps : List (Nat × Nat)} : evT C b (.att e ps) σ S = ((ev C b e σ S).bd fun v S1 => opt (attV S1 v ps) S1).bd fun z S3 => opt (truV S3 z) S3 := by rw [evT]
@[simp] theorem evT_isr {e : E} {c : Nat} : evT C b (.isr e c) σ S = (ev C b e σ S).bd fun v S1 => (opt (clsV S1 v) S1).bd fun d S2 => .ok (decide (d = c)) S2 := by rw [evT]
@[simp] theorem evT_meth {f : Nat} {cs : List Nat} {e : E} {es : Es} : evT C b (.meth f cs e es) σ S = ((ev C b e σ S).bd fun v S1 => if ((clsV S1 v).any fun c => cs.contains c) then (evs C b es σ S1).bd fun vs S2 => C f (v :: vs) S2 else .bad).bd fun z S3 => opt (truV S3 z) S3 := by rw [evT]
/-! ### statements -/
@[simp] theorem xst_asg {t : Tg} {e : E} : xst C b (.asg (.of t) e) σ S = (ev C b e σ S).st σ fun v S1 => match bindT t v σ with
    | some σ1 => .next σ1 S1
    | none => .bad := by rw [xst]; first | done | rfl
@[simp] theorem xst_sub {x i e : E} : xst C b (.asg (.sub x i) e) σ S = (ev C b e σ S).st σ fun v S1 => (ev C b x σ S1).st σ fun o S2 => (ev C b i σ S2).st σ fun k S3 => subR b σ o k v S3 := by rw [xst]
@[simp] theorem xst_att {x e : E} {ps : List (Nat × Nat)} : xst C b (.asg (.att x ps) e) σ S = (ev C b e σ S).st σ fun v S1 => (ev C b x σ S1).st σ fun o S2 => attR b σ o ps v S2 := by rw [xst]
@[simp] theorem xst_par {i j : Nat} {x y : E} : xst C b (.par i j x y) σ S = (ev C b x σ S).st σ fun v S1 => (ev C b y σ S1).st σ fun u S2 => .next ((σ.set i (some v)).set j (some u)) S2 := by rw [xst]
@[simp] theorem xst_aug {i : Nat} {e : E} : xst C b (.aug i .add e) σ S = match σ[i]? with
    | some (some x) => (ev C b e σ S).st σ fun v S1 => match x, v with
      | .int a, .int c => .next (σ.set i (some (.int (a + c)))) S1
      | _, _ => .bad
    | _ => .bad := by
  rw [xst]
  rcases h : σ[i]? with _ | _ | x
  · rfl
  · rfl
  · show (ev C b e σ S).st σ _ = (ev C b e σ S).st σ _
    congr 1
    funext v S1
    cases x <;> cases v <;> rfl
@[simp] theorem xst_expr {e : E} : xst C b (.expr e) σ S = (ev C b e σ S).st σ fun _ S1 => .next σ S1 := by rw [xst]
@[simp] theorem xst_append {x e : E} : xst C b (.append x e) σ S = (ev C b x σ S).st σ fun o S1 => match o with
    | .ref a => match S1.cells[a]? with
      | some (.lst _) => (ev C b e σ S1).st σ fun v S2 => match S2.cells[a]? with
        | some (.lst xs) => if xs.length < lenMax then .next σ (S2.wr b a (.lst (xs ++ [v])) v.pure) else .bad
        | _ => .bad
      | _ => .bad
    | _ => .bad := by rw [xst]; first | done | rfl
@[simp] theorem xst_ifs {c : E} {p q : Ss} : xst C b (.ifs c p q) σ S = (evT C b c σ S).st σ fun d S1 => if d = true then xss C b p σ S1 else xss C b q σ S1 := by
  rw [xst]
  congr 1; funext d S1
  cases d <;> rfl
@[simp] theorem xst_ret {e : E} : xst C b (.ret e) σ S = (ev C b e σ S).st σ fun v S1 => .ret v S1 := by rw [xst]
@[simp] theorem xst_retN : xst C b .retN σ S = .ret .non S := by rw [xst]
@[simp] theorem xst_raise {c : Nat} {es : Es} : xst C b (.raise c es) σ S = (evs C b es σ S).st σ fun vs S1 => .exc c vs σ S1 := by rw [xst]
@[simp] theorem xst_tryo {p h : Ss} {c : Nat} {i : Option Nat} : xst C b (.tryo p c i h) σ S = caught c i (xss C b h) (xss C b p σ S) := by rw [xst]
@[simp] theorem xst_pass : xst C b .pass σ S = .next σ S := by rw [xst]
@[simp] theorem xst_brk : xst C b .brk σ S = .brk σ S := by rw [xst]
@[simp] theorem xst_cont : xst C b .cont σ S = .cont σ S := by rw [xst]
@[simp] theorem zss_cons {s : St} {ss : Ss} : xss C b (.cons s ss) σ S = (xst C b s σ S).seq (xss C b ss) := xss_cons
@[simp] theorem zss_nil : xss C b .nil σ S = .next σ S := xss_nil
@[simp] theorem zseq_next {f : Env → Sto → RS} : (RS.next σ S).seq f = f σ S := seq_next
@[simp] theorem zseq_ret {v : PV} {f : Env → Sto → RS} : (RS.ret v S).seq f = .ret v S := seq_ret
@[simp] theorem zseq_brk {f : Env → Sto → RS} : (RS.brk σ S).seq f = .brk σ S := seq_brk
@[simp] theorem zseq_cont {f : Env → Sto → RS} : (RS.cont σ S).seq f = .cont σ S := seq_cont
@[simp] theorem zseq_exc {c : Nat} {as : List PV} {f : Env → Sto → RS} : (RS.exc c as σ S).seq f = .exc c as σ S := seq_exc
@[simp] theorem bindT_name {i : Nat} {v : PV} : bindT (.name i) v σ = some (σ.set i (some v)) := by rw [bindT]
@[simp] theorem bindT_tup {ts : Tgs} {xs : List PV} : bindT (.tup ts) (.tup xs) σ = bindTs ts xs σ := by rw [bindT]
@[simp] theorem bindT_lst {ts : Tgs} {xs : List PV} : bindT (.tup ts) (.lst xs) σ = bindTs ts xs σ := by rw [bindT]
@[simp] theorem bindTs_nil : bindTs .nil [] σ = some σ := by rw [bindTs]
@[simp] theorem bindTs_cons {t : Tg} {ts : Tgs} {x : PV} {xs : List PV} : bindTs (.cons t ts) (x :: xs) σ = match bindT t x σ with
    | some σ' => bindTs ts xs σ'
    | none => none := by rw [bindTs]; first | done | rfl
@[simp] theorem caught_next {c : Nat} {i : Option Nat} {h : Env → Sto → RS} : caught c i h (.next σ S) = .next σ S := rfl
@[simp] theorem caught_ret {c : Nat} {i : Option Nat} {h : Env → Sto → RS} {v : PV} : caught c i h (.ret v S) = .ret v S := rfl
@[simp] theorem caught_brk {c : Nat} {i : Option Nat} {h : Env → Sto → RS} : caught c i h (.brk σ S) = .brk σ S := rfl
@[simp] theorem caught_cont {c : Nat} {i : Option Nat} {h : Env → Sto → RS} : caught c i h (.cont σ S) = .cont σ S := rfl
@[simp] theorem caught_x {c d : Nat} {i : Option Nat} {h : Env → Sto → RS} {as : List PV} : caught c i h (.exc d as σ S) = if d = c then (if holdOk σ i then unslot i (h (hold c as σ i) S) else .bad) else .exc d as σ S := by unfold caught; rfl
@[simp] theorem hold_none {c : Nat} {as : List PV} : hold c as σ none = σ := by unfold hold; rfl
@[simp] theorem hold_some {c k : Nat} {as : List PV} : hold c as σ (some k) = σ.set k (some (.tup (.int (c : Int) :: as))) := by unfold hold; rfl
@[simp] theorem holdOk_none : holdOk σ none = true := by unfold holdOk; rfl
@[simp] theorem holdOk_some {k : Nat} : holdOk σ (some k) = decide (k < σ.length) := by unfold holdOk; rfl
@[simp] theorem unslot_next {i : Option Nat} : unslot i (.next σ S) = .next (unhold σ i) S := by unfold unslot; rfl
@[simp] theorem unslot_ret {i : Option Nat} {v : PV} : unslot i (.ret v S) = .ret v S := by unfold unslot; rfl
@[simp] theorem unslot_brk {i : Option Nat} : unslot i (.brk σ S) = .brk (unhold σ i) S := by unfold unslot; rfl
@[simp] theorem unslot_cont {i : Option Nat} : unslot i (.cont σ S) = .cont (unhold σ i) S := by unfold unslot; rfl
@[simp] theorem unhold_none : unhold σ none = σ := by unfold unhold; rfl
@[simp] theorem unhold_some {k : Nat} : unhold σ (some k) = σ.set k none := by unfold unhold; rfl
/-! ### operators -/
variable {i j : Int} {x y : PV} {xs ys : List PV}
@[simp] theorem zix_tup : ixV S (.tup xs) (.int i) = itemAt xs i := ix_tup
@[simp] theorem zix_lst : ixV S (.lst xs) (.int i) = itemAt xs i := ix_lst
@[simp] theorem itemAt_0 {α : Type} {x : α} {xs : List α} : itemAt (x :: xs) 0 = some x := by simp [itemAt, placeOf]
@[simp] theorem itemAt_1 {α : Type} {x y : α} {xs : List α} : itemAt (x :: y :: xs) 1 = some y := by
  have : (1 : Int) < (xs.length : Int) + 1 + 1 := by omega
  simp [itemAt, placeOf, this]
@[simp] theorem itemAt_2 {α : Type} {x y z : α} {xs : List α} : itemAt (x :: y :: z :: xs) 2 = some z := by
  have : (2 : Int) < (xs.length : Int) + 1 + 1 + 1 := by omega
  simp [itemAt, placeOf, this]
@[simp] theorem itemAt_3 {α : Type} {x y z w : α} {xs : List α} : itemAt (x :: y :: z :: w :: xs) 3 = some w := by
  have : (3 : Int) < (xs.length : Int) + 1 + 1 + 1 + 1 := by omega
  simp [itemAt, placeOf, this]
@[simp] theorem itemAt_4 {α : Type} {x y z w v : α} {xs : List α} : itemAt (x :: y :: z :: w :: v :: xs) 4 = some v := by
  have : (4 : Int) < (xs.length : Int) + 1 + 1 + 1 + 1 + 1 := by omega
  simp [itemAt, placeOf, this]
@[simp] theorem itemAt_snoc {α : Type} {x : α} {xs : List α} : itemAt (xs ++ [x]) (-1) = some x := by
  have : -1 + ((xs.length : Int) + 1) = xs.length := by omega
  have h2 : (1 : Int) ≤ (xs.length : Int) + 1 := by omega
  simp [itemAt, placeOf, this, h2]
theorem itemAt_nat {α : Type} {xs : List α} {n : Nat} : itemAt xs (n : Int) = xs[n]? := by
  unfold itemAt placeOf
  rw [if_pos (Int.natCast_nonneg n)]
  by_cases h : n < xs.length
  · rw [if_pos (by omega)]
    rfl
  · rw [if_neg (by omega), List.getElem?_eq_none (by omega)]
    rfl
@[simp] theorem zcm_eq : cmV S .eq x y = eqV S x y := cm_eq
@[simp] theorem zcm_ne : cmV S .ne x y = (eqV S x y).map (!·) := cm_ne
@[simp] theorem zcm_lt : cmV S .lt (.int i) (.int j) = some (decide (i < j)) := cm_lt
@[simp] theorem zcm_le : cmV S .le (.int i) (.int j) = some (decide (i ≤ j)) := cm_le
@[simp] theorem zcm_gt : cmV S .gt (.int i) (.int j) = some (decide (j < i)) := cm_gt
@[simp] theorem zcm_ge : cmV S .ge (.int i) (.int j) = some (decide (j ≤ i)) := cm_ge
@[simp] theorem zcm_isn : cmV S .isn x .non = some (decide (x = .non)) := cm_isn
@[simp] theorem zcm_nisn : cmV S .nisn x .non = some (!decide (x = .non)) := cm_nisn
@[simp] theorem zcm_isb {b c : Bool} : cmV S .isn (.bl b) (.bl c) = some (decide (b = c)) := cm_isb
@[simp] theorem zcm_inn : cmV S .inn x y = inSeq S x y := cm_inn
@[simp] theorem zcm_nin : cmV S .nin x y = (inSeq S x y).map (!·) := cm_nin
@[simp] theorem zeqV_int : eqV S (.int i) (.int j) = some (decide (i = j)) := eqV_int
@[simp] theorem zeqV_fr {p q : Rat} : eqV S (fr p) (fr q) = some (decide (p = q)) := eqV_fr
@[simp] theorem zop_ad : opV S .add (.int i) (.int j) = some (.int (i + j)) := op_ad
@[simp] theorem zop_sb : opV S .sub (.int i) (.int j) = some (.int (i - j)) := op_sb
@[simp] theorem zop_ml (h : mulOk i j = true) : opV S .mul (.int i) (.int j) = some (.int (i * j)) := by rw [op_ml, if_pos h]
@[simp] theorem zop_dv (h : j ≠ 0) : opV S .fdiv (.int i) (.int j) = some (.int (i.fdiv j)) := by rw [op_dv, if_pos (divOk_of h)]
@[simp] theorem zop_md (h : j ≠ 0) : opV S .mod (.int i) (.int j) = some (.int (i.fmod j)) := by rw [op_md, if_neg h]
@[simp] theorem zop_at (h : xs.length + ys.length ≤ lenMax) : opV S .add (.tup xs) (.tup ys) = some (.tup (xs ++ ys)) := by rw [op_at, if_pos h]
@[simp] theorem zop_al (h : xs.length + ys.length ≤ lenMax) : opV S .add (.lst xs) (.lst ys) = some (.lst (xs ++ ys)) := by rw [op_al, if_pos h]
@[simp] theorem zbi_abs : biV S .abs [.int i] = some (.int (if i < 0 then -i else i)) := bi_abs
@[simp] theorem zbi_int : biV S .int [.int i] = some (.int i) := bi_int
@[simp] theorem zbi_intb {b : Bool} : biV S .int [.bl b] = some (.int (if b then 1 else 0)) := bi_intb
@[simp] theorem zbi_lent : biV S .len [.tup xs] = some (.int xs.length) := bi_lent
@[simp] theorem zbi_lenl : biV S .len [.lst xs] = some (.int xs.length) := bi_lenl
@[simp] theorem zbi_lenr {k : Nat} : biV S .len [.ref k] = (S.lst? k).map fun ys => .int ys.length := bi_lenr
@[simp] theorem zbi_listt : biV S .list [.tup xs] = some (.lst xs) := bi_listt
@[simp] theorem zbi_listl : biV S .list [.lst xs] = some (.lst xs) := bi_listl
@[simp] theorem zbi_tupt : biV S .tuple [.tup xs] = some (.tup xs) := bi_tupt
@[simp] theorem zbi_tupl : biV S .tuple [.lst xs] = some (.tup xs) := bi_tupl
@[simp] theorem zbi_tupr {k : Nat} : biV S .tuple [.ref k] = (S.lst? k).map .tup := bi_tupr
@[simp] theorem zbi_gcd : biV S .gcd [.int i, .int j] = some (.int ((Nat.gcd i.natAbs j.natAbs : Nat) : Int)) := bi_gcd
@[simp] theorem zbi_max : biV S .max2 [.int i, .int j] = some (.int (if j > i then j else i)) := bi_max
@[simp] theorem zbi_min : biV S .min2 [.int i, .int j] = some (.int (if j < i then j else i)) := bi_min
@[simp] theorem zbi_sum : biV S .sum [x] = ((seqOf S x).bind intsOf).map fun ns => .int ns.sum := bi_sum
@[simp] theorem zbi_all : biV S .all [x] = ((lstOf S x).bind blsOf).map fun ns => .bl (ns.all id) := bi_all
@[simp] theorem zbi_any : biV S .any [x] = ((lstOf S x).bind blsOf).map fun ns => .bl (ns.any id) := bi_any
@[simp] theorem ztr_non : truV S .non = some false := tr_non
@[simp] theorem ztr_bl {b : Bool} : truV S (.bl b) = some b := tr_bl
@[simp] theorem ztr_int : truV S (.int i) = some (i != 0) := tr_int
@[simp] theorem ztr_tup : truV S (.tup xs) = some (!xs.isEmpty) := tr_tup
@[simp] theorem ztr_lst : truV S (.lst xs) = some (!xs.isEmpty) := tr_lst
@[simp] theorem zty_tt : isTy (.tup xs) .tup = some true := ty_tt
@[simp] theorem zty_ti : isTy (.tup xs) .int = some false := ty_ti
@[simp] theorem zty_ii : isTy (.int i) .int = some true := ty_ii
@[simp] theorem zty_it : isTy (.int i) .tup = some false := ty_it
@[simp] theorem zty_ib : isTy (.int i) .bool = some false := by simp only [isTy]
@[simp] theorem zty_bb {c : Bool} : isTy (.bl c) .bool = some true := by simp only [isTy]
@[simp] theorem zsl_tup {lo hi : Option Int} : slV S (.tup xs) lo hi = some (.tup (cut xs lo hi)) := sl_tup
@[simp] theorem zsl_lst {lo hi : Option Int} : slV S (.lst xs) lo hi = some (.lst (cut xs lo hi)) := sl_lst
@[simp] theorem zsq_tup : seqOf S (.tup xs) = some xs := sq_tup
@[simp] theorem zsq_lst : seqOf S (.lst xs) = some xs := sq_lst
@[simp] theorem zls_lst : lstOf S (.lst xs) = some xs := ls_lst
@[simp] theorem zth_lst : thaw (.lst xs) S = .ok (.ref S.len) (S.push (.lst xs)) := th_lst
@[simp] theorem zwk_tup : walkV S (.tup xs) = some (xs, []) := wk_tup
@[simp] theorem zwk_lst : walkV S (.lst xs) = some (xs, []) := wk_lst
@[simp] theorem eqV_nonn : eqV S .non .non = some true := eqV_non
theorem zint (i : Int) : fr (i : Rat) = .tup [.int i, .int 1] := by simp [fr, pr]
@[simp] theorem ix_fr0 {q : Rat} : ixV S (fr q) (.int 0) = some (.int q.num) := by unfold fr; simp
@[simp] theorem ix_fr1 {q : Rat} : ixV S (fr q) (.int 1) = some (.int q.den) := by unfold fr; simp
@[simp] theorem bindT_fr {ts : Tgs} {q : Rat} : bindT (.tup ts) (fr q) σ = bindTs ts [.int q.num, .int q.den] σ := by unfold fr; rw [bindT_tup]
@[simp] theorem zfr0 : PV.tup [.int 0, .int 1] = fr 0 := fr_zero
@[simp] theorem zfr1 : PV.tup [.int 1, .int 1] = fr 1 := fr_one
@[simp] theorem zfrm1 : PV.tup [.int (-1), .int 1] = fr (-1) := rfl
@[simp] theorem zfrp {q : Rat} : (fr q).pure = true := fr_pure q
@[simp] theorem pure_int : PV.pure (.int i) = true := by simp only [PV.pure]
@[simp] theorem pure_bl {c : Bool} : PV.pure (.bl c) = true := by simp only [PV.pure]
@[simp] theorem pure_non : PV.pure .non = true := by simp only [PV.pure]
@[simp] theorem pure_str {z : Str} : PV.pure (.str z) = true := by simp only [PV.pure]
@[simp] theorem pure_tup : PV.pure (.tup xs) = PV.pures xs := by simp only [PV.pure]
@[simp] theorem pure_lst : PV.pure (.lst xs) = PV.pures xs := by simp only [PV.pure]
@[simp] theorem pure_obj {c : Nat} : PV.pure (.obj c xs) = PV.pures xs := by simp only [PV.pure]
@[simp] theorem pures_nil : PV.pures [] = true := by simp only [PV.pures]
@[simp] theorem pures_cons : PV.pures (x :: xs) = (x.pure && PV.pures xs) := by simp only [PV.pures]
theorem pures_map {α : Type} {f : α → PV} {l : List α} (h : ∀ a ∈ l, (f a).pure = true) : PV.pures (l.map f) = true := by
  induction l with
  | nil => simp
  | cons a l ih => simp [h a, ih fun y m => h y (List.mem_cons_of_mem _ m)]
@[simp] theorem rnum_neg {a : Rat} : a.num < 0 ↔ a < 0 := by
  have z := Rat.lt_iff a 0
  have e : (0 : Rat).num = 0 := rfl
  have e2 : ((0 : Rat).den : Int) = 1 := rfl
  rw [e, e2, Int.mul_one, Int.zero_mul] at z
  exact z.symm
@[simp] theorem rnum_z {a : Rat} : a.num = 0 ↔ a = 0 := Rat.num_eq_zero
/-! ### the store -/
@[simp] theorem len_mk {cs : List Cell} {d : Bool} : Sto.len ⟨cs, d⟩ = cs.length := rfl
@[simp] theorem push_mk {cs : List Cell} {d : Bool} {c : Cell} : Sto.push ⟨cs, d⟩ c = ⟨cs ++ [c], d⟩ := rfl
@[simp] theorem lst_end {cs : List Cell} {d : Bool} {xs : List PV} : Sto.lst? ⟨cs ++ [.lst xs], d⟩ cs.length = some xs := by simp [Sto.lst?]
theorem lst_0 {cs : List Cell} {d : Bool} {xs : List PV} : Sto.lst? ⟨.lst xs :: cs, d⟩ 0 = some xs := by simp [Sto.lst?]
@[simp] theorem wr_end {cs : List Cell} {c c' : Cell} {p : Bool} : Sto.wr ⟨cs ++ [c], false⟩ cs.length cs.length c' p = ⟨cs ++ [c'], false⟩ := by simp [Sto.wr]
theorem wr_pure {cs : List Cell} {d : Bool} {k : Nat} {c : Cell} : Sto.wr ⟨cs, d⟩ b k c true = ⟨cs.set k c, d⟩ := by simp [Sto.wr]
@[simp] theorem take_end {cs : List Cell} {c : Cell} : (cs ++ [c]).take cs.length = cs := by simp
end
/-! ### sizes -/
def qs (a : Rat) : Nat := max a.num.natAbs.log2 a.den.log2 + 1
theorem lt_log (n : Nat) : n < 2 ^ (n.log2 + 1) := Nat.lt_log2_self
theorem szq_qs (a : Rat) : szq (qs a) a := by
  refine ⟨?_, ?_⟩
  · show a.num.natAbs < _
    exact Nat.lt_of_lt_of_le (lt_log _) (Nat.pow_le_pow_right (by decide) (by unfold qs; omega))
  · show (a.den : Int).natAbs < _
    exact Nat.lt_of_lt_of_le (lt_log a.den) (Nat.pow_le_pow_right (by decide) (by unfold qs; omega))
theorem log_lt {n k : Nat} (h : n < 2 ^ (k + 1)) : n.log2 ≤ k := by
  by_cases h0 : n = 0
  · subst h0; simp
  · have := (Nat.log2_lt h0).mpr h
    omega
theorem qs_le {k : Nat} {a : Rat} (h : szq (k + 1) a) : qs a ≤ k + 1 := by
  have h1 : a.num.natAbs < 2 ^ (k + 1) := h.1
  have h2 : (a.den : Int).natAbs < 2 ^ (k + 1) := h.2
  have e1 := log_lt h1
  have e2 := log_lt (n := a.den) h2
  unfold qs
  omega
theorem qs_pos (a : Rat) : 1 ≤ qs a := by unfold qs; omega
theorem qs_add (a b : Rat) : qs (a + b) ≤ qs a + qs b + 1 := qs_le ((szq_qs a).addA (szq_qs b))
theorem qs_sub (a b : Rat) : qs (a - b) ≤ qs a + qs b + 1 := qs_le ((szq_qs a).subA (szq_qs b))
theorem qs_mul (a b : Rat) : qs (a * b) ≤ qs a + qs b := by
  have h := (szq_qs a).mul (szq_qs b)
  have p := qs_pos b
  have e : qs a + qs b = (qs a + qs b - 1) + 1 := by omega
  rw [e] at h ⊢
  exact qs_le h
theorem qs_zero : qs 0 = 1 := by decide
theorem qs_one : qs 1 = 1 := by decide
theorem qs_div (a b : Rat) : qs (a / b) ≤ qs a + qs b := by
  by_cases hb : b = 0
  · subst hb
    have e : a / 0 = 0 := by rw [Rat.div_def, Rat.inv_zero, Rat.mul_zero]
    rw [e, qs_zero]
    omega
  · have h := (szq_qs a).div (szq_qs b) hb
    have p := qs_pos b
    have e : qs a + qs b = (qs a + qs b - 1) + 1 := by omega
    rw [e] at h ⊢
    exact qs_le h
theorem qs_neg (a : Rat) : qs (-a) = qs a := by unfold qs; rw [Rat.neg_num, Rat.neg_den, Int.natAbs_neg]
theorem qs_pow (a : Rat) (n : Nat) : qs (a ^ n) ≤ qs a * n + 1 := by
  have h := (szq_qs a).pow n
  rw [Nat.add_comm] at h
  exact qs_le h
theorem qs_mn (a b : Rat) : qs (mn a b) ≤ max (qs a) (qs b) := by unfold mn; split <;> omega
theorem qs_mx (a b : Rat) : qs (mx a b) ≤ max (qs a) (qs b) := by unfold mx; split <;> omega
theorem qs_int (i : Int) : qs (i : Rat) = i.natAbs.log2 + 1 := by
  have e : Nat.log2 1 = 0 := by decide
  unfold qs
  simp [e]
abbrev LIM : Nat := 134217728
/-! ### loops as folds -/
section
variable {g : Sto → Bool} {bind : PV → Env → Option Env} {body : Env → Sto → RS}
theorem floop_nil {σ : Env} {S : Sto} (h : g S = true) : forLoop g bind body [] σ S = .next σ S := by unfold forLoop; rw [if_pos h]
theorem floop_cons {x : PV} {xs : List PV} {σ σ1 : Env} {S : Sto} (h : g S = true) (e : bind x σ = some σ1) : forLoop g bind body (x :: xs) σ S = match body σ1 S with
    | .next σ2 S2 => forLoop g bind body xs σ2 S2
    | .cont σ2 S2 => forLoop g bind body xs σ2 S2
    | .brk σ2 S2 => .next σ2 S2
    | r => r := by
  rw [forLoop, if_pos h, e]
  first | done | rfl
/-- every turn goes on; P is what stands behind i turns, c what was gathered -/
theorem for_fold {α γ : Type} (enc : α → PV) (R : γ → Env → Sto → Prop) (f : γ → α → γ) (P : Nat → γ → Prop) (hg : ∀ c σ S, R c σ S → g S = true) : ∀ (xs : List α) (i : Nat) (c : γ) (σ : Env) (S : Sto), R c σ S → P i c →
    (∀ j x c σ S, xs[j]? = some x → P (i + j) c → R c σ S → ∃ σ1 σ2 S2, bind (enc x) σ = some σ1 ∧ (body σ1 S = .next σ2 S2 ∨ body σ1 S = .cont σ2 S2) ∧ R (f c x) σ2 S2 ∧ P (i + j + 1) (f c x)) →
    ∃ σ' S', forLoop g bind body (xs.map enc) σ S = .next σ' S' ∧ R (xs.foldl f c) σ' S' ∧ P (i + xs.length) (xs.foldl f c)
  | [], i, c, σ, S, r, p, _ => ⟨σ, S, floop_nil (hg _ _ _ r), r, p⟩
  | x :: xs, i, c, σ, S, r, p, h => by
    obtain ⟨σ1, σ2, S2, e1, e2, r2, p2⟩ := h 0 x c σ S rfl p r
    obtain ⟨σ', S', e3, r3, p3⟩ := for_fold enc R f P hg xs (i + 1) (f c x) σ2 S2 r2 p2 fun j y c σ S hj hp hr => by
      have e : i + 1 + j = i + (j + 1) := by omega
      rw [e] at hp ⊢
      exact h (j + 1) y c σ S hj hp hr
    refine ⟨σ', S', ?_, r3, ?_⟩
    · rw [List.map_cons, floop_cons (hg _ _ _ r) e1]
      rcases e2 with e2 | e2 <;> rw [e2] <;> exact e3
    · have e : i + (x :: xs).length = i + 1 + xs.length := by rw [List.length_cons]; omega
      rw [e]
      exact p3
/-- a for whose turns may return -/
def runR {α γ β : Type} (f : γ → α → γ ⊕ β) : List α → γ → γ ⊕ β
  | [], c => .inl c
  | x :: xs, c => match f c x with
    | .inl c' => runR f xs c'
    | .inr v => .inr v
theorem for_ret {α γ : Type} (enc : α → PV) (R : γ → Env → Sto → Prop) (f : γ → α → γ ⊕ PV) (P : Nat → γ → Prop) (hg : ∀ c σ S, R c σ S → g S = true) : ∀ (xs : List α) (i : Nat) (c : γ) (σ : Env) (S : Sto), R c σ S → P i c →
    (∀ j x c σ S, xs[j]? = some x → P (i + j) c → R c σ S → ∃ σ1, bind (enc x) σ = some σ1 ∧ match f c x with
      | .inl c' => ∃ σ2 S2, (body σ1 S = .next σ2 S2 ∨ body σ1 S = .cont σ2 S2) ∧ R c' σ2 S2 ∧ P (i + j + 1) c'
      | .inr v => body σ1 S = .ret v S) →
    match runR f xs c with
    | .inl c' => ∃ σ' S', forLoop g bind body (xs.map enc) σ S = .next σ' S' ∧ R c' σ' S' ∧ P (i + xs.length) c'
    | .inr v => ∃ S', forLoop g bind body (xs.map enc) σ S = .ret v S'
  | [], i, c, σ, S, r, p, _ => ⟨σ, S, floop_nil (hg _ _ _ r), r, p⟩
  | x :: xs, i, c, σ, S, r, p, h => by
    obtain ⟨σ1, e1, e2⟩ := h 0 x c σ S rfl p r
    rw [List.map_cons, floop_cons (hg _ _ _ r) e1, runR]
    cases hf : f c x with
    | inr v =>
      rw [hf] at e2
      simp only at e2 ⊢
      rw [e2]
      exact ⟨S, rfl⟩
    | inl c' =>
      rw [hf] at e2
      obtain ⟨σ2, S2, e2, r2, p2⟩ := e2
      have ih := for_ret enc R f P hg xs (i + 1) c' σ2 S2 r2 p2 fun j y c σ S hj hp hr => by
        have e : i + 1 + j = i + (j + 1) := by omega
        rw [e] at hp ⊢
        exact h (j + 1) y c σ S hj hp hr
      have e : i + (x :: xs).length = i + 1 + xs.length := by rw [List.length_cons]; omega
      rw [e]
      rcases e2 with e2 | e2 <;> rw [e2] <;> exact ih
/-! ### comprehensions that draw -/
def mapS {α β γ : Type} (f : γ → α → β × γ) : List α → γ → List β × γ
  | [], c => ([], c)
  | x :: xs, c => ((f c x).1 :: (mapS f xs (f c x).2).1, (mapS f xs (f c x).2).2)
theorem mapS_len {α β γ : Type} {f : γ → α → β × γ} : ∀ {xs : List α} {c : γ}, (mapS f xs c).1.length = xs.length
  | [], _ => rfl
  | x :: xs, c => by simp [mapS, mapS_len]
theorem lcLoop_st {bindL : PV → Option Env} {test : Env → Sto → R Bool} {elt : Env → Sto → R PV} {α β γ : Type} (enc : α → PV) (out : β → PV) (T : γ → Sto) (f : γ → α → β × γ) (hg : ∀ c, g (T c) = true) :
    ∀ (xs : List α) (acc : List PV) (c : γ), acc.length + xs.length ≤ lenMax → (∀ x ∈ xs, ∀ c, ∃ σ, bindL (enc x) = some σ ∧ test σ (T c) = .ok true (T c) ∧ elt σ (T c) = .ok (out (f c x).1) (T (f c x).2)) →
      lcLoop g bindL test elt (xs.map enc) acc (T c) = .ok (acc ++ (mapS f xs c).1.map out) (T (mapS f xs c).2)
  | [], acc, c, _, _ => by simp only [List.map_nil, mapS]; unfold lcLoop; rw [if_pos (hg _), List.append_nil]
  | x :: xs, acc, c, hl, hx => by
    obtain ⟨σ, h1, h2, h3⟩ := hx x List.mem_cons_self c
    have l1 : acc.length < lenMax := by simp only [List.length_cons] at hl; omega
    rw [List.map_cons]
    unfold lcLoop
    rw [if_pos (hg _)]
    simp only [h1, h2, bd_ok, h3, if_pos l1]
    rw [lcLoop_st enc out T f hg xs (acc ++ [out (f c x).1]) _ (by rw [List.length_append]; simp only [List.length_cons, List.length_nil] at hl ⊢; omega) fun y hy => hx y (List.mem_cons_of_mem _ hy)]
    simp [mapS]
end
end MP
end
section
set_option Elab.async false
set_option linter.all false
set_option maxRecDepth 100000
/-! MPPolB: sums of terms, gathered by their exponents. -/
namespace MP
open PySem
/-- the sum of the coefficients of e -/
def cs : List Tm → List Int → Rat
  | [], _ => 0
  | t :: p, e => (if t.1 = e then t.2 else 0) + cs p e
theorem cs_app {e : List Int} : ∀ {p q : List Tm}, cs (p ++ q) e = cs p e + cs q e
  | [], q => by simp [cs, Rat.zero_add]
  | t :: p, q => by simp only [List.cons_append, cs, cs_app, Rat.add_assoc]
/-- gathered in a dict -/
def putS (t : List Tm) (m : Tm) : List Tm := putT t m.1 (getT t m.1 + m.2)
def accT (l : List Tm) : List Tm := l.foldl putS []
/-- the polynomial of a sum of terms -/
def nf (l : List Tm) : List Tm := fromT (accT l)
theorem get_putS {t : List Tm} {m : Tm} {e : List Int} : getT (putS t m) e = getT t e + (if m.1 = e then m.2 else 0) := by
  unfold putS
  show (getQ (putT t m.1 (getT t m.1 + m.2)) e).getD 0 = _
  rw [get_put]
  by_cases h : m.1 = e
  · subst h
    simp
  · rw [if_neg (fun z => h z.symm), if_neg h, Rat.add_zero]
    rfl
theorem acc_gen : ∀ {l t : List Tm} {e : List Int}, getT (l.foldl putS t) e = getT t e + cs l e
  | [], t, e => by simp [cs, Rat.add_zero]
  | m :: l, t, e => by rw [List.foldl_cons, acc_gen, get_putS, cs, Rat.add_assoc]
theorem acc_get {l : List Tm} {e : List Int} : getT (accT l) e = cs l e := by
  unfold accT
  rw [acc_gen]
  show 0 + _ = _
  rw [Rat.zero_add]
theorem acc_nd : ∀ {l t : List Tm}, (keys t).Nodup → (keys (l.foldl putS t)).Nodup
  | [], _, h => h
  | m :: l, t, h => acc_nd (l := l) (t := putS t m) (put_nodup h)
theorem acc_nodup (l : List Tm) : (keys (accT l)).Nodup := acc_nd (by simp [keys])
theorem acc_mem : ∀ {l t : List Tm} {e : List Int}, e ∈ keys (l.foldl putS t) → e ∈ keys t ∨ e ∈ keys l
  | [], _, _, h => .inl h
  | m :: l, t, e, h => by
    rcases acc_mem (l := l) (t := putS t m) h with h | h
    · unfold putS at h
      rw [put_keys] at h
      split at h
      · exact .inl h
      · rcases List.mem_append.mp h with h | h
        · exact .inl h
        · exact .inr (by rw [List.mem_singleton.mp h]; simp [keys])
    · exact .inr (by unfold keys at *; rw [List.map_cons]; exact List.mem_cons_of_mem _ h)
theorem acc_in {l : List Tm} {e : List Int} (h : e ∈ keys (accT l)) : e ∈ keys l := by
  rcases acc_mem h with h | h
  · simp [keys] at h
  · exact h
theorem acc_len : ∀ {l t : List Tm}, (l.foldl putS t).length ≤ t.length + l.length
  | [], t => Nat.le_refl _
  | m :: l, t => by
    have h := acc_len (l := l) (t := putS t m)
    have h2 : (putS t m).length ≤ t.length + 1 := by
      unfold putS putT
      split
      · simp
      · simp
    rw [List.foldl_cons, List.length_cons]
    omega
theorem vp_acc {x : List Rat} : ∀ {l t : List Tm}, (keys t).Nodup → vp x (l.foldl putS t) = vp x t + vp x l
  | [], t, _ => by show vp x t = vp x t + 0; rw [Rat.add_zero]
  | m :: l, t, h => by
    rw [List.foldl_cons, vp_acc (l := l) (t := putS t m) (put_nodup h)]
    unfold putS
    rw [vp_put h]
    show vp x t + _ + _ = vp x t + (m.2 * mon x m.1 + vp x l)
    grind
theorem vp_nf {x : List Rat} {l : List Tm} : vp x (nf l) = vp x l := by
  unfold nf
  rw [vp_from (acc_nodup l)]
  unfold accT
  rw [vp_acc (by simp [keys])]
  show 0 + _ = _
  rw [Rat.zero_add]
/-! ### shaped: ascending, no zeros -/
def shp (p : List Tm) : Prop := ascK (keys p) ∧ ∀ t ∈ p, t.2 ≠ 0
theorem shp_nil : shp [] := ⟨List.Pairwise.nil, fun t h => by cases h⟩
theorem ascK_nd {ks : List (List Int)} (h : ascK ks) : ks.Nodup := h.imp fun {a b} h e => by
  subst e
  rw [lexI_same] at h
  cases h
theorem from_keys {d : List Tm} : keys (fromT d) = (sortL lexI (keys d)).filter fun k => decide (getT d k ≠ 0) := by
  unfold fromT keys
  rw [List.filter_map, List.map_map]
  show List.map _ _ = _
  rw [List.map_id'' (f := (fun t : Tm => t.1) ∘ fun k => (k, getT d k)) (fun _ => rfl)]
  rfl
theorem shp_nf (l : List Tm) : shp (nf l) := by
  refine ⟨?_, fun t h => ?_⟩
  · unfold nf
    rw [from_keys]
    exact (sort_asc (acc_nodup l)).filter _
  · unfold nf fromT at h
    have := (List.mem_filter.mp h).2
    simpa using this
theorem cs_out {e : List Int} : ∀ {p : List Tm}, e ∉ keys p → cs p e = 0
  | [], _ => rfl
  | t :: p, h => by
    unfold keys at h
    rw [List.map_cons, List.mem_cons, not_or] at h
    rw [cs, if_neg (fun z => h.1 z.symm), cs_out h.2, Rat.zero_add]
theorem cs_get {e : List Int} : ∀ {p : List Tm}, (keys p).Nodup → cs p e = getT p e
  | [], _ => rfl
  | t :: p, h => by
    obtain ⟨h1, h2⟩ := List.nodup_cons.mp h
    unfold getT
    rw [get_cons, cs]
    by_cases z : t.1 = e
    · rw [if_pos z, if_pos z, cs_out (by rw [← z]; exact h1), Rat.add_zero]
      rfl
    · rw [if_neg z, if_neg z, Rat.zero_add]
      exact cs_get h2
theorem cs_map {e : List Int} {g : List Int → Rat} : ∀ {ks : List (List Int)}, ks.Nodup → cs (ks.map fun k => (k, g k)) e = if e ∈ ks then g e else 0
  | [], _ => rfl
  | k :: ks, h => by
    obtain ⟨h1, h2⟩ := List.nodup_cons.mp h
    rw [List.map_cons, cs, cs_map h2]
    by_cases z : k = e
    · subst z
      simp [h1, Rat.add_zero]
    · have z' : ¬ e = k := fun q => z q.symm
      simp [z, z', Rat.zero_add]
theorem cs_filter {e : List Int} : ∀ {p : List Tm}, cs (p.filter fun t => decide (t.2 ≠ 0)) e = cs p e
  | [] => rfl
  | t :: p => by
    rw [List.filter_cons]
    split
    · rw [cs, cs, cs_filter]
    · rename_i h
      have h : t.2 = 0 := by simpa using h
      rw [cs, cs_filter, h]
      split <;> rw [Rat.zero_add]
theorem cs_nf {l : List Tm} {e : List Int} : cs (nf l) e = cs l e := by
  unfold nf fromT
  rw [cs_filter, cs_map ((sort_perm (acc_nodup l)).nodup_iff.mpr (acc_nodup l))]
  have hm : e ∈ sortL lexI (keys (accT l)) ↔ e ∈ keys (accT l) := (sort_perm (acc_nodup l)).mem_iff
  by_cases h : e ∈ keys (accT l)
  · rw [if_pos (hm.mpr h), acc_get]
  · rw [if_neg (fun z => h (hm.mp z)), ← acc_get]
    unfold getT
    rw [get_out h]
    rfl
theorem mem_cs {p : List Tm} (h : shp p) {e : List Int} : e ∈ keys p ↔ cs p e ≠ 0 := by
  constructor
  · intro m
    obtain ⟨c, h1, h2⟩ := get_in m
    rw [cs_get (ascK_nd h.1)]
    unfold getT
    rw [h1]
    exact h.2 _ h2
  · intro z
    by_cases m : e ∈ keys p
    · exact m
    · exact absurd (cs_out m) z
theorem asc_ext : ∀ {a b : List (List Int)}, ascK a → ascK b → (∀ k, k ∈ a ↔ k ∈ b) → a = b
  | [], [], _, _, _ => rfl
  | [], y :: b, _, _, h => by have := (h y).mpr List.mem_cons_self; cases this
  | x :: a, [], _, _, h => by have := (h x).mp List.mem_cons_self; cases this
  | x :: a, y :: b, ha, hb, h => by
    obtain ⟨ha1, ha2⟩ := List.pairwise_cons.mp ha
    obtain ⟨hb1, hb2⟩ := List.pairwise_cons.mp hb
    have e : x = y := by
      rcases List.mem_cons.mp ((h x).mp List.mem_cons_self) with q | q
      · exact q
      · rcases List.mem_cons.mp ((h y).mpr List.mem_cons_self) with r | r
        · exact r.symm
        · have z := lexI_trans _ _ _ (hb1 x q) (ha1 y r)
          rw [lexI_same] at z
          cases z
    subst e
    rw [asc_ext ha2 hb2 fun k => ?_]
    constructor
    · intro m
      rcases List.mem_cons.mp ((h k).mp (List.mem_cons_of_mem _ m)) with q | q
      · subst q
        have z := ha1 _ m
        rw [lexI_same] at z
        cases z
      · exact q
    · intro m
      rcases List.mem_cons.mp ((h k).mpr (List.mem_cons_of_mem _ m)) with q | q
      · subst q
        have z := hb1 _ m
        rw [lexI_same] at z
        cases z
      · exact q
/-- a polynomial is told by its coefficients -/
theorem shp_ext {p q : List Tm} (hp : shp p) (hq : shp q) (h : ∀ e, cs p e = cs q e) : p = q := by
  have k : keys p = keys q := asc_ext hp.1 hq.1 fun e => by rw [mem_cs hp, mem_cs hq, h]
  rw [dict_self (ascK_nd hp.1), dict_self (ascK_nd hq.1), k]
  apply List.map_congr_left
  intro e _
  rw [← cs_get (ascK_nd hp.1), ← cs_get (ascK_nd hq.1), h]
theorem nf_id {p : List Tm} (h : shp p) : nf p = p := shp_ext (shp_nf p) h fun e => cs_nf
theorem nf_zero {p : List Tm} (h : ∀ e, cs p e = 0) : nf p = [] := shp_ext (shp_nf p) shp_nil fun e => by rw [cs_nf, h]; rfl
theorem nf_mem {l : List Tm} {t : Tm} (h : t ∈ nf l) : t.1 ∈ keys l ∧ t.2 = cs l t.1 := by
  unfold nf fromT at h
  obtain ⟨k, hk, rfl⟩ := List.mem_map.mp (List.mem_filter.mp h).1
  exact ⟨acc_in ((sort_perm (acc_nodup l)).mem_iff.mp hk), acc_get⟩
theorem nf_len (l : List Tm) : (nf l).length ≤ l.length := by
  unfold nf fromT
  refine Nat.le_trans (List.length_filter_le _ _) ?_
  rw [List.length_map, (sort_perm (acc_nodup l)).length_eq]
  unfold keys accT
  rw [List.length_map]
  have := acc_len (l := l) (t := [])
  simpa using this
/-! ### sizes -/
/-- what is gathered stays below K -/
def PS (K : Nat) (l : List Tm) : Prop := (∀ i e, qs (cs (l.take i) e) ≤ K) ∧ ∀ t ∈ l, qs t.2 ≤ K
theorem PS.nf {K : Nat} {l : List Tm} (h : PS K l) : ∀ t ∈ nf l, qs t.2 ≤ K := fun t m => by
  rw [(nf_mem m).2]
  have := h.1 l.length t.1
  rwa [List.take_length] at this
/-- n terms of k bits -/
theorem ps_sum {k : Nat} : ∀ {l : List Tm}, (∀ t ∈ l, qs t.2 ≤ k) → ∀ e, qs (cs l e) ≤ l.length * (k + 1) + 1
  | [], _, e => by show qs 0 ≤ _; rw [qs_zero]; omega
  | t :: l, h, e => by
    have ih := ps_sum (l := l) (fun s m => h s (List.mem_cons_of_mem _ m)) e
    have ht := h t List.mem_cons_self
    have z := qs_add (if t.1 = e then t.2 else 0) (cs l e)
    have z2 : qs (if t.1 = e then t.2 else 0) ≤ max k 1 := by
      split
      · omega
      · rw [qs_zero]; omega
    have p := qs_pos t.2
    rw [cs, List.length_cons, Nat.add_mul]
    omega
theorem PS.of {k n : Nat} {l : List Tm} (h : ∀ t ∈ l, qs t.2 ≤ k) (hl : l.length ≤ n) : PS (n * (k + 1) + 1) l := by
  refine ⟨fun i e => ?_, fun t m => ?_⟩
  · have z := ps_sum (l := l.take i) (fun t m => h t (List.mem_of_mem_take m)) e
    have l1 : (l.take i).length ≤ n := by rw [List.length_take]; omega
    have l2 := Nat.mul_le_mul_right (k + 1) l1
    omega
  · have := h t m
    have l1 : 1 ≤ n := by
      have := List.length_pos_of_mem m
      omega
    have l2 := Nat.mul_le_mul_right (k + 1) l1
    omega
end MP
end
section
set_option Elab.async false
set_option linter.all false
set_option maxRecDepth 100000
/-! MPDict: dicts of terms in the store; comprehensions with a test. -/
namespace MP
open PySem
@[simp] theorem intsOf_map : ∀ e : List Int, intsOf (e.map PV.int) = some e
  | [] => rfl
  | i :: e => by rw [List.map_cons, intsOf, intsOf_map e]; rfl
theorem row_pure (e : List Int) : (rowPV e).pure = true := by
  show PV.pures (e.map PV.int) = true
  exact pures_map fun _ _ => rfl
theorem tm_pure (t : Tm) : (tm t).pure = true := by simp [tm, row_pure]
theorem pl_pure (p : List Tm) : (pl p).pure = true := by
  show PV.pures (p.map tm) = true
  exact pures_map fun t _ => tm_pure t
section
variable {cs : List Cell} {f : Bool} {t : List Tm} {kvs : List (List Int × PV)} {e : List Int} {q : Rat} {σ : Env}
theorem get_end {c : Cell} : (cs ++ [c])[cs.length]? = some c := by simp
@[simp] theorem dictAt_end : dictAt (.ref cs.length) ⟨cs ++ [.dT kvs], f⟩ = .ok cs.length ⟨cs ++ [.dT kvs], f⟩ := by
  simp [dictAt]
theorem dAsk_T {S : Sto} {k : Nat} (h : S.cells[k]? = some (.dT (kv t))) : dAsk S k (rowPV e) = some ((getQ t e).map fr) := by
  unfold dAsk rowPV
  rw [h]
  simp only [intsOf_map, Option.map_some, valK_kv]
@[simp] theorem dAsk_end : dAsk ⟨cs ++ [.dT (kv t)], f⟩ cs.length (rowPV e) = some ((getQ t e).map fr) := dAsk_T get_end
@[simp] theorem getD_T : (getQ t e).getD 0 = getT t e := rfl
@[simp] theorem getD_fr : ((getQ t e).map fr).getD (fr 0) = fr (getT t e) := by
  unfold getT
  cases getQ t e <;> rfl
theorem ix_T {S : Sto} {k : Nat} (h : S.cells[k]? = some (.dT (kv t))) (m : e ∈ keys t) : ixV S (.ref k) (rowPV e) = some (fr (getT t e)) := by
  have hl : S.lst? k = none := by unfold Sto.lst?; rw [h]
  obtain ⟨c, h1, _⟩ := get_in m
  have h2 := dAsk_T (e := e) h
  have z : ixV S (.ref k) (rowPV e) = (dAsk S k (rowPV e)).bind id := by
    simp only [ixV, hl, rowPV]
  rw [z, h2, h1]
  unfold getT
  rw [h1]
  rfl
theorem subR_end (h : t.length < lenMax) : subR cs.length σ (.ref cs.length) (rowPV e) (fr q) ⟨cs ++ [.dT (kv t)], false⟩ = .next σ ⟨cs ++ [.dT (kv (putT t e q))], false⟩ := by
  have hl : (kv t).length < lenMax := by unfold kv; rw [List.length_map]; exact h
  simp [subR, dPut, rowPV, hl, putK_kv]
theorem sorted_T {S : Sto} {k : Nat} (h : S.cells[k]? = some (.dT (kv t))) (ne : ∀ e ∈ keys t, e ≠ []) : biV S .sorted [.ref k] = some (.lst ((sortL lexI (keys t)).map rowPV)) := by
  have z : (keys t).any (·.isEmpty) = false := by
    rw [List.any_eq_false]
    intro e m
    have := ne e m
    cases e with
    | nil => exact absurd rfl this
    | cons _ _ => simp
  simp only [biV, h, kv_keys, z]
  rfl
end
/-- a comprehension with a test, whose parts leave the store alone -/
theorem lcLoop_fil {g : Sto → Bool} {bind : PV → Option Env} {test : Env → Sto → R Bool} {elt : Env → Sto → R PV} {S : Sto} (hg : g S = true) {α : Type} (f h : α → PV) (c : α → Bool) : ∀ (xs : List α) (acc : List PV), acc.length + xs.length ≤ lenMax →
    (∀ x ∈ xs, ∃ σ, bind (f x) = some σ ∧ test σ S = .ok (c x) S ∧ (c x = true → elt σ S = .ok (h x) S)) → lcLoop g bind test elt (xs.map f) acc S = .ok (acc ++ (xs.filter c).map h) S
  | [], acc, _, _ => by simp only [List.map_nil, List.filter_nil]; unfold lcLoop; rw [if_pos hg, List.append_nil]
  | x :: xs, acc, hl, hx => by
    obtain ⟨σ, h1, h2, h3⟩ := hx x List.mem_cons_self
    have l1 : acc.length < lenMax := by simp only [List.length_cons] at hl; omega
    rw [List.map_cons]
    unfold lcLoop
    rw [if_pos hg]
    simp only [h1, h2, bd_ok]
    cases hc : c x with
    | true =>
      simp only [h3 hc, bd_ok, if_pos l1]
      rw [lcLoop_fil hg f h c xs (acc ++ [h x]) (by rw [List.length_append]; simp only [List.length_cons, List.length_nil] at hl ⊢; omega) fun y hy => hx y (List.mem_cons_of_mem _ hy), List.filter_cons_of_pos hc]
      simp
    | false =>
      simp only
      rw [lcLoop_fil hg f h c xs acc (by simp only [List.length_cons] at hl; omega) fun y hy => hx y (List.mem_cons_of_mem _ hy), List.filter_cons_of_neg (by simp [hc])]
section
variable {C : Nat → List PV → Sto → R PV} {b : Nat} {σ : Env} {S : Sto}
/-- a comprehension over a row that leaves the store alone -/
theorem ev_lcm {α : Type} {t : Tg} {own : List Nat} {it : It} {c : Eo} {e : E} {gw : List (Nat × List PV)} (f h : α → PV) (xs : List α) (hi : evi C b it σ S = .ok (xs.map f, gw) S) (hg : stands S gw = true) (hl : xs.length ≤ lenMax)
    (hx : ∀ x ∈ xs, ∃ σ1, bindT t (f x) (wipe σ own) = some σ1 ∧ evc C b c σ1 S = .ok true S ∧ ev C b e σ1 S = .ok (h x) S) : ev C b (.lc t own it c e) σ S = .ok (.lst (xs.map h)) S := by
  refine ev_lc hi ?_
  have z := lcLoop_map (g := fun S => stands S gw) (bind := fun x => bindT t x (wipe σ own)) (test := evc C b c) (elt := ev C b e) (S := S) hg f h xs [] (by simpa using hl) hx
  simpa using z
theorem ev_lcf {α : Type} {t : Tg} {own : List Nat} {it : It} {c : Eo} {e : E} {gw : List (Nat × List PV)} (f h : α → PV) (p : α → Bool) (xs : List α) (hi : evi C b it σ S = .ok (xs.map f, gw) S) (hg : stands S gw = true) (hl : xs.length ≤ lenMax)
    (hx : ∀ x ∈ xs, ∃ σ1, bindT t (f x) (wipe σ own) = some σ1 ∧ evc C b c σ1 S = .ok (p x) S ∧ (p x = true → ev C b e σ1 S = .ok (h x) S)) : ev C b (.lc t own it c e) σ S = .ok (.lst ((xs.filter p).map h)) S := by
  refine ev_lc hi ?_
  have z := lcLoop_fil (g := fun S => stands S gw) (bind := fun x => bindT t x (wipe σ own)) (test := evc C b c) (elt := ev C b e) (S := S) hg f h p xs [] (by simpa using hl) hx
  simpa using z
@[simp] theorem stands_nil : stands S [] = true := rfl
@[simp] theorem wipe_nil : wipe σ [] = σ := rfl
@[simp] theorem wipe_cons {v : Nat} {vs : List Nat} : wipe σ (v :: vs) = (wipe σ vs).set v none := rfl
end
end MP
end
section
set_option Elab.async false
set_option linter.all false
set_option maxRecDepth 100000
/-! MPIvX: ranges as pairs, as the text works them out; what they hold; their sizes. -/
namespace MP
abbrev Iv := Rat × Rat
def ivv (x : Iv) : PV := iv x.1 x.2
def tml (a b c e : Rat) : Rat := mn (if c < 0 then b * c else a * c) (if e < 0 then b * e else a * e)
def tmh (a b c e : Rat) : Rat := mx (if c < 0 then a * c else b * c) (if e < 0 then a * e else b * e)
def rsl (a b : Rat) (n : Nat) : Rat := if n = 0 then 1 else if n % 2 = 1 then a ^ n else if a ≤ 0 ∧ 0 ≤ b then 0 else mn (a ^ n) (b ^ n)
def rsh (a b : Rat) (n : Nat) : Rat := if n = 0 then 1 else if n % 2 = 1 then b ^ n else mx (a ^ n) (b ^ n)
def Iv.pt (a : Rat) : Iv := (a, a)
def Iv.add (x y : Iv) : Iv := (x.1 + y.1, x.2 + y.2)
def Iv.neg (x : Iv) : Iv := (-x.2, -x.1)
def Iv.sub (x y : Iv) : Iv := (x.1 - y.2, x.2 - y.1)
def Iv.scl (x : Iv) (c : Rat) : Iv := (if c < 0 then x.2 * c else x.1 * c, if c < 0 then x.1 * c else x.2 * c)
def Iv.mul (x y : Iv) : Iv := (tml x.1 x.2 y.1 y.2, tmh x.1 x.2 y.1 y.2)
def Iv.rai (x : Iv) (n : Nat) : Iv := (rsl x.1 x.2 n, rsh x.1 x.2 n)
def Iv.hull (x y : Iv) : Iv := (mn x.1 y.1, mx x.2 y.2)
@[simp] theorem iv_fold {a b : Rat} : PV.tup [fr a, fr b] = ivv (a, b) := rfl
section
variable {S : Sto} {x y : Iv}
@[simp] theorem ix_iv0 : ixV S (ivv x) (.int 0) = some (fr x.1) := by unfold ivv; rw [zix_tup, itemAt_0]
@[simp] theorem ix_iv1 : ixV S (ivv x) (.int 1) = some (fr x.2) := by unfold ivv; rw [zix_tup, itemAt_1]
@[simp] theorem ivv_pure : (ivv x).pure = true := rfl
@[simp] theorem zeqV_iv : eqV S (ivv x) (ivv y) = some (decide (x = y)) := by
  unfold ivv
  rw [eqV_iv]
  congr 1
  obtain ⟨a, b⟩ := x
  obtain ⟨c, e⟩ := y
  by_cases h : a = c <;> by_cases h2 : b = e <;> simp [h, h2]
@[simp] theorem wk_iv : walkV S (ivv x) = some ([fr x.1, fr x.2], []) := by unfold ivv; rw [zwk_tup]
@[simp] theorem sq_iv : seqOf S (ivv x) = some [fr x.1, fr x.2] := by unfold ivv; rw [zsq_tup]
@[simp] theorem len_iv : biV S .len [ivv x] = some (.int 2) := by unfold ivv; rw [zbi_lent]; rfl
@[simp] theorem bindT_iv {ts : Tgs} {σ : Env} : bindT (.tup ts) (ivv x) σ = bindTs ts [fr x.1, fr x.2] σ := by unfold ivv; rw [bindT_tup]
end
/-- the size of a range's ends -/
def is (x : Iv) : Nat := max (qs x.1) (qs x.2)
theorem is_pos (x : Iv) : 1 ≤ is x := by have := qs_pos x.1; unfold is; omega
theorem is_add (x y : Iv) : is (x.add y) ≤ is x + is y + 1 := by
  have h1 := qs_add x.1 y.1
  have h2 := qs_add x.2 y.2
  unfold is Iv.add
  dsimp only
  omega
theorem is_neg (x : Iv) : is x.neg = is x := by
  have h1 := qs_neg x.1
  have h2 := qs_neg x.2
  unfold is Iv.neg
  dsimp only
  omega
theorem is_sub (x y : Iv) : is (x.sub y) ≤ is x + is y + 1 := by
  have h1 := qs_sub x.1 y.2
  have h2 := qs_sub x.2 y.1
  unfold is Iv.sub
  dsimp only
  omega
theorem is_scl (x : Iv) (c : Rat) : is (x.scl c) ≤ is x + qs c := by
  have h1 := qs_mul x.1 c
  have h2 := qs_mul x.2 c
  unfold is Iv.scl
  dsimp only
  split <;> omega
theorem is_mul (x y : Iv) : is (x.mul y) ≤ is x + is y := by
  have h1 := is_scl x y.1
  have h2 := is_scl x y.2
  have h3 := qs_mn (x.scl y.1).1 (x.scl y.2).1
  have h4 := qs_mx (x.scl y.1).2 (x.scl y.2).2
  have e : x.mul y = (mn (x.scl y.1).1 (x.scl y.2).1, mx (x.scl y.1).2 (x.scl y.2).2) := rfl
  rw [e]
  unfold is at *
  dsimp only
  omega
theorem is_rai (x : Iv) (n : Nat) : is (x.rai n) ≤ is x * n + 1 := by
  have h1 := qs_pow x.1 n
  have h2 := qs_pow x.2 n
  have h3 := qs_mn (x.1 ^ n) (x.2 ^ n)
  have h4 := qs_mx (x.1 ^ n) (x.2 ^ n)
  have h5 := qs_one
  have h6 := qs_zero
  have m1 : qs x.1 * n ≤ is x * n := Nat.mul_le_mul_right _ (by unfold is; omega)
  have m2 : qs x.2 * n ≤ is x * n := Nat.mul_le_mul_right _ (by unfold is; omega)
  show max (qs (rsl x.1 x.2 n)) (qs (rsh x.1 x.2 n)) ≤ _
  have a1 : qs (rsl x.1 x.2 n) ≤ is x * n + 1 := by
    unfold rsl
    split
    · omega
    · split
      · omega
      · split <;> omega
  have a2 : qs (rsh x.1 x.2 n) ≤ is x * n + 1 := by
    unfold rsh
    split
    · omega
    · split <;> omega
  omega
theorem is_hull (x y : Iv) : is (x.hull y) ≤ max (is x) (is y) := by
  have h1 := qs_mn x.1 y.1
  have h2 := qs_mx x.2 y.2
  unfold is Iv.hull
  dsimp only
  omega
theorem is_pt (a : Rat) : is (Iv.pt a) = qs a := by unfold is Iv.pt; dsimp only; omega
/-! ### what ranges hold -/
def Iv.has (x : Iv) (a : Rat) : Prop := x.1 ≤ a ∧ a ≤ x.2
instance (x : Iv) (a : Rat) : Decidable (x.has a) := by unfold Iv.has; exact inferInstance
theorem Iv.has.ord {x : Iv} {a : Rat} (h : x.has a) : x.1 ≤ x.2 := by have := h.1; have := h.2; grind
theorem has_pt (a : Rat) : (Iv.pt a).has a := ⟨Rat.le_refl, Rat.le_refl⟩
theorem has_add {x y : Iv} {a b : Rat} (h : x.has a) (h' : y.has b) : (x.add y).has (a + b) := by
  obtain ⟨h1, h2⟩ := h
  obtain ⟨h3, h4⟩ := h'
  constructor
  · show x.1 + y.1 ≤ a + b; grind
  · show a + b ≤ x.2 + y.2; grind
theorem has_neg {x : Iv} {a : Rat} (h : x.has a) : x.neg.has (-a) := by
  obtain ⟨h1, h2⟩ := h
  constructor
  · show -x.2 ≤ -a; grind
  · show -a ≤ -x.1; grind
theorem has_sub {x y : Iv} {a b : Rat} (h : x.has a) (h' : y.has b) : (x.sub y).has (a - b) := by
  obtain ⟨h1, h2⟩ := h
  obtain ⟨h3, h4⟩ := h'
  constructor
  · show x.1 - y.2 ≤ a - b; grind
  · show a - b ≤ x.2 - y.1; grind
theorem has_scl {x : Iv} {a : Rat} (h : x.has a) (c : Rat) : (x.scl c).has (a * c) := by
  obtain ⟨h1, h2⟩ := h
  unfold Iv.scl Iv.has
  dsimp only
  by_cases hc : c < 0
  · rw [if_pos hc, if_pos hc]
    exact ⟨mul_anti h2 (by grind), mul_anti h1 (by grind)⟩
  · rw [if_neg hc, if_neg hc]
    exact ⟨mul_mono h1 (by grind), mul_mono h2 (by grind)⟩
theorem has_mul {x y : Iv} {a b : Rat} (h : x.has a) (h' : y.has b) : (x.mul y).has (a * b) := by
  obtain ⟨h3, h4⟩ := h'
  obtain ⟨p1, p2⟩ := has_scl h y.1
  obtain ⟨q1, q2⟩ := has_scl h y.2
  have e : x.mul y = (mn (x.scl y.1).1 (x.scl y.2).1, mx (x.scl y.1).2 (x.scl y.2).2) := rfl
  rw [e]
  have m1 := mn_l (x.scl y.1).1 (x.scl y.2).1
  have m2 := mn_r (x.scl y.1).1 (x.scl y.2).1
  have m3 := mx_l (x.scl y.1).2 (x.scl y.2).2
  have m4 := mx_r (x.scl y.1).2 (x.scl y.2).2
  -- a * b is between a * y.1 and a * y.2
  by_cases ha : 0 ≤ a
  · have z1 := Rat.mul_le_mul_of_nonneg_left h3 ha
    have z2 := Rat.mul_le_mul_of_nonneg_left h4 ha
    constructor <;> dsimp only <;> grind
  · have z1 : a * b ≤ a * y.1 := by
      have z := Rat.mul_le_mul_of_nonneg_left h3 (show 0 ≤ -a by grind)
      grind
    have z2 : a * y.2 ≤ a * b := by
      have z := Rat.mul_le_mul_of_nonneg_left h4 (show 0 ≤ -a by grind)
      grind
    constructor <;> dsimp only <;> grind
theorem even_mono {a b : Rat} (h : 0 ≤ a) (o : a ≤ b) (n : Nat) : a ^ n ≤ b ^ n := pow_mono h o n
theorem neg_pow_even (a : Rat) : ∀ m : Nat, (-a) ^ (2 * m) = a ^ (2 * m)
  | 0 => by rw [Nat.mul_zero, Rat.pow_zero, Rat.pow_zero]
  | m + 1 => by
    have e : ∀ y : Rat, y ^ (2 * (m + 1)) = y ^ (2 * m) * (y * y) := fun y => by
      rw [Nat.mul_succ, Rat.pow_succ, Rat.pow_succ]
      grind
    rw [e, e, neg_pow_even a m]
    grind
theorem has_rai {x : Iv} {a : Rat} (h : x.has a) (n : Nat) : (x.rai n).has (a ^ n) := by
  obtain ⟨h1, h2⟩ := h
  show rsl x.1 x.2 n ≤ a ^ n ∧ a ^ n ≤ rsh x.1 x.2 n
  unfold rsl rsh
  by_cases h0 : n = 0
  · subst h0
    simp [Rat.pow_zero]
  · rw [if_neg h0, if_neg h0]
    by_cases hm : n % 2 = 1
    · rw [if_pos hm, if_pos hm]
      have e : n = 2 * (n / 2) + 1 := by omega
      rw [e]
      exact ⟨odd_mono h1 _, odd_mono h2 _⟩
    · rw [if_neg hm, if_neg hm]
      have e : n = 2 * (n / 2) := by omega
      have m1 := mn_l (x.1 ^ n) (x.2 ^ n)
      have m2 := mn_r (x.1 ^ n) (x.2 ^ n)
      have m3 := mx_l (x.1 ^ n) (x.2 ^ n)
      have m4 := mx_r (x.1 ^ n) (x.2 ^ n)
      have nn : 0 ≤ a ^ n := by rw [e]; exact even_nn a _
      have up : a ^ n ≤ mx (x.1 ^ n) (x.2 ^ n) := by
        by_cases ha : 0 ≤ a
        · have := pow_mono ha h2 n
          grind
        · have z := pow_mono (a := -a) (b := -x.1) (by grind) (by grind) n
          rw [e, neg_pow_even, neg_pow_even, ← e] at z
          grind
      refine ⟨?_, up⟩
      split
      · exact nn
      · rename_i hz
        by_cases hx : 0 ≤ x.1
        · have := pow_mono hx h1 n
          grind
        · have hx2 : x.2 < 0 := by
            by_cases q : 0 ≤ x.2
            · exact absurd ⟨by grind, q⟩ hz
            · grind
          have z := pow_mono (a := -x.2) (b := -a) (by grind) (by grind) n
          rw [e, neg_pow_even, neg_pow_even, ← e] at z
          grind
/-! ### parts -/
def Iv.le (x y : Iv) : Prop := y.1 ≤ x.1 ∧ x.2 ≤ y.2
instance (x y : Iv) : Decidable (x.le y) := by unfold Iv.le; exact inferInstance
def Iv.lt (x y : Iv) : Prop := y.1 < x.1 ∧ x.2 < y.2
instance (x y : Iv) : Decidable (x.lt y) := by unfold Iv.lt; exact inferInstance
theorem nmod2 {n : Nat} : ((n : Int).fmod 2 = 1) ↔ n % 2 = 1 := by
  have z := Int.ofNat_fmod n 2
  rw [show ((2 : Nat) : Int) = 2 from rfl] at z
  rw [← z]
  omega
/-! ### terms and polynomials over ranges -/
/-- one factor of a term -/
def facI (t : Iv) (p : Iv × Int) : Iv := if p.2 = 0 then t else t.mul (p.1.rai p.2.toNat)
def facs (dom : List Iv) (e : List Int) : Iv := (dom.zip e).foldl facI (Iv.pt 1)
def trange (dom : List Iv) (t : Tm) : Iv := (facs dom t.1).scl t.2
def pbound (dom : List Iv) (p : List Tm) : Iv := p.foldl (fun s t => s.add (trange dom t)) (Iv.pt 0)
theorem has_facs : ∀ {dom : List Iv} {x : List Rat} {e : List Int} {t : Iv} {a : Rat}, dom.length = x.length → (∀ p ∈ dom.zip x, p.1.has p.2) → t.has a → ((dom.zip e).foldl facI t).has (a * mon x e)
  | [], [], e, t, a, _, _, ht => by
    cases e <;> simp only [List.zip_nil_left, List.foldl_nil, mon, Rat.mul_one] <;> exact ht
  | d :: dom, y :: x, [], t, a, _, _, ht => by simp only [List.zip_nil_right, List.foldl_nil, mon, Rat.mul_one]; exact ht
  | d :: dom, y :: x, n :: e, t, a, hl, h, ht => by
    have h1 : d.has y := h (d, y) (by simp)
    have ih := has_facs (dom := dom) (x := x) (e := e) (t := facI t (d, n)) (a := a * y ^ n.toNat) (by simpa using hl) (fun p m => h p (by rw [List.zip_cons_cons]; exact List.mem_cons_of_mem _ m)) (by
      unfold facI
      dsimp only
      split
      · rename_i hn
        rw [hn]
        simpa [Rat.pow_zero, Rat.mul_one] using ht
      · exact has_mul ht (has_rai h1 _))
    rw [List.zip_cons_cons, List.foldl_cons, mon, ← Rat.mul_assoc]
    exact ih
theorem has_trange {dom : List Iv} {x : List Rat} {t : Tm} (hl : dom.length = x.length) (h : ∀ p ∈ dom.zip x, p.1.has p.2) : (trange dom t).has (t.2 * mon x t.1) := by
  have z := has_facs (e := t.1) (t := Iv.pt 1) (a := 1) hl h (has_pt 1)
  rw [Rat.one_mul] at z
  rw [Rat.mul_comm]
  exact has_scl z t.2
theorem has_bound_gen {dom : List Iv} {x : List Rat} (hl : dom.length = x.length) (h : ∀ p ∈ dom.zip x, p.1.has p.2) : ∀ {p : List Tm} {s : Iv} {a : Rat}, s.has a → (p.foldl (fun s t => s.add (trange dom t)) s).has (a + vp x p)
  | [], s, a, ha => by show s.has (a + 0); rw [Rat.add_zero]; exact ha
  | t :: p, s, a, ha => by
    rw [List.foldl_cons]
    show Iv.has _ (a + (t.2 * mon x t.1 + vp x p))
    rw [← Rat.add_assoc]
    exact has_bound_gen hl h (has_add ha (has_trange hl h))
theorem has_bound {dom : List Iv} {x : List Rat} {p : List Tm} (hl : dom.length = x.length) (h : ∀ p ∈ dom.zip x, p.1.has p.2) : (pbound dom p).has (vp x p) := by
  have z := has_bound_gen hl h (p := p) (s := Iv.pt 0) (a := 0) (has_pt 0)
  rw [Rat.zero_add] at z
  exact z
/-! ### sizes of polynomials' ranges -/
theorem is_facs {k E : Nat} : ∀ {l : List (Iv × Int)} {t : Iv}, (∀ p ∈ l, is p.1 ≤ k ∧ p.2.toNat ≤ E) → is (l.foldl facI t) ≤ is t + l.length * (k * E + 1)
  | [], t, _ => by simp
  | p :: l, t, h => by
    obtain ⟨h1, h2⟩ := h p List.mem_cons_self
    have ih := is_facs (l := l) (t := facI t p) fun q m => h q (List.mem_cons_of_mem _ m)
    have z : is (facI t p) ≤ is t + (k * E + 1) := by
      unfold facI
      split
      · omega
      · have z1 := is_mul t (p.1.rai p.2.toNat)
        have z2 := is_rai p.1 p.2.toNat
        have z3 : is p.1 * p.2.toNat ≤ k * E := Nat.mul_le_mul h1 h2
        omega
    rw [List.foldl_cons, List.length_cons, Nat.add_mul]
    omega
theorem is_trange {k E n m : Nat} {dom : List Iv} {t : Tm} (hd : ∀ x ∈ dom, is x ≤ k) (hn : dom.length ≤ n) (he : ∀ i ∈ t.1, i.toNat ≤ E) (hq : qs t.2 ≤ m) : is (trange dom t) ≤ n * (k * E + 1) + 1 + m := by
  have z1 := is_facs (k := k) (E := E) (l := dom.zip t.1) (t := Iv.pt 1) fun p hp => ⟨hd _ (List.of_mem_zip hp).1, he _ (List.of_mem_zip hp).2⟩
  have z2 := is_scl (facs dom t.1) t.2
  rw [is_pt, qs_one] at z1
  have l : (dom.zip t.1).length ≤ n := by rw [List.length_zip]; omega
  have l2 := Nat.mul_le_mul_right (k * E + 1) l
  unfold facs at z2
  unfold trange facs
  omega
theorem is_bound {B : Nat} {dom : List Iv} : ∀ {p : List Tm} {s : Iv}, (∀ t ∈ p, is (trange dom t) ≤ B) → is (p.foldl (fun s t => s.add (trange dom t)) s) ≤ is s + p.length * (B + 1)
  | [], s, _ => by simp
  | t :: p, s, h => by
    have ih := is_bound (p := p) (s := s.add (trange dom t)) fun q m => h q (List.mem_cons_of_mem _ m)
    have z := is_add s (trange dom t)
    have h1 := h t List.mem_cons_self
    rw [List.foldl_cons, List.length_cons, Nat.add_mul]
    omega
end MP
end
section
set_option Elab.async false
set_option linter.all false
set_option maxRecDepth 100000
/-! MPRow: slices and items of rows. -/
namespace MP
open PySem
section
variable {S : Sto} {α β : Type}
theorem cut_map {f : α → β} {xs : List α} {lo hi : Option Int} : cut (xs.map f) lo hi = (cut xs lo hi).map f := by
  unfold cut
  rw [List.length_map, List.map_take, List.map_drop]
theorem edge_n {len d n : Nat} : edge len d (some (n : Int)) = min n len := by
  have h : ¬ (n : Int) < 0 := by omega
  simp [edge, h]
theorem cut_to {xs : List α} {n : Nat} : cut xs none (some (n : Int)) = xs.take n := by
  unfold cut
  rw [edge_n]
  simp only [edge, List.drop_zero, Nat.sub_zero]
  by_cases h : n ≤ xs.length
  · rw [Nat.min_eq_left h]
  · rw [Nat.min_eq_right (by omega), List.take_of_length_le (by omega), List.take_of_length_le (by omega)]
theorem cut_from {xs : List α} {n : Nat} : cut xs (some (n : Int)) none = xs.drop n := by
  unfold cut
  rw [edge_n]
  simp only [edge]
  by_cases h : n ≤ xs.length
  · rw [Nat.min_eq_left h, List.take_of_length_le (by simp)]
  · rw [Nat.min_eq_right (by omega), List.drop_of_length_le (by omega), List.drop_of_length_le (by omega)]
    simp
theorem cut_init {xs : List α} : cut xs none (some (-1)) = xs.dropLast := by
  unfold cut
  rw [List.dropLast_eq_take]
  simp only [edge, List.drop_zero, Nat.sub_zero]
  rw [if_pos (by decide)]
  congr 1
  omega
theorem itemAt_last {xs : List α} (h : xs ≠ []) : itemAt xs (-1) = xs.getLast? := by
  have l : 0 < xs.length := List.length_pos_iff.mpr h
  unfold itemAt placeOf
  rw [if_neg (by decide), if_pos (by omega), List.getLast?_eq_getElem?]
  show xs[((-1 : Int) + xs.length).toNat]? = _
  congr 1
  omega
@[simp] theorem sl_row {e : List Int} {lo hi : Option Int} : slV S (rowPV e) lo hi = some (rowPV (cut e lo hi)) := by
  unfold rowPV
  rw [zsl_tup, cut_map]
@[simp] theorem len_row {e : List Int} : biV S .len [rowPV e] = some (.int e.length) := by
  unfold rowPV
  rw [zbi_lent, List.length_map]
theorem ix_row {e : List Int} {i : Int} : ixV S (rowPV e) (.int i) = (itemAt e i).map PV.int := by
  unfold rowPV itemAt
  rw [zix_tup]
  unfold itemAt
  rw [List.length_map]
  cases h : placeOf e.length i <;> simp
theorem ad_row {a b : List Int} (h : a.length + b.length ≤ lenMax) : opV S .add (rowPV a) (rowPV b) = some (rowPV (a ++ b)) := by
  unfold rowPV
  rw [zop_at (by simpa using h), List.map_append]
theorem row1 {i : Int} : PV.tup [.int i] = rowPV [i] := rfl
theorem row_nat {n : Nat} {e : List Int} (h : n < e.length) : ixV S (rowPV e) (.int (n : Int)) = some (.int e[n]) := by
  rw [ix_row, itemAt_nat]
  simp [h]
theorem wk_row {e : List Int} : walkV S (rowPV e) = some (e.map .int, []) := by unfold rowPV; rw [zwk_tup]
@[simp] theorem sum_row {e : List Int} : biV S .sum [rowPV e] = some (.int e.sum) := by
  unfold rowPV
  rw [zbi_sum]
  simp
@[simp] theorem tr_row {e : List Int} : truV S (rowPV e) = some (!e.isEmpty) := by
  unfold rowPV
  rw [ztr_tup]
  cases e <;> rfl
@[simp] theorem tr_pl {p : List Tm} : truV S (pl p) = some (!p.isEmpty) := by
  unfold pl
  rw [ztr_tup]
  cases p <;> rfl
theorem row_std (e : List Int) : (rowPV e).std = true := by
  show PV.stds (e.map .int) = true
  induction e with
  | nil => rfl
  | cons i e ih => exact ih
theorem row_dp (e : List Int) : (rowPV e).dp ≤ 1 := by
  show PV.dps (e.map .int) + 1 ≤ 1
  have : PV.dps (e.map .int) = 0 := by
    induction e with
    | nil => rfl
    | cons i e ih =>
      show max (PV.dp (.int i)) (PV.dps (e.map .int)) = 0
      rw [ih]
      rfl
  omega
theorem fr_std (q : Rat) : (fr q).std = true := rfl
theorem tm_std (t : Tm) : (tm t).std = true := by
  have h := row_std t.1
  simp [tm, PV.std, PV.stds, h, fr_std]
theorem tm_dp (t : Tm) : (tm t).dp ≤ 2 := by
  have h := row_dp t.1
  have h2 : (fr t.2).dp = 1 := rfl
  simp only [tm, PV.dp, PV.dps, h2]
  omega
theorem pl_std (p : List Tm) : (pl p).std = true := by
  show PV.stds (p.map tm) = true
  induction p with
  | nil => rfl
  | cons t p ih =>
    show ((tm t).std && PV.stds (p.map tm)) = true
    rw [ih, tm_std]
    rfl
theorem pl_dp (p : List Tm) : (pl p).dp ≤ 3 := by
  show PV.dps (p.map tm) + 1 ≤ 3
  have : PV.dps (p.map tm) ≤ 2 := by
    induction p with
    | nil => exact Nat.zero_le _
    | cons t p ih =>
      have h := tm_dp t
      show max (tm t).dp (PV.dps (p.map tm)) ≤ 2
      omega
  omega
theorem row_inj {a b : List Int} (h : rowPV a = rowPV b) : a = b := by
  unfold rowPV at h
  injection h with h
  induction a generalizing b with
  | nil => cases b <;> first | rfl | cases h
  | cons i a ih =>
    cases b with
    | nil => cases h
    | cons j b =>
      rw [List.map_cons, List.map_cons] at h
      injection h with h1 h2
      injection h1 with h1
      rw [h1, ih h2]
theorem frInj {a b : Rat} (h : fr a = fr b) : a = b := by
  unfold fr pr at h
  injection h with h
  injection h with h1 h2
  injection h1 with h1
  injection h2 with h2
  injection h2 with h2
  exact Rat.ext h1 (by omega)
theorem tm_inj {a b : Tm} (h : tm a = tm b) : a = b := by
  obtain ⟨a1, a2⟩ := a
  obtain ⟨b1, b2⟩ := b
  unfold tm at h
  injection h with h
  injection h with h1 h2
  injection h2 with h2
  exact Prod.ext (row_inj h1) (frInj h2)
theorem pl_inj {p q : List Tm} (h : pl p = pl q) : p = q := by
  unfold pl at h
  injection h with h
  induction p generalizing q with
  | nil => cases q <;> first | rfl | cases h
  | cons i a ih =>
    cases q with
    | nil => cases h
    | cons j b =>
      rw [List.map_cons, List.map_cons] at h
      injection h with h1 h2
      rw [tm_inj h1, ih h2]
@[simp] theorem eqV_pl {p q : List Tm} : eqV S (pl p) (pl q) = some (decide (p = q)) := by
  have h1 := pl_dp p
  have h2 := pl_dp q
  rw [eqV_std (pl_std p) (pl_std q) (by omega) (by omega)]
  congr 1
  exact decide_eq_decide.mpr ⟨pl_inj, fun e => by rw [e]⟩
theorem rowsOf_map : ∀ {ks : List (List Int)}, (∀ e ∈ ks, e ≠ []) → rowsOf (ks.map rowPV) = some ks
  | [], _ => rfl
  | k :: ks, h => by
    have h1 := h k List.mem_cons_self
    have ih := rowsOf_map (ks := ks) fun e m => h e (List.mem_cons_of_mem _ m)
    cases k with
    | nil => exact absurd rfl h1
    | cons i k =>
      show (match intsOf ((i :: k).map PV.int), rowsOf (ks.map rowPV) with
        | some y, some r => if y.isEmpty then none else some (y :: r)
        | _, _ => none) = _
      rw [intsOf_map, ih]
      rfl
theorem sortV_rows {ks : List (List Int)} (h : ∀ e ∈ ks, e ≠ []) : sortV (ks.map rowPV) = some ((sortL lexI ks).map rowPV) := by
  cases ks with
  | nil => rfl
  | cons k ks =>
    unfold sortV
    have z : intsOf ((k :: ks).map rowPV) = none := rfl
    rw [z]
    show (rowsOf ((k :: ks).map rowPV)).map _ = _
    rw [rowsOf_map h]
    rfl
theorem pl_nil : PV.tup [] = pl [] := rfl
theorem eqV_pl0 {p : List Tm} : eqV S (pl p) (.tup []) = some (decide (p = [])) := eqV_pl (q := [])
theorem evi_rngN {C : Nat → List PV → Sto → R PV} {b : Nat} {e : E} {σ : Env} {S : Sto} {n : Nat} (h : ev C b e σ S = .ok (.int n) S) (hn : n < 1000000) : evi C b (.rng1 e) σ S = .ok ((List.range n).map fun (i : Nat) => PV.int (i : Int), []) S := by
  have sm : small (n : Int) = true := by
    unfold small
    have h1 : -(2 ^ 62 : Int) ≤ n := by omega
    have h2 : (n : Int) < 2 ^ 62 := by omega
    simp only [h1, h2, decide_true, Bool.and_self]
  rw [evi_rng1 h sm]
  unfold rngL
  simp
end
end MP
end
section
set_option Elab.async false
set_option linter.all false
set_option maxRecDepth 100000
/-! MPDraw: the laws' draws as functions. -/
namespace MP
open PySem
def mixF (c : Int) : Int := ((c.fmod 2147483647 * 48271 + 11).fmod 2147483647 * 69621 + 5).fmod 2147483629
theorem mixF_nn (c : Int) : 0 ≤ mixF c := Int.fmod_nonneg_of_pos _ (by decide)
def numF (c : Int) : Int := if 1000000000000000000 ≤ c then c else mixF c * 2147483629 + mixF (mixF c + c)
theorem numF_nn (c : Int) : 0 ≤ numF c := by
  unfold numF
  have h1 := mixF_nn c
  have h2 := mixF_nn (mixF c + c)
  split <;> omega
/-- the draws' state -/
structure DS where
  ns : List Int
  a : Int
  i : Nat
  c : Int
  ha : 0 ≤ a
def DS.sto (s : DS) (tl : List Cell) : Sto := G s.ns s.a s.i s.c tl
def DS.init (ns : List Int) : DS := ⟨ns, 0, 0, 1 + (ns.length : Int), Int.le_refl 0⟩
/-- the number that is drawn from -/
def DS.fill (s : DS) (m : Int) : Int := if s.a < m then (match s.ns[s.i]? with
  | some c => numF c
  | none => s.a) else s.a
theorem DS.fill_nn (s : DS) (m : Int) : 0 ≤ s.fill m := by
  have := s.ha
  unfold DS.fill
  split
  · split
    · exact numF_nn _
    · exact this
  · exact this
def DS.ni (s : DS) (m : Int) : Nat := if s.a < m ∧ s.i < s.ns.length then s.i + 1 else s.i
def DS.nc (s : DS) : Int := (s.c * 48271 + 7).fmod 2147483647
def DS.drw (s : DS) (m : Int) : Nat := if s.fill m = 0 then ((s.nc.fdiv 11).fmod m).toNat else ((s.fill m).fmod m).toNat
def DS.nxt (s : DS) (m : Int) : DS := ⟨s.ns, if 0 < m then (s.fill m).fdiv m else 0, s.ni m, if s.fill m = 0 then s.nc else s.c, by
  split
  · exact Int.fdiv_nonneg (s.fill_nn m) (by omega)
  · exact Int.le_refl 0⟩
theorem DS.drw_lt (s : DS) {m : Int} (h : 0 < m) : (s.drw m : Int) < m := by
  unfold DS.drw
  split
  · have h1 := Int.fmod_nonneg_of_pos (s.nc.fdiv 11) h
    have h2 := Int.fmod_lt_of_pos (s.nc.fdiv 11) h
    omega
  · have h1 := Int.fmod_nonneg_of_pos (s.fill m) h
    have h2 := Int.fmod_lt_of_pos (s.fill m) h
    omega
@[simp] theorem push_sto {s : DS} {tl : List Cell} {c : Cell} : Sto.push (s.sto tl) c = s.sto (tl ++ [c]) := rfl
@[simp] theorem len_sto {s : DS} {tl : List Cell} : Sto.len (s.sto tl) = 1 + tl.length := by rw [Nat.add_comm]; rfl
theorem cells_sto {s : DS} {tl : List Cell} : (s.sto tl).cells = .lst [.int s.a, .lst (s.ns.map .int), .int s.i, .int s.c] :: tl := rfl
@[simp] theorem len_cells {s : DS} {tl : List Cell} : (s.sto tl).cells.length = 1 + tl.length := by simp [cells_sto]; omega
@[simp] theorem cell_1 {s : DS} {c : Cell} {tl : List Cell} {h : 1 < (s.sto (c :: tl)).cells.length} : (s.sto (c :: tl)).cells[1]'h = c := by simp [cells_sto]
@[simp] theorem cell_2 {s : DS} {c c' : Cell} {tl : List Cell} {h : 2 < (s.sto (c :: c' :: tl)).cells.length} : (s.sto (c :: c' :: tl)).cells[2]'h = c' := by simp [cells_sto]
theorem run_D {C : Nat → List PV → Sto → MP.R PV} {fd : FDef} {args : List PV} {s s' : DS} {tl more : List Cell} {v : PV} (h : xss C (1 + tl.length) fd.body (args.map some ++ List.replicate (fd.nn - fd.np) none) (s.sto tl) = .ret v (s'.sto (tl ++ more))) (p : v.pure = true) : runF C fd args (s.sto tl) = .ok v (s'.sto tl) := by
  have z := run_retT (C := C) (fd := fd) (args := args) (S := s.sto tl) (v := v) (cs := (s'.sto (tl ++ more)).cells) (by rw [len_cells]; exact h) p
  rw [z, len_cells]
  have e : (s'.sto (tl ++ more)).cells.take (1 + tl.length) = (s'.sto tl).cells := by
    rw [show 1 + tl.length = tl.length + 1 by omega]
    simp [cells_sto]
  rw [e]
  rfl
theorem run_D0 {C : Nat → List PV → Sto → MP.R PV} {fd : FDef} {args : List PV} {s s' : DS} {tl : List Cell} {v : PV} (h : xss C (1 + tl.length) fd.body (args.map some ++ List.replicate (fd.nn - fd.np) none) (s.sto tl) = .ret v (s'.sto tl)) (p : v.pure = true) : runF C fd args (s.sto tl) = .ok v (s'.sto tl) :=
  run_D (more := []) (by rw [List.append_nil]; exact h) p
theorem sto_snoc {s : DS} {tl : List Cell} {c : Cell} : s.sto (tl ++ [c]) = ⟨(s.sto tl).cells ++ [c], false⟩ := rfl
theorem get_sto {s : DS} {tl : List Cell} {c : Cell} : (s.sto (tl ++ [c])).cells[1 + tl.length]? = some c := by
  rw [Nat.add_comm]
  simp [cells_sto]
theorem subR_sto {s : DS} {tl : List Cell} {σ : Env} {t : List Tm} {e : List Int} {q : Rat} (h : t.length < lenMax) : subR (1 + tl.length) σ (.ref (1 + tl.length)) (rowPV e) (fr q) (s.sto (tl ++ [.dT (kv t)])) = .next σ (s.sto (tl ++ [.dT (kv (putT t e q))])) := by
  have z := subR_end (cs := (s.sto tl).cells) (σ := σ) (e := e) (q := q) h
  rw [len_cells] at z
  exact z
/-- n draws, one after the other -/
def DS.seq {β : Type} (f : DS → β × DS) : Nat → DS → List β × DS
  | 0, s => ([], s)
  | n + 1, s => ((f s).1 :: (DS.seq f n (f s).2).1, (DS.seq f n (f s).2).2)
theorem DS.seq_len {β : Type} {f : DS → β × DS} : ∀ {n : Nat} {s : DS}, (DS.seq f n s).1.length = n
  | 0, _ => rfl
  | n + 1, s => by simp [DS.seq, DS.seq_len]
theorem DS.seq_all {β : Type} {f : DS → β × DS} {P : β → Prop} (h : ∀ s, P (f s).1) : ∀ {n : Nat} {s : DS}, ∀ x ∈ (DS.seq f n s).1, P x
  | 0, _ => fun x m => by cases m
  | n + 1, s => fun x m => by
    rcases List.mem_cons.mp m with rfl | m
    · exact h s
    · exact DS.seq_all h x m
theorem mapS_range {β : Type} {f : DS → β × DS} : ∀ {xs : List Nat} {s : DS}, mapS (fun s (_ : Nat) => f s) xs s = DS.seq f xs.length s
  | [], _ => rfl
  | x :: xs, s => by simp [mapS, DS.seq, mapS_range]
/-- a comprehension over a range, each part drawn -/
theorem ev_lcd {C : Nat → List PV → Sto → R PV} {b : Nat} {σ : Env} {j : Nat} {ne e : E} {s : DS} {tl : List Cell} {n : Nat} {β : Type} (out : β → PV) (f : DS → β × DS) (hn : ev C b ne σ (s.sto tl) = .ok (.int n) (s.sto tl)) (hl : n < 1000000)
    (h : ∀ (k : Nat) (s : DS), ev C b e ((σ.set j none).set j (some (.int k))) (s.sto tl) = .ok (out (f s).1) ((f s).2.sto tl)) : ev C b (.lc (.name j) [j] (.rng1 ne) .none e) σ (s.sto tl) = .ok (.lst ((DS.seq f n s).1.map out)) ((DS.seq f n s).2.sto tl) := by
  refine ev_lc (evi_rngN hn hl) ?_
  have z := lcLoop_st (g := fun S => stands S []) (bindL := fun x => bindT (.name j) x (wipe σ [j])) (test := evc C b .none) (elt := ev C b e) (fun (i : Nat) => PV.int (i : Int)) out (fun s => s.sto tl) (fun s (_ : Nat) => f s) (fun _ => rfl) (List.range n) [] s (by rw [List.length_range]; have : lenMax = 16777216 := rfl; simp; omega) fun k _ s => ⟨σ.set j (some (.int k)), by simp, by simp, by simpa using h k s⟩
  rw [mapS_range, List.length_range] at z
  simpa using z
end MP
end
section
set_option Elab.async false
set_option linter.all false
set_option maxRecDepth 100000
set_option maxHeartbeats 4000000
/-! the defs of the text as MP has them (printed by wip/gen.py) -/
namespace K06
open PySem PySem.Spec PyProof.Rows L2 MP
def top (i : Nat) : Stmt := PySem.Challenge.pw_motionsheld_k06_polynomials.main.body.getD i (.Pass ⟨0, 0, 0, 0⟩)
def st_make_0 : MP.St := .ifs (.cmp .eq (.var 1) (.cst (.int 0))) (.cons (.raise 0 .nil) .nil) .nil
def st_make_1 : MP.St := .ifs (.cmp .lt (.var 1) (.cst (.int 0))) (.cons (.asg (.of (.name 0)) (.neg (.var 0)))
  (.cons (.asg (.of (.name 1)) (.neg (.var 1))) .nil)) .nil
def st_make_2 : MP.St := .asg (.of (.name 2)) (.bi .gcd (.cons (.var 0) (.cons (.var 1) .nil)))
def st_make_3 : MP.St := .ret (.tup (.cons (.bin .fdiv (.var 0) (.var 2)) (.cons (.bin .fdiv (.var 1) (.var 2)) .nil)))
def b_make : Ss := .cons st_make_0 (.cons st_make_1 (.cons st_make_2 (.cons st_make_3 .nil)))
def st_add_0 : MP.St := .ifs (.cmp .eq (.ix (.var 0) (.cst (.int 1))) (.ix (.var 1) (.cst (.int 1)))) (.cons (.ret (.call 0 (.cons (.bin .add (.ix (.var 0) (.cst (.int 0))) (.ix (.var 1) (.cst (.int 0)))) (.cons (.ix (.var 0) (.cst (.int 1))) .nil)))) .nil) .nil
def st_add_1 : MP.St := .ret (.call 0 (.cons (.bin .add (.bin .mul (.ix (.var 0) (.cst (.int 0))) (.ix (.var 1) (.cst (.int 1)))) (.bin .mul (.ix (.var 1) (.cst (.int 0))) (.ix (.var 0) (.cst (.int 1))))) (.cons (.bin .mul (.ix (.var 0) (.cst (.int 1))) (.ix (.var 1) (.cst (.int 1)))) .nil)))
def b_add : Ss := .cons st_add_0 (.cons st_add_1 .nil)
def st_neg_0 : MP.St := .ret (.tup (.cons (.neg (.ix (.var 0) (.cst (.int 0)))) (.cons (.ix (.var 0) (.cst (.int 1))) .nil)))
def b_neg : Ss := .cons st_neg_0 .nil
def st_mul_0 : MP.St := .ret (.call 0 (.cons (.bin .mul (.ix (.var 0) (.cst (.int 0))) (.ix (.var 1) (.cst (.int 0)))) (.cons (.bin .mul (.ix (.var 0) (.cst (.int 1))) (.ix (.var 1) (.cst (.int 1)))) .nil)))
def b_mul : Ss := .cons st_mul_0 .nil
def st_div_0 : MP.St := .ret (.call 0 (.cons (.bin .mul (.ix (.var 0) (.cst (.int 0))) (.ix (.var 1) (.cst (.int 1)))) (.cons (.bin .mul (.ix (.var 0) (.cst (.int 1))) (.ix (.var 1) (.cst (.int 0)))) .nil)))
def b_div : Ss := .cons st_div_0 .nil
def st_compare_0 : MP.St := .asg (.of (.name 2)) (.bin .mul (.ix (.var 0) (.cst (.int 0))) (.ix (.var 1) (.cst (.int 1))))
def st_compare_1 : MP.St := .asg (.of (.name 3)) (.bin .mul (.ix (.var 1) (.cst (.int 0))) (.ix (.var 0) (.cst (.int 1))))
def st_compare_2 : MP.St := .ifs (.cmp .lt (.var 2) (.var 3)) (.cons (.ret (.neg (.cst (.int 1)))) .nil) .nil
def st_compare_3 : MP.St := .ret (.ife (.cmp .gt (.var 2) (.var 3)) (.cst (.int 1)) (.cst (.int 0)))
def b_compare : Ss := .cons st_compare_0 (.cons st_compare_1 (.cons st_compare_2 (.cons st_compare_3 .nil)))
def st_least_0 : MP.St := .ret (.ife (.cmp .lt (.call 5 (.cons (.var 1) (.cons (.var 0) .nil))) (.cst (.int 0))) (.var 1) (.var 0))
def b_least : Ss := .cons st_least_0 .nil
def st_greatest_0 : MP.St := .ret (.ife (.cmp .gt (.call 5 (.cons (.var 1) (.cons (.var 0) .nil))) (.cst (.int 0))) (.var 1) (.var 0))
def b_greatest : Ss := .cons st_greatest_0 .nil
def st_power_0 : MP.St := .asg (.of (.name 2)) (.cst (.tup [.int 1, .int 1]))
def bk_power_0 : MP.Ss := .cons (.asg (.of (.name 2)) (.call 3 (.cons (.var 2) (.cons (.var 0) .nil)))) .nil
def st_power_1 : MP.St := .fors (.name 3) (.rng1 (.var 1)) bk_power_0
def st_power_2 : MP.St := .ret (.var 2)
def b_power : Ss := .cons st_power_0 (.cons st_power_1 (.cons st_power_2 .nil))
def st_point_0 : MP.St := .ret (.tup (.cons (.var 0) (.cons (.var 0) .nil)))
def b_point : Ss := .cons st_point_0 .nil
def st_hull_0 : MP.St := .ret (.tup (.cons (.call 6 (.cons (.ix (.var 0) (.cst (.int 0))) (.cons (.ix (.var 1) (.cst (.int 0))) .nil))) (.cons (.call 7 (.cons (.ix (.var 0) (.cst (.int 1))) (.cons (.ix (.var 1) (.cst (.int 1))) .nil))) .nil)))
def b_hull : Ss := .cons st_hull_0 .nil
def st_plus_0 : MP.St := .ret (.tup (.cons (.call 1 (.cons (.ix (.var 0) (.cst (.int 0))) (.cons (.ix (.var 1) (.cst (.int 0))) .nil))) (.cons (.call 1 (.cons (.ix (.var 0) (.cst (.int 1))) (.cons (.ix (.var 1) (.cst (.int 1))) .nil))) .nil)))
def b_plus : Ss := .cons st_plus_0 .nil
def st_scaled_0 : MP.St := .ifs (.cmp .lt (.ix (.var 1) (.cst (.int 0))) (.cst (.int 0))) (.cons (.ret (.tup (.cons (.call 3 (.cons (.ix (.var 0) (.cst (.int 1))) (.cons (.var 1) .nil))) (.cons (.call 3 (.cons (.ix (.var 0) (.cst (.int 0))) (.cons (.var 1) .nil))) .nil)))) .nil) .nil
def st_scaled_1 : MP.St := .ret (.tup (.cons (.call 3 (.cons (.ix (.var 0) (.cst (.int 0))) (.cons (.var 1) .nil))) (.cons (.call 3 (.cons (.ix (.var 0) (.cst (.int 1))) (.cons (.var 1) .nil))) .nil)))
def b_scaled : Ss := .cons st_scaled_0 (.cons st_scaled_1 .nil)
def st_times_0 : MP.St := .ret (.call 10 (.cons (.call 12 (.cons (.var 0) (.cons (.ix (.var 1) (.cst (.int 0))) .nil))) (.cons (.call 12 (.cons (.var 0) (.cons (.ix (.var 1) (.cst (.int 1))) .nil))) .nil)))
def b_times : Ss := .cons st_times_0 .nil
def st_has_0 : MP.St := .ret (.and (.cmp .le (.call 5 (.cons (.ix (.var 0) (.cst (.int 0))) (.cons (.var 1) .nil))) (.cst (.int 0))) (.cmp .le (.call 5 (.cons (.var 1) (.cons (.ix (.var 0) (.cst (.int 1))) .nil))) (.cst (.int 0))))
def b_has : Ss := .cons st_has_0 .nil
def st_raised_0 : MP.St := .ifs (.cmp .eq (.var 1) (.cst (.int 0))) (.cons (.ret (.call 9 (.cons (.cst (.tup [.int 1, .int 1])) .nil))) .nil) .nil
def st_raised_1 : MP.St := .asg (.of (.name 2)) (.call 8 (.cons (.ix (.var 0) (.cst (.int 0))) (.cons (.var 1) .nil)))
def st_raised_2 : MP.St := .asg (.of (.name 3)) (.call 8 (.cons (.ix (.var 0) (.cst (.int 1))) (.cons (.var 1) .nil)))
def st_raised_3 : MP.St := .ifs (.cmp .eq (.bin .mod (.var 1) (.cst (.int 2))) (.cst (.int 1))) (.cons (.ret (.tup (.cons (.var 2) (.cons (.var 3) .nil)))) .nil) .nil
def st_raised_4 : MP.St := .ifs (.call 14 (.cons (.var 0) (.cons (.cst (.tup [.int 0, .int 1])) .nil))) (.cons (.ret (.tup (.cons (.cst (.tup [.int 0, .int 1])) (.cons (.call 7 (.cons (.var 2) (.cons (.var 3) .nil))) .nil)))) .nil) .nil
def st_raised_5 : MP.St := .ret (.tup (.cons (.call 6 (.cons (.var 2) (.cons (.var 3) .nil))) (.cons (.call 7 (.cons (.var 2) (.cons (.var 3) .nil))) .nil)))
def b_raised : Ss := .cons st_raised_0 (.cons st_raised_1 (.cons st_raised_2 (.cons st_raised_3 (.cons st_raised_4 (.cons st_raised_5 .nil)))))
def st__from_terms_0 : MP.St := .ret (.bi .tuple (.cons (.lc (.name 1) [1] (.seq (.bi .sorted (.cons (.var 0) .nil))) (.some (.cmp .ne (.ix (.ix (.var 0) (.var 1)) (.cst (.int 0))) (.cst (.int 0)))) (.tup (.cons (.var 1) (.cons (.ix (.var 0) (.var 1)) .nil)))) .nil))
def b__from_terms : Ss := .cons st__from_terms_0 .nil
def st_poly_number_0 : MP.St := .ret (.ife (.cmp .eq (.ix (.var 1) (.cst (.int 0))) (.cst (.int 0))) (.tup .nil) (.tup (.cons (.tup (.cons (.bin .mul (.tup (.cons (.cst (.int 0)) .nil)) (.bin .add (.var 0) (.cst (.int 1)))) (.cons (.var 1) .nil))) .nil)))
def b_poly_number : Ss := .cons st_poly_number_0 .nil
def st_poly_parameter_0 : MP.St := .ret (.tup (.cons (.tup (.cons (.bi .tuple (.cons (.lc (.name 2) [2] (.rng1 (.bin .add (.var 0) (.cst (.int 1)))) .none (.ife (.cmp .eq (.var 2) (.var 1)) (.cst (.int 1)) (.cst (.int 0)))) .nil)) (.cons (.cst (.tup [.int 1, .int 1])) .nil))) .nil))
def b_poly_parameter : Ss := .cons st_poly_parameter_0 .nil
def st_poly_time_0 : MP.St := .ret (.call 18 (.cons (.var 0) (.cons (.var 0) .nil)))
def b_poly_time : Ss := .cons st_poly_time_0 .nil
def st_poly_add_0 : MP.St := .asg (.of (.name 2)) (.dnew true)
def bk_poly_add_0 : MP.Ss := .cons (.asg (.sub (.var 2) (.var 3)) (.call 1 (.cons (.dget (.var 2) (.var 3) (.cst (.tup [.int 0, .int 1]))) (.cons (.var 4) .nil)))) .nil
def st_poly_add_1 : MP.St := .fors (.tup (.cons (.name 3) (.cons (.name 4) .nil))) (.seq (.bin .add (.var 0) (.var 1))) bk_poly_add_0
def st_poly_add_2 : MP.St := .ret (.call 16 (.cons (.var 2) .nil))
def b_poly_add : Ss := .cons st_poly_add_0 (.cons st_poly_add_1 (.cons st_poly_add_2 .nil))
def st_poly_scaled_0 : MP.St := .ifs (.cmp .eq (.ix (.var 1) (.cst (.int 0))) (.cst (.int 0))) (.cons (.ret (.tup .nil)) .nil) .nil
def st_poly_scaled_1 : MP.St := .ret (.bi .tuple (.cons (.lc (.tup (.cons (.name 2) (.cons (.name 3) .nil))) [2, 3] (.seq (.var 0)) .none (.tup (.cons (.var 2) (.cons (.call 3 (.cons (.var 3) (.cons (.var 1) .nil))) .nil)))) .nil))
def b_poly_scaled : Ss := .cons st_poly_scaled_0 (.cons st_poly_scaled_1 .nil)
def st_poly_sub_0 : MP.St := .ret (.call 20 (.cons (.var 0) (.cons (.bi .tuple (.cons (.lc (.tup (.cons (.name 2) (.cons (.name 3) .nil))) [2, 3] (.seq (.var 1)) .none (.tup (.cons (.var 2) (.cons (.call 2 (.cons (.var 3) .nil)) .nil)))) .nil)) .nil)))
def b_poly_sub : Ss := .cons st_poly_sub_0 .nil
def st_poly_mul_0 : MP.St := .asg (.of (.name 2)) (.dnew true)
def bk_poly_mul_0 : MP.Ss := .cons (.asg (.of (.name 7)) (.bi .tuple (.cons (.lc (.tup (.cons (.name 8) (.cons (.name 9) .nil))) [8, 9] (.zip (.var 3) (.var 5)) .none (.bin .add (.var 8) (.var 9))) .nil)))
  (.cons (.asg (.sub (.var 2) (.var 7)) (.call 1 (.cons (.dget (.var 2) (.var 7) (.cst (.tup [.int 0, .int 1]))) (.cons (.call 3 (.cons (.var 4) (.cons (.var 6) .nil))) .nil)))) .nil)
def bk_poly_mul_1 : MP.Ss := .cons (.fors (.tup (.cons (.name 5) (.cons (.name 6) .nil))) (.seq (.var 1)) bk_poly_mul_0) .nil
def st_poly_mul_1 : MP.St := .fors (.tup (.cons (.name 3) (.cons (.name 4) .nil))) (.seq (.var 0)) bk_poly_mul_1
def st_poly_mul_2 : MP.St := .ret (.call 16 (.cons (.var 2) .nil))
def b_poly_mul : Ss := .cons st_poly_mul_0 (.cons st_poly_mul_1 (.cons st_poly_mul_2 .nil))
def st_poly_value_0 : MP.St := .asg (.of (.name 2)) (.cst (.tup [.int 0, .int 1]))
def bk_poly_value_0 : MP.Ss := .cons (.asg (.of (.name 4)) (.call 3 (.cons (.var 4) (.cons (.call 8 (.cons (.var 5) (.cons (.var 6) .nil))) .nil)))) .nil
def bk_poly_value_1 : MP.Ss := .cons (.fors (.tup (.cons (.name 5) (.cons (.name 6) .nil))) (.zip (.var 1) (.var 3)) bk_poly_value_0)
  (.cons (.asg (.of (.name 2)) (.call 1 (.cons (.var 2) (.cons (.var 4) .nil)))) .nil)
def st_poly_value_1 : MP.St := .fors (.tup (.cons (.name 3) (.cons (.name 4) .nil))) (.seq (.var 0)) bk_poly_value_1
def st_poly_value_2 : MP.St := .ret (.var 2)
def b_poly_value : Ss := .cons st_poly_value_0 (.cons st_poly_value_1 (.cons st_poly_value_2 .nil))
def st_poly_fixed_0 : MP.St := .asg (.of (.name 3)) (.dnew true)
def bk_poly_fixed_0 : MP.Ss := .cons (.asg (.of (.name 6)) (.bin .add (.bin .add (.slc (.var 4) .none (.some (.var 1))) (.tup (.cons (.cst (.int 0)) .nil))) (.slc (.var 4) (.some (.bin .add (.var 1) (.cst (.int 1)))) .none)))
  (.cons (.asg (.sub (.var 3) (.var 6)) (.call 1 (.cons (.dget (.var 3) (.var 6) (.cst (.tup [.int 0, .int 1]))) (.cons (.call 3 (.cons (.var 5) (.cons (.call 8 (.cons (.var 2) (.cons (.ix (.var 4) (.var 1)) .nil))) .nil))) .nil)))) .nil)
def st_poly_fixed_1 : MP.St := .fors (.tup (.cons (.name 4) (.cons (.name 5) .nil))) (.seq (.var 0)) bk_poly_fixed_0
def st_poly_fixed_2 : MP.St := .ret (.call 16 (.cons (.var 3) .nil))
def b_poly_fixed : Ss := .cons st_poly_fixed_0 (.cons st_poly_fixed_1 (.cons st_poly_fixed_2 .nil))
def st_poly_at_time_0 : MP.St := .ifs (.not (.var 0)) (.cons (.ret (.tup .nil)) .nil) .nil
def st_poly_at_time_1 : MP.St := .ret (.call 25 (.cons (.var 0) (.cons (.bin .sub (.bi .len (.cons (.ix (.ix (.var 0) (.cst (.int 0))) (.cst (.int 0))) .nil)) (.cst (.int 1))) (.cons (.var 1) .nil))))
def b_poly_at_time : Ss := .cons st_poly_at_time_0 (.cons st_poly_at_time_1 .nil)
def st_poly_integral_0 : MP.St := .ret (.bi .tuple (.cons (.lc (.tup (.cons (.name 1) (.cons (.name 2) .nil))) [1, 2] (.seq (.var 0)) .none (.tup (.cons (.bin .add (.slc (.var 1) .none (.some (.neg (.cst (.int 1))))) (.tup (.cons (.bin .add (.ix (.var 1) (.neg (.cst (.int 1)))) (.cst (.int 1))) .nil))) (.cons (.call 4 (.cons (.var 2) (.cons (.tup (.cons (.bin .add (.ix (.var 1) (.neg (.cst (.int 1)))) (.cst (.int 1))) (.cons (.cst (.int 1)) .nil))) .nil))) .nil)))) .nil))
def b_poly_integral : Ss := .cons st_poly_integral_0 .nil
def st_term_range_0 : MP.St := .asg (.of (.name 3)) (.call 9 (.cons (.cst (.tup [.int 1, .int 1])) .nil))
def bk_term_range_0 : MP.Ss := .cons (.ifs (.var 5) (.cons (.asg (.of (.name 3)) (.call 13 (.cons (.var 3) (.cons (.call 15 (.cons (.var 4) (.cons (.var 5) .nil))) .nil)))) .nil) .nil) .nil
def st_term_range_1 : MP.St := .fors (.tup (.cons (.name 4) (.cons (.name 5) .nil))) (.zip (.var 2) (.var 0)) bk_term_range_0
def st_term_range_2 : MP.St := .ret (.call 12 (.cons (.var 3) (.cons (.var 1) .nil)))
def b_term_range : Ss := .cons st_term_range_0 (.cons st_term_range_1 (.cons st_term_range_2 .nil))
def st_poly_bound_0 : MP.St := .asg (.of (.name 2)) (.call 9 (.cons (.cst (.tup [.int 0, .int 1])) .nil))
def bk_poly_bound_0 : MP.Ss := .cons (.asg (.of (.name 2)) (.call 11 (.cons (.var 2) (.cons (.call 28 (.cons (.var 3) (.cons (.var 4) (.cons (.var 1) .nil)))) .nil)))) .nil
def st_poly_bound_1 : MP.St := .fors (.tup (.cons (.name 3) (.cons (.name 4) .nil))) (.seq (.var 0)) bk_poly_bound_0
def st_poly_bound_2 : MP.St := .ret (.var 2)
def b_poly_bound : Ss := .cons st_poly_bound_0 (.cons st_poly_bound_1 (.cons st_poly_bound_2 .nil))
def st__law_mix_0 : MP.St := .asg (.of (.name 1)) (.bin .mod (.bi .int (.cons (.var 0) .nil)) (.cst (.int 2147483647)))
def st__law_mix_1 : MP.St := .asg (.of (.name 1)) (.bin .mod (.bi .int (.cons (.bin .add (.bin .mul (.var 1) (.cst (.int 48271))) (.cst (.int 11))) .nil)) (.cst (.int 2147483647)))
def st__law_mix_2 : MP.St := .ret (.bin .mod (.bi .int (.cons (.bin .add (.bin .mul (.var 1) (.cst (.int 69621))) (.cst (.int 5))) .nil)) (.cst (.int 2147483629)))
def b__law_mix : Ss := .cons st__law_mix_0 (.cons st__law_mix_1 (.cons st__law_mix_2 .nil))
def st__law_number_0 : MP.St := .ifs (.cmp .ge (.var 0) (.bin .pow (.cst (.int 10)) (.cst (.int 18)))) (.cons (.ret (.var 0)) .nil) .nil
def st__law_number_1 : MP.St := .asg (.of (.name 1)) (.call 30 (.cons (.var 0) .nil))
def st__law_number_2 : MP.St := .ret (.bin .add (.bin .mul (.var 1) (.cst (.int 2147483629))) (.call 30 (.cons (.bin .add (.var 1) (.var 0)) .nil)))
def b__law_number : Ss := .cons st__law_number_0 (.cons st__law_number_1 (.cons st__law_number_2 .nil))
def st__law_state_0 : MP.St := .ret (.new (.lst (.cons (.cst (.int 0)) (.cons (.bi .list (.cons (.var 0) .nil)) (.cons (.cst (.int 0)) (.cons (.bin .add (.cst (.int 1)) (.bi .len (.cons (.var 0) .nil))) .nil))))))
def b__law_state : Ss := .cons st__law_state_0 .nil
def st__law_draw_0 : MP.St := .ifs (.and (.cmp .lt (.ix (.var 0) (.cst (.int 0))) (.var 1)) (.cmp .lt (.ix (.var 0) (.cst (.int 2))) (.bi .len (.cons (.ix (.var 0) (.cst (.int 1))) .nil)))) (.cons (.asg (.sub (.var 0) (.cst (.int 0))) (.call 31 (.cons (.ix (.ix (.var 0) (.cst (.int 1))) (.ix (.var 0) (.cst (.int 2)))) .nil)))
  (.cons (.asg (.sub (.var 0) (.cst (.int 2))) (.bin .add (.ix (.var 0) (.cst (.int 2))) (.cst (.int 1)))) .nil)) .nil
def st__law_draw_1 : MP.St := .ifs (.cmp .eq (.ix (.var 0) (.cst (.int 0))) (.cst (.int 0))) (.cons (.asg (.sub (.var 0) (.cst (.int 3))) (.bin .mod (.bi .int (.cons (.bin .add (.bin .mul (.ix (.var 0) (.cst (.int 3))) (.cst (.int 48271))) (.cst (.int 7))) .nil)) (.cst (.int 2147483647))))
  (.cons (.ret (.bin .mod (.bi .int (.cons (.bin .fdiv (.ix (.var 0) (.cst (.int 3))) (.cst (.int 11))) .nil)) (.var 1))) .nil)) .nil
def st__law_draw_2 : MP.St := .asg (.of (.name 2)) (.bin .mod (.bi .int (.cons (.ix (.var 0) (.cst (.int 0))) .nil)) (.var 1))
def st__law_draw_3 : MP.St := .asg (.sub (.var 0) (.cst (.int 0))) (.bin .fdiv (.ix (.var 0) (.cst (.int 0))) (.var 1))
def st__law_draw_4 : MP.St := .ret (.var 2)
def b__law_draw : Ss := .cons st__law_draw_0 (.cons st__law_draw_1 (.cons st__law_draw_2 (.cons st__law_draw_3 (.cons st__law_draw_4 .nil))))
def st__law_pair_0 : MP.St := .asg (.of (.name 1)) (.bin .add (.cst (.int 1)) (.call 33 (.cons (.var 0) (.cons (.cst (.int 5)) .nil))))
def st__law_pair_1 : MP.St := .ret (.call 0 (.cons (.bin .sub (.call 33 (.cons (.var 0) (.cons (.bin .add (.bin .mul (.cst (.int 8)) (.var 1)) (.cst (.int 1))) .nil))) (.bin .mul (.cst (.int 4)) (.var 1))) (.cons (.var 1) .nil)))
def b__law_pair : Ss := .cons st__law_pair_0 (.cons st__law_pair_1 .nil)
def st__law_poly_0 : MP.St := .asg (.of (.name 2)) (.dnew true)
def bk__law_poly_0 : MP.Ss := .cons (.asg (.of (.name 4)) (.bi .tuple (.cons (.lc (.name 6) [6] (.rng1 (.bin .add (.var 1) (.cst (.int 1)))) .none (.call 33 (.cons (.var 0) (.cons (.cst (.int 4)) .nil)))) .nil)))
  (.cons (.asg (.of (.name 5)) (.call 34 (.cons (.var 0) .nil)))
  (.cons (.ifs (.cmp .ne (.ix (.var 5) (.cst (.int 0))) (.cst (.int 0))) (.cons (.asg (.sub (.var 2) (.var 4)) (.var 5)) .nil) .nil) .nil))
def st__law_poly_1 : MP.St := .fors (.name 3) (.rng1 (.call 33 (.cons (.var 0) (.cons (.cst (.int 6)) .nil)))) bk__law_poly_0
def st__law_poly_2 : MP.St := .ret (.bi .tuple (.cons (.lc (.name 4) [4] (.seq (.bi .sorted (.cons (.bi .list (.cons (.var 2) .nil)) .nil))) .none (.tup (.cons (.var 4) (.cons (.ix (.var 2) (.var 4)) .nil)))) .nil))
def b__law_poly : Ss := .cons st__law_poly_0 (.cons st__law_poly_1 (.cons st__law_poly_2 .nil))
def st__law_value_0 : MP.St := .asg (.of (.tup (.cons (.name 2) (.cons (.name 3) .nil)))) (.tup (.cons (.cst (.int 0)) (.cons (.cst (.int 1)) .nil)))
def bk__law_value_0 : MP.Ss := .cons (.par 6 7 (.bin .mul (.var 6) (.ix (.ix (.var 1) (.var 8)) (.cst (.int 0)))) (.bin .mul (.var 7) (.ix (.ix (.var 1) (.var 8)) (.cst (.int 1))))) .nil
def bk__law_value_1 : MP.Ss := .cons (.fors (.name 9) (.rng1 (.ix (.var 4) (.var 8))) bk__law_value_0) .nil
def bk__law_value_2 : MP.Ss := .cons (.par 6 7 (.ix (.var 5) (.cst (.int 0))) (.ix (.var 5) (.cst (.int 1))))
  (.cons (.fors (.name 8) (.rng1 (.bi .len (.cons (.var 4) .nil))) bk__law_value_1)
  (.cons (.par 2 3 (.bin .add (.bin .mul (.var 2) (.var 7)) (.bin .mul (.var 6) (.var 3))) (.bin .mul (.var 3) (.var 7))) .nil))
def st__law_value_1 : MP.St := .fors (.tup (.cons (.name 4) (.cons (.name 5) .nil))) (.seq (.var 0)) bk__law_value_2
def st__law_value_2 : MP.St := .ret (.call 0 (.cons (.var 2) (.cons (.var 3) .nil)))
def b__law_value : Ss := .cons st__law_value_0 (.cons st__law_value_1 (.cons st__law_value_2 .nil))
def st__law_shape_0 : MP.St := .asg (.of (.name 2)) (.cst .non)
def bk__law_shape_0 : MP.Ss := .cons (.ifs (.or (.cmp .ne (.bi .len (.cons (.var 3) .nil)) (.bin .add (.var 1) (.cst (.int 1)))) (.or (.cmp .eq (.ix (.var 4) (.cst (.int 0))) (.cst (.int 0))) (.cmp .ne (.call 0 (.cons (.ix (.var 4) (.cst (.int 0))) (.cons (.ix (.var 4) (.cst (.int 1))) .nil))) (.var 4)))) (.cons (.ret (.cst (.bl false))) .nil) .nil)
  (.cons (.ifs (.and (.cmp .nisn (.var 2) (.cst .non)) (.not (.cmp .lt (.var 2) (.var 3)))) (.cons (.ret (.cst (.bl false))) .nil) .nil)
  (.cons (.asg (.of (.name 2)) (.var 3)) .nil))
def st__law_shape_1 : MP.St := .fors (.tup (.cons (.name 3) (.cons (.name 4) .nil))) (.seq (.var 0)) bk__law_shape_0
def st__law_shape_2 : MP.St := .ret (.isi (.var 0) .tup)
def b__law_shape : Ss := .cons st__law_shape_0 (.cons st__law_shape_1 (.cons st__law_shape_2 .nil))
def st__law_is_0 : MP.St := .ret (.and (.call 37 (.cons (.var 0) (.cons (.var 1) .nil))) (.and (.cmp .eq (.call 36 (.cons (.var 0) (.cons (.var 2) .nil))) (.var 3)) (.cmp .eq (.call 24 (.cons (.var 0) (.cons (.var 2) .nil))) (.var 3))))
def b__law_is : Ss := .cons st__law_is_0 .nil
def st__law_fixed_0 : MP.St := .asg (.of (.name 5)) (.call 25 (.cons (.var 0) (.cons (.var 3) (.cons (.var 4) .nil))))
def st__law_fixed_1 : MP.St := .asg (.of (.name 6)) (.bin .add (.bin .add (.slc (.var 2) .none (.some (.var 3))) (.lst (.cons (.var 4) .nil))) (.slc (.var 2) (.some (.bin .add (.var 3) (.cst (.int 1)))) .none))
def st__law_fixed_2 : MP.St := .asg (.of (.name 7)) (.bin .add (.bin .add (.slc (.var 2) .none (.some (.var 3))) (.lst (.cons (.tup (.cons (.cst (.int 5)) (.cons (.cst (.int 3)) .nil))) .nil))) (.slc (.var 2) (.some (.bin .add (.var 3) (.cst (.int 1)))) .none))
def st__law_fixed_3 : MP.St := .ifs (.or (.not (.call 38 (.cons (.var 5) (.cons (.var 1) (.cons (.var 2) (.cons (.call 36 (.cons (.var 0) (.cons (.var 6) .nil))) .nil)))))) (.cmp .ne (.call 36 (.cons (.var 5) (.cons (.var 7) .nil))) (.call 36 (.cons (.var 5) (.cons (.var 2) .nil))))) (.cons (.ret (.cst (.bl false))) .nil) .nil
def st__law_fixed_4 : MP.St := .asg (.of (.name 8)) (.call 26 (.cons (.var 0) (.cons (.var 4) .nil)))
def st__law_fixed_5 : MP.St := .ret (.and (.call 38 (.cons (.var 8) (.cons (.var 1) (.cons (.var 2) (.cons (.call 36 (.cons (.var 0) (.cons (.bin .add (.slc (.var 2) .none (.some (.neg (.cst (.int 1))))) (.lst (.cons (.var 4) .nil))) .nil))) .nil))))) (.cmp .eq (.call 36 (.cons (.var 8) (.cons (.bin .add (.slc (.var 2) .none (.some (.neg (.cst (.int 1))))) (.lst (.cons (.tup (.cons (.cst (.int 5)) (.cons (.cst (.int 3)) .nil))) .nil))) .nil))) (.call 36 (.cons (.var 8) (.cons (.var 2) .nil)))))
def b__law_fixed : Ss := .cons st__law_fixed_0 (.cons st__law_fixed_1 (.cons st__law_fixed_2 (.cons st__law_fixed_3 (.cons st__law_fixed_4 (.cons st__law_fixed_5 .nil)))))
def st__law_integral_0 : MP.St := .asg (.of (.name 3)) (.call 27 (.cons (.var 0) .nil))
def st__law_integral_1 : MP.St := .ifs (.or (.not (.call 37 (.cons (.var 3) (.cons (.var 1) .nil)))) (.or (.cmp .ne (.call 36 (.cons (.var 3) (.cons (.bin .add (.slc (.var 2) .none (.some (.neg (.cst (.int 1))))) (.lst (.cons (.tup (.cons (.cst (.int 0)) (.cons (.cst (.int 1)) .nil))) .nil))) .nil))) (.tup (.cons (.cst (.int 0)) (.cons (.cst (.int 1)) .nil)))) (.cmp .ne (.bi .len (.cons (.var 3) .nil)) (.bi .len (.cons (.var 0) .nil))))) (.cons (.ret (.cst (.bl false))) .nil) .nil
def st__law_integral_2 : MP.St := .asg (.of (.name 4)) (.new (.lst .nil))
def bk__law_integral_0 : MP.Ss := .cons (.append (.var 4) (.tup (.cons (.bin .add (.slc (.var 5) .none (.some (.neg (.cst (.int 1))))) (.tup (.cons (.bin .sub (.ix (.var 5) (.neg (.cst (.int 1)))) (.cst (.int 1))) .nil))) (.cons (.call 0 (.cons (.bin .mul (.ix (.var 6) (.cst (.int 0))) (.ix (.var 5) (.neg (.cst (.int 1))))) (.cons (.ix (.var 6) (.cst (.int 1))) .nil))) .nil)))) .nil
def st__law_integral_3 : MP.St := .fors (.tup (.cons (.name 5) (.cons (.name 6) .nil))) (.seq (.var 3)) bk__law_integral_0
def st__law_integral_4 : MP.St := .ret (.cmp .eq (.bi .tuple (.cons (.var 4) .nil)) (.var 0))
def b__law_integral : Ss := .cons st__law_integral_0 (.cons st__law_integral_1 (.cons st__law_integral_2 (.cons st__law_integral_3 (.cons st__law_integral_4 .nil))))
def st__law_bounds_0 : MP.St := .asg (.of (.name 3)) (.tup (.cons (.tup (.cons (.cst (.int 0)) (.cons (.cst (.int 1)) .nil))) (.cons (.tup (.cons (.cst (.int 0)) (.cons (.cst (.int 1)) .nil))) .nil)))
def bk__law_bounds_0 : MP.Ss := .cons (.asg (.of (.name 6)) (.call 13 (.cons (.var 6) (.cons (.call 15 (.cons (.ix (.var 1) (.var 7)) (.cons (.ix (.var 4) (.var 7)) .nil))) .nil)))) .nil
def bk__law_bounds_1 : MP.Ss := .cons (.asg (.of (.name 6)) (.tup (.cons (.tup (.cons (.cst (.int 1)) (.cons (.cst (.int 1)) .nil))) (.cons (.tup (.cons (.cst (.int 1)) (.cons (.cst (.int 1)) .nil))) .nil))))
  (.cons (.fors (.name 7) (.rng1 (.bi .len (.cons (.var 4) .nil))) bk__law_bounds_0)
  (.cons (.ifs (.cmp .ne (.call 28 (.cons (.var 4) (.cons (.var 5) (.cons (.var 1) .nil)))) (.call 12 (.cons (.var 6) (.cons (.var 5) .nil)))) (.cons (.ret (.cst (.bl false))) .nil) .nil)
  (.cons (.asg (.of (.name 3)) (.call 11 (.cons (.var 3) (.cons (.call 12 (.cons (.var 6) (.cons (.var 5) .nil))) .nil)))) .nil)))
def st__law_bounds_1 : MP.St := .fors (.tup (.cons (.name 4) (.cons (.name 5) .nil))) (.seq (.var 0)) bk__law_bounds_1
def st__law_bounds_2 : MP.St := .asg (.of (.name 8)) (.call 36 (.cons (.var 0) (.cons (.var 2) .nil)))
def st__law_bounds_3 : MP.St := .ret (.and (.cmp .eq (.call 29 (.cons (.var 0) (.cons (.var 1) .nil))) (.var 3)) (.and (.cmp .le (.call 5 (.cons (.ix (.var 3) (.cst (.int 0))) (.cons (.var 8) .nil))) (.cst (.int 0))) (.cmp .le (.call 5 (.cons (.var 8) (.cons (.ix (.var 3) (.cst (.int 1))) .nil))) (.cst (.int 0)))))
def b__law_bounds : Ss := .cons st__law_bounds_0 (.cons st__law_bounds_1 (.cons st__law_bounds_2 (.cons st__law_bounds_3 .nil)))
def st_law_0 : MP.St := .asg (.of (.name 1)) (.call 32 (.cons (.var 0) .nil))
def st_law_1 : MP.St := .asg (.of (.name 2)) (.bin .add (.cst (.int 1)) (.call 33 (.cons (.var 1) (.cons (.cst (.int 3)) .nil))))
def st_law_2 : MP.St := .asg (.of (.name 3)) (.call 35 (.cons (.var 1) (.cons (.var 2) .nil)))
def st_law_3 : MP.St := .asg (.of (.name 4)) (.call 35 (.cons (.var 1) (.cons (.var 2) .nil)))
def st_law_4 : MP.St := .asg (.of (.name 5)) (.lc (.name 6) [6] (.rng1 (.bin .add (.var 2) (.cst (.int 1)))) .none (.call 34 (.cons (.var 1) .nil)))
def st_law_5 : MP.St := .asg (.of (.name 7)) (.call 34 (.cons (.var 1) .nil))
def st_law_6 : MP.St := .par 8 9 (.call 36 (.cons (.var 3) (.cons (.var 5) .nil))) (.call 36 (.cons (.var 4) (.cons (.var 5) .nil)))
def st_law_7 : MP.St := .ifs (.or (.not (.call 38 (.cons (.call 20 (.cons (.var 3) (.cons (.var 4) .nil))) (.cons (.var 2) (.cons (.var 5) (.cons (.call 1 (.cons (.var 8) (.cons (.var 9) .nil))) .nil)))))) (.not (.call 38 (.cons (.call 23 (.cons (.var 3) (.cons (.var 4) .nil))) (.cons (.var 2) (.cons (.var 5) (.cons (.call 3 (.cons (.var 8) (.cons (.var 9) .nil))) .nil))))))) (.cons (.ret (.cst (.bl false))) .nil) .nil
def st_law_8 : MP.St := .ifs (.or (.not (.call 38 (.cons (.call 22 (.cons (.var 3) (.cons (.var 4) .nil))) (.cons (.var 2) (.cons (.var 5) (.cons (.call 1 (.cons (.var 8) (.cons (.call 0 (.cons (.bin .sub (.cst (.int 0)) (.ix (.var 9) (.cst (.int 0)))) (.cons (.ix (.var 9) (.cst (.int 1))) .nil))) .nil))) .nil)))))) (.cmp .ne (.call 22 (.cons (.var 3) (.cons (.var 3) .nil))) (.tup .nil))) (.cons (.ret (.cst (.bl false))) .nil) .nil
def st_law_9 : MP.St := .ifs (.or (.not (.call 38 (.cons (.call 21 (.cons (.var 3) (.cons (.var 7) .nil))) (.cons (.var 2) (.cons (.var 5) (.cons (.call 3 (.cons (.var 7) (.cons (.var 8) .nil))) .nil)))))) (.cmp .ne (.call 21 (.cons (.var 3) (.cons (.tup (.cons (.cst (.int 0)) (.cons (.cst (.int 1)) .nil))) .nil))) (.tup .nil))) (.cons (.ret (.cst (.bl false))) .nil) .nil
def st_law_10 : MP.St := .asg (.of (.name 10)) (.call 33 (.cons (.var 1) (.cons (.var 2) .nil)))
def st_law_11 : MP.St := .ifs (.or (.not (.call 38 (.cons (.call 17 (.cons (.var 2) (.cons (.var 7) .nil))) (.cons (.var 2) (.cons (.var 5) (.cons (.var 7) .nil)))))) (.cmp .ne (.call 17 (.cons (.var 2) (.cons (.tup (.cons (.cst (.int 0)) (.cons (.cst (.int 1)) .nil))) .nil))) (.tup .nil))) (.cons (.ret (.cst (.bl false))) .nil) .nil
def st_law_12 : MP.St := .ifs (.not (.call 38 (.cons (.call 18 (.cons (.var 2) (.cons (.var 10) .nil))) (.cons (.var 2) (.cons (.var 5) (.cons (.ix (.var 5) (.var 10)) .nil)))))) (.cons (.ret (.cst (.bl false))) .nil) .nil
def st_law_13 : MP.St := .ifs (.or (.not (.call 38 (.cons (.call 19 (.cons (.var 2) .nil)) (.cons (.var 2) (.cons (.var 5) (.cons (.ix (.var 5) (.neg (.cst (.int 1)))) .nil)))))) (.or (.cmp .ne (.call 20 (.cons (.var 3) (.cons (.tup .nil) .nil))) (.var 3)) (.cmp .ne (.call 23 (.cons (.var 3) (.cons (.tup .nil) .nil))) (.tup .nil)))) (.cons (.ret (.cst (.bl false))) .nil) .nil
def st_law_14 : MP.St := .ifs (.or (.not (.call 39 (.cons (.var 3) (.cons (.var 2) (.cons (.var 5) (.cons (.var 10) (.cons (.var 7) .nil))))))) (.not (.call 40 (.cons (.var 4) (.cons (.var 2) (.cons (.var 5) .nil)))))) (.cons (.ret (.cst (.bl false))) .nil) .nil
def st_law_15 : MP.St := .asg (.of (.name 11)) (.new (.lst .nil))
def bk_law_0 : MP.Ss := .cons (.asg (.of (.name 12)) (.call 34 (.cons (.var 1) .nil)))
  (.cons (.append (.var 11) (.ife (.cmp .le (.call 5 (.cons (.ix (.var 5) (.var 6)) (.cons (.var 12) .nil))) (.cst (.int 0))) (.tup (.cons (.ix (.var 5) (.var 6)) (.cons (.var 12) .nil))) (.tup (.cons (.var 12) (.cons (.ix (.var 5) (.var 6)) .nil))))) .nil)
def st_law_16 : MP.St := .fors (.name 6) (.rng1 (.bin .add (.var 2) (.cst (.int 1)))) bk_law_0
def st_law_17 : MP.St := .ret (.and (.call 41 (.cons (.var 3) (.cons (.bi .tuple (.cons (.var 11) .nil)) (.cons (.var 5) .nil)))) (.call 41 (.cons (.var 4) (.cons (.bi .tuple (.cons (.var 11) .nil)) (.cons (.var 5) .nil)))))
def b_law : Ss := .cons st_law_0 (.cons st_law_1 (.cons st_law_2 (.cons st_law_3 (.cons st_law_4 (.cons st_law_5 (.cons st_law_6 (.cons st_law_7 (.cons st_law_8 (.cons st_law_9 (.cons st_law_10 (.cons st_law_11 (.cons st_law_12 (.cons st_law_13 (.cons st_law_14 (.cons st_law_15 (.cons st_law_16 (.cons st_law_17 .nil)))))))))))))))))
abbrev n_make : Nat := 0
abbrev n_add : Nat := 1
abbrev n_neg : Nat := 2
abbrev n_mul : Nat := 3
abbrev n_div : Nat := 4
abbrev n_compare : Nat := 5
abbrev n_least : Nat := 6
abbrev n_greatest : Nat := 7
abbrev n_power : Nat := 8
abbrev n_point : Nat := 9
abbrev n_hull : Nat := 10
abbrev n_plus : Nat := 11
abbrev n_scaled : Nat := 12
abbrev n_times : Nat := 13
abbrev n_has : Nat := 14
abbrev n_raised : Nat := 15
abbrev n__from_terms : Nat := 16
abbrev n_poly_number : Nat := 17
abbrev n_poly_parameter : Nat := 18
abbrev n_poly_time : Nat := 19
abbrev n_poly_add : Nat := 20
abbrev n_poly_scaled : Nat := 21
abbrev n_poly_sub : Nat := 22
abbrev n_poly_mul : Nat := 23
abbrev n_poly_value : Nat := 24
abbrev n_poly_fixed : Nat := 25
abbrev n_poly_at_time : Nat := 26
abbrev n_poly_integral : Nat := 27
abbrev n_term_range : Nat := 28
abbrev n_poly_bound : Nat := 29
abbrev n__law_mix : Nat := 30
abbrev n__law_number : Nat := 31
abbrev n__law_state : Nat := 32
abbrev n__law_draw : Nat := 33
abbrev n__law_pair : Nat := 34
abbrev n__law_poly : Nat := 35
abbrev n__law_value : Nat := 36
abbrev n__law_shape : Nat := 37
abbrev n__law_is : Nat := 38
abbrev n__law_fixed : Nat := 39
abbrev n__law_integral : Nat := 40
abbrev n__law_bounds : Nat := 41
abbrev n_law : Nat := 42
abbrev x_Zero : Nat := 0
def t_make : DefT := ⟨"make", top 7, [.ofString "top", .ofString "bottom", .ofString "common"], [.ofString "top", .ofString "bottom"], ⟨2, 3, b_make⟩⟩
def t_add : DefT := ⟨"add", top 8, [.ofString "a", .ofString "b"], [.ofString "a", .ofString "b"], ⟨2, 2, b_add⟩⟩
def t_neg : DefT := ⟨"neg", top 9, [.ofString "a"], [.ofString "a"], ⟨1, 1, b_neg⟩⟩
def t_mul : DefT := ⟨"mul", top 10, [.ofString "a", .ofString "b"], [.ofString "a", .ofString "b"], ⟨2, 2, b_mul⟩⟩
def t_div : DefT := ⟨"div", top 11, [.ofString "a", .ofString "b"], [.ofString "a", .ofString "b"], ⟨2, 2, b_div⟩⟩
def t_compare : DefT := ⟨"compare", top 12, [.ofString "a", .ofString "b", .ofString "left", .ofString "right"], [.ofString "a", .ofString "b"], ⟨2, 4, b_compare⟩⟩
def t_least : DefT := ⟨"least", top 13, [.ofString "a", .ofString "b"], [.ofString "a", .ofString "b"], ⟨2, 2, b_least⟩⟩
def t_greatest : DefT := ⟨"greatest", top 14, [.ofString "a", .ofString "b"], [.ofString "a", .ofString "b"], ⟨2, 2, b_greatest⟩⟩
def t_power : DefT := ⟨"power", top 15, [.ofString "a", .ofString "exponent", .ofString "result", .ofString "_"], [.ofString "a", .ofString "exponent"], ⟨2, 4, b_power⟩⟩
def t_point : DefT := ⟨"point", top 17, [.ofString "a"], [.ofString "a"], ⟨1, 1, b_point⟩⟩
def t_hull : DefT := ⟨"hull", top 18, [.ofString "x", .ofString "y"], [.ofString "x", .ofString "y"], ⟨2, 2, b_hull⟩⟩
def t_plus : DefT := ⟨"plus", top 19, [.ofString "x", .ofString "y"], [.ofString "x", .ofString "y"], ⟨2, 2, b_plus⟩⟩
def t_scaled : DefT := ⟨"scaled", top 20, [.ofString "x", .ofString "a"], [.ofString "x", .ofString "a"], ⟨2, 2, b_scaled⟩⟩
def t_times : DefT := ⟨"times", top 21, [.ofString "x", .ofString "y"], [.ofString "x", .ofString "y"], ⟨2, 2, b_times⟩⟩
def t_has : DefT := ⟨"has", top 22, [.ofString "x", .ofString "a"], [.ofString "x", .ofString "a"], ⟨2, 2, b_has⟩⟩
def t_raised : DefT := ⟨"raised", top 23, [.ofString "x", .ofString "exponent", .ofString "low", .ofString "high"], [.ofString "x", .ofString "exponent"], ⟨2, 4, b_raised⟩⟩
def t__from_terms : DefT := ⟨"_from_terms", top 25, [.ofString "terms", .ofString "exponents"], [.ofString "terms"], ⟨1, 2, b__from_terms⟩⟩
def t_poly_number : DefT := ⟨"poly_number", top 26, [.ofString "params", .ofString "a"], [.ofString "params", .ofString "a"], ⟨2, 2, b_poly_number⟩⟩
def t_poly_parameter : DefT := ⟨"poly_parameter", top 27, [.ofString "params", .ofString "index", .ofString "place"], [.ofString "params", .ofString "index"], ⟨2, 3, b_poly_parameter⟩⟩
def t_poly_time : DefT := ⟨"poly_time", top 28, [.ofString "params"], [.ofString "params"], ⟨1, 1, b_poly_time⟩⟩
def t_poly_add : DefT := ⟨"poly_add", top 29, [.ofString "p", .ofString "q", .ofString "terms", .ofString "exponents", .ofString "number"], [.ofString "p", .ofString "q"], ⟨2, 5, b_poly_add⟩⟩
def t_poly_scaled : DefT := ⟨"poly_scaled", top 30, [.ofString "p", .ofString "a", .ofString "exponents", .ofString "number"], [.ofString "p", .ofString "a"], ⟨2, 4, b_poly_scaled⟩⟩
def t_poly_sub : DefT := ⟨"poly_sub", top 31, [.ofString "p", .ofString "q", .ofString "exponents", .ofString "number"], [.ofString "p", .ofString "q"], ⟨2, 4, b_poly_sub⟩⟩
def t_poly_mul : DefT := ⟨"poly_mul", top 32, [.ofString "p", .ofString "q", .ofString "terms", .ofString "left", .ofString "a", .ofString "right", .ofString "b", .ofString "exponents", .ofString "x", .ofString "y"], [.ofString "p", .ofString "q"], ⟨2, 10, b_poly_mul⟩⟩
def t_poly_value : DefT := ⟨"poly_value", top 33, [.ofString "p", .ofString "place", .ofString "total", .ofString "exponents", .ofString "number", .ofString "a", .ofString "exponent"], [.ofString "p", .ofString "place"], ⟨2, 7, b_poly_value⟩⟩
def t_poly_fixed : DefT := ⟨"poly_fixed", top 34, [.ofString "p", .ofString "index", .ofString "a", .ofString "terms", .ofString "exponents", .ofString "number", .ofString "rest"], [.ofString "p", .ofString "index", .ofString "a"], ⟨3, 7, b_poly_fixed⟩⟩
def t_poly_at_time : DefT := ⟨"poly_at_time", top 35, [.ofString "p", .ofString "a"], [.ofString "p", .ofString "a"], ⟨2, 2, b_poly_at_time⟩⟩
def t_poly_integral : DefT := ⟨"poly_integral", top 36, [.ofString "p", .ofString "exponents", .ofString "number"], [.ofString "p"], ⟨1, 3, b_poly_integral⟩⟩
def t_term_range : DefT := ⟨"term_range", top 37, [.ofString "exponents", .ofString "number", .ofString "domain", .ofString "total", .ofString "side", .ofString "exponent"], [.ofString "exponents", .ofString "number", .ofString "domain"], ⟨3, 6, b_term_range⟩⟩
def t_poly_bound : DefT := ⟨"poly_bound", top 38, [.ofString "p", .ofString "domain", .ofString "total", .ofString "exponents", .ofString "number"], [.ofString "p", .ofString "domain"], ⟨2, 5, b_poly_bound⟩⟩
def t__law_mix : DefT := ⟨"_law_mix", top 40, [.ofString "cell", .ofString "number"], [.ofString "cell"], ⟨1, 2, b__law_mix⟩⟩
def t__law_number : DefT := ⟨"_law_number", top 41, [.ofString "cell", .ofString "first"], [.ofString "cell"], ⟨1, 2, b__law_number⟩⟩
def t__law_state : DefT := ⟨"_law_state", top 42, [.ofString "script"], [.ofString "script"], ⟨1, 1, b__law_state⟩⟩
def t__law_draw : DefT := ⟨"_law_draw", top 43, [.ofString "state", .ofString "many", .ofString "digit"], [.ofString "state", .ofString "many"], ⟨2, 3, b__law_draw⟩⟩
def t__law_pair : DefT := ⟨"_law_pair", top 44, [.ofString "state", .ofString "bottom"], [.ofString "state"], ⟨1, 2, b__law_pair⟩⟩
def t__law_poly : DefT := ⟨"_law_poly", top 45, [.ofString "state", .ofString "params", .ofString "terms", .ofString "k", .ofString "exponents", .ofString "number", .ofString "j"], [.ofString "state", .ofString "params"], ⟨2, 7, b__law_poly⟩⟩
def t__law_value : DefT := ⟨"_law_value", top 46, [.ofString "p", .ofString "place", .ofString "top", .ofString "bottom", .ofString "exponents", .ofString "number", .ofString "a", .ofString "b", .ofString "k", .ofString "j"], [.ofString "p", .ofString "place"], ⟨2, 10, b__law_value⟩⟩
def t__law_shape : DefT := ⟨"_law_shape", top 47, [.ofString "p", .ofString "params", .ofString "before", .ofString "exponents", .ofString "number"], [.ofString "p", .ofString "params"], ⟨2, 5, b__law_shape⟩⟩
def t__law_is : DefT := ⟨"_law_is", top 48, [.ofString "p", .ofString "params", .ofString "place", .ofString "due"], [.ofString "p", .ofString "params", .ofString "place", .ofString "due"], ⟨4, 4, b__law_is⟩⟩
def t__law_fixed : DefT := ⟨"_law_fixed", top 49, [.ofString "p", .ofString "params", .ofString "place", .ofString "index", .ofString "a", .ofString "put", .ofString "moved", .ofString "free", .ofString "timed"], [.ofString "p", .ofString "params", .ofString "place", .ofString "index", .ofString "a"], ⟨5, 9, b__law_fixed⟩⟩
def t__law_integral : DefT := ⟨"_law_integral", top 50, [.ofString "p", .ofString "params", .ofString "place", .ofString "grown", .ofString "back", .ofString "exponents", .ofString "number"], [.ofString "p", .ofString "params", .ofString "place"], ⟨3, 7, b__law_integral⟩⟩
def t__law_bounds : DefT := ⟨"_law_bounds", top 51, [.ofString "p", .ofString "domain", .ofString "inner", .ofString "total", .ofString "exponents", .ofString "number", .ofString "side", .ofString "k", .ofString "held"], [.ofString "p", .ofString "domain", .ofString "inner"], ⟨3, 9, b__law_bounds⟩⟩
def t_law : DefT := ⟨"law", top 52, [.ofString "script", .ofString "state", .ofString "params", .ofString "p", .ofString "q", .ofString "place", .ofString "k", .ofString "a", .ofString "b", .ofString "c", .ofString "index", .ofString "domain", .ofString "other"], [.ofString "script"], ⟨1, 13, b_law⟩⟩
def D : List DefT := [t_make, t_add, t_neg, t_mul, t_div, t_compare, t_least, t_greatest, t_power, t_point, t_hull, t_plus, t_scaled, t_times, t_has, t_raised, t__from_terms, t_poly_number, t_poly_parameter, t_poly_time, t_poly_add, t_poly_scaled, t_poly_sub, t_poly_mul, t_poly_value, t_poly_fixed, t_poly_at_time, t_poly_integral, t_term_range, t_poly_bound, t__law_mix, t__law_number, t__law_state, t__law_draw, t__law_pair, t__law_poly, t__law_value, t__law_shape, t__law_is, t__law_fixed, t__law_integral, t__law_bounds, t_law]
def F : List FDef := [⟨2, 3, b_make⟩, ⟨2, 2, b_add⟩, ⟨1, 1, b_neg⟩, ⟨2, 2, b_mul⟩, ⟨2, 2, b_div⟩, ⟨2, 4, b_compare⟩, ⟨2, 2, b_least⟩, ⟨2, 2, b_greatest⟩, ⟨2, 4, b_power⟩, ⟨1, 1, b_point⟩, ⟨2, 2, b_hull⟩, ⟨2, 2, b_plus⟩, ⟨2, 2, b_scaled⟩, ⟨2, 2, b_times⟩, ⟨2, 2, b_has⟩, ⟨2, 4, b_raised⟩, ⟨1, 2, b__from_terms⟩, ⟨2, 2, b_poly_number⟩, ⟨2, 3, b_poly_parameter⟩, ⟨1, 1, b_poly_time⟩, ⟨2, 5, b_poly_add⟩, ⟨2, 4, b_poly_scaled⟩, ⟨2, 4, b_poly_sub⟩, ⟨2, 10, b_poly_mul⟩, ⟨2, 7, b_poly_value⟩, ⟨3, 7, b_poly_fixed⟩, ⟨2, 2, b_poly_at_time⟩, ⟨1, 3, b_poly_integral⟩, ⟨3, 6, b_term_range⟩, ⟨2, 5, b_poly_bound⟩, ⟨1, 2, b__law_mix⟩, ⟨1, 2, b__law_number⟩, ⟨1, 1, b__law_state⟩, ⟨2, 3, b__law_draw⟩, ⟨1, 2, b__law_pair⟩, ⟨2, 7, b__law_poly⟩, ⟨2, 10, b__law_value⟩, ⟨2, 5, b__law_shape⟩, ⟨4, 4, b__law_is⟩, ⟨5, 9, b__law_fixed⟩, ⟨3, 7, b__law_integral⟩, ⟨3, 9, b__law_bounds⟩, ⟨1, 13, b_law⟩]
def T : Tab := ⟨[some (.ofString "make"), some (.ofString "add"), some (.ofString "neg"), some (.ofString "mul"), some (.ofString "div"), some (.ofString "compare"), some (.ofString "least"), some (.ofString "greatest"), some (.ofString "power"), some (.ofString "point"), some (.ofString "hull"), some (.ofString "plus"), some (.ofString "scaled"), some (.ofString "times"), some (.ofString "has"), some (.ofString "raised"), some (.ofString "_from_terms"), some (.ofString "poly_number"), some (.ofString "poly_parameter"), some (.ofString "poly_time"), some (.ofString "poly_add"), some (.ofString "poly_scaled"), some (.ofString "poly_sub"), some (.ofString "poly_mul"), some (.ofString "poly_value"), some (.ofString "poly_fixed"), some (.ofString "poly_at_time"), some (.ofString "poly_integral"), some (.ofString "term_range"), some (.ofString "poly_bound"), some (.ofString "_law_mix"), some (.ofString "_law_number"), some (.ofString "_law_state"), some (.ofString "_law_draw"), some (.ofString "_law_pair"), some (.ofString "_law_poly"), some (.ofString "_law_value"), some (.ofString "_law_shape"), some (.ofString "_law_is"), some (.ofString "_law_fixed"), some (.ofString "_law_integral"), some (.ofString "_law_bounds"), some (.ofString "law")], [("Zero", [], [.ofString "Zero", .ofString "Trouble", .ofString "ValueError"])], [("ZERO", .tup [.int 0, .int 1]), ("ONE", .tup [.int 1, .int 1])], [.ofString "gcd", .ofString "int", .ofString "isinstance", .ofString "len", .ofString "list", .ofString "range", .ofString "sorted", .ofString "tuple", .ofString "zip"], [], [], []⟩
theorem look_make : DefT.look T t_make = true := by decide +kernel
theorem look_add : DefT.look T t_add = true := by decide +kernel
theorem look_neg : DefT.look T t_neg = true := by decide +kernel
theorem look_mul : DefT.look T t_mul = true := by decide +kernel
theorem look_div : DefT.look T t_div = true := by decide +kernel
theorem look_compare : DefT.look T t_compare = true := by decide +kernel
theorem look_least : DefT.look T t_least = true := by decide +kernel
theorem look_greatest : DefT.look T t_greatest = true := by decide +kernel
theorem look_power : DefT.look T t_power = true := by decide +kernel
theorem look_point : DefT.look T t_point = true := by decide +kernel
theorem look_hull : DefT.look T t_hull = true := by decide +kernel
theorem look_plus : DefT.look T t_plus = true := by decide +kernel
theorem look_scaled : DefT.look T t_scaled = true := by decide +kernel
theorem look_times : DefT.look T t_times = true := by decide +kernel
theorem look_has : DefT.look T t_has = true := by decide +kernel
theorem look_raised : DefT.look T t_raised = true := by decide +kernel
theorem look__from_terms : DefT.look T t__from_terms = true := by decide +kernel
theorem look_poly_number : DefT.look T t_poly_number = true := by decide +kernel
theorem look_poly_parameter : DefT.look T t_poly_parameter = true := by decide +kernel
theorem look_poly_time : DefT.look T t_poly_time = true := by decide +kernel
theorem look_poly_add : DefT.look T t_poly_add = true := by decide +kernel
theorem look_poly_scaled : DefT.look T t_poly_scaled = true := by decide +kernel
theorem look_poly_sub : DefT.look T t_poly_sub = true := by decide +kernel
theorem look_poly_mul : DefT.look T t_poly_mul = true := by decide +kernel
theorem look_poly_value : DefT.look T t_poly_value = true := by decide +kernel
theorem look_poly_fixed : DefT.look T t_poly_fixed = true := by decide +kernel
theorem look_poly_at_time : DefT.look T t_poly_at_time = true := by decide +kernel
theorem look_poly_integral : DefT.look T t_poly_integral = true := by decide +kernel
theorem look_term_range : DefT.look T t_term_range = true := by decide +kernel
theorem look_poly_bound : DefT.look T t_poly_bound = true := by decide +kernel
theorem look__law_mix : DefT.look T t__law_mix = true := by decide +kernel
theorem look__law_number : DefT.look T t__law_number = true := by decide +kernel
theorem look__law_state : DefT.look T t__law_state = true := by decide +kernel
theorem look__law_draw : DefT.look T t__law_draw = true := by decide +kernel
theorem look__law_pair : DefT.look T t__law_pair = true := by decide +kernel
theorem look__law_poly : DefT.look T t__law_poly = true := by decide +kernel
theorem look__law_value : DefT.look T t__law_value = true := by decide +kernel
theorem look__law_shape : DefT.look T t__law_shape = true := by decide +kernel
theorem look__law_is : DefT.look T t__law_is = true := by decide +kernel
theorem look__law_fixed : DefT.look T t__law_fixed = true := by decide +kernel
theorem look__law_integral : DefT.look T t__law_integral = true := by decide +kernel
theorem look__law_bounds : DefT.look T t__law_bounds = true := by decide +kernel
theorem look_law : DefT.look T t_law = true := by decide +kernel
theorem bd_make : BdT t_make := fun _ _ _ _ _ _ us hl => match us, hl with | [_, _], _ => rfl
theorem bd_add : BdT t_add := fun _ _ _ _ _ _ us hl => match us, hl with | [_, _], _ => rfl
theorem bd_neg : BdT t_neg := fun _ _ _ _ _ _ us hl => match us, hl with | [_], _ => rfl
theorem bd_mul : BdT t_mul := fun _ _ _ _ _ _ us hl => match us, hl with | [_, _], _ => rfl
theorem bd_div : BdT t_div := fun _ _ _ _ _ _ us hl => match us, hl with | [_, _], _ => rfl
theorem bd_compare : BdT t_compare := fun _ _ _ _ _ _ us hl => match us, hl with | [_, _], _ => rfl
theorem bd_least : BdT t_least := fun _ _ _ _ _ _ us hl => match us, hl with | [_, _], _ => rfl
theorem bd_greatest : BdT t_greatest := fun _ _ _ _ _ _ us hl => match us, hl with | [_, _], _ => rfl
theorem bd_power : BdT t_power := fun _ _ _ _ _ _ us hl => match us, hl with | [_, _], _ => rfl
theorem bd_point : BdT t_point := fun _ _ _ _ _ _ us hl => match us, hl with | [_], _ => rfl
theorem bd_hull : BdT t_hull := fun _ _ _ _ _ _ us hl => match us, hl with | [_, _], _ => rfl
theorem bd_plus : BdT t_plus := fun _ _ _ _ _ _ us hl => match us, hl with | [_, _], _ => rfl
theorem bd_scaled : BdT t_scaled := fun _ _ _ _ _ _ us hl => match us, hl with | [_, _], _ => rfl
theorem bd_times : BdT t_times := fun _ _ _ _ _ _ us hl => match us, hl with | [_, _], _ => rfl
theorem bd_has : BdT t_has := fun _ _ _ _ _ _ us hl => match us, hl with | [_, _], _ => rfl
theorem bd_raised : BdT t_raised := fun _ _ _ _ _ _ us hl => match us, hl with | [_, _], _ => rfl
theorem bd__from_terms : BdT t__from_terms := fun _ _ _ _ _ _ us hl => match us, hl with | [_], _ => rfl
theorem bd_poly_number : BdT t_poly_number := fun _ _ _ _ _ _ us hl => match us, hl with | [_, _], _ => rfl
theorem bd_poly_parameter : BdT t_poly_parameter := fun _ _ _ _ _ _ us hl => match us, hl with | [_, _], _ => rfl
theorem bd_poly_time : BdT t_poly_time := fun _ _ _ _ _ _ us hl => match us, hl with | [_], _ => rfl
theorem bd_poly_add : BdT t_poly_add := fun _ _ _ _ _ _ us hl => match us, hl with | [_, _], _ => rfl
theorem bd_poly_scaled : BdT t_poly_scaled := fun _ _ _ _ _ _ us hl => match us, hl with | [_, _], _ => rfl
theorem bd_poly_sub : BdT t_poly_sub := fun _ _ _ _ _ _ us hl => match us, hl with | [_, _], _ => rfl
theorem bd_poly_mul : BdT t_poly_mul := fun _ _ _ _ _ _ us hl => match us, hl with | [_, _], _ => rfl
theorem bd_poly_value : BdT t_poly_value := fun _ _ _ _ _ _ us hl => match us, hl with | [_, _], _ => rfl
theorem bd_poly_fixed : BdT t_poly_fixed := fun _ _ _ _ _ _ us hl => match us, hl with | [_, _, _], _ => rfl
theorem bd_poly_at_time : BdT t_poly_at_time := fun _ _ _ _ _ _ us hl => match us, hl with | [_, _], _ => rfl
theorem bd_poly_integral : BdT t_poly_integral := fun _ _ _ _ _ _ us hl => match us, hl with | [_], _ => rfl
theorem bd_term_range : BdT t_term_range := fun _ _ _ _ _ _ us hl => match us, hl with | [_, _, _], _ => rfl
theorem bd_poly_bound : BdT t_poly_bound := fun _ _ _ _ _ _ us hl => match us, hl with | [_, _], _ => rfl
theorem bd__law_mix : BdT t__law_mix := fun _ _ _ _ _ _ us hl => match us, hl with | [_], _ => rfl
theorem bd__law_number : BdT t__law_number := fun _ _ _ _ _ _ us hl => match us, hl with | [_], _ => rfl
theorem bd__law_state : BdT t__law_state := fun _ _ _ _ _ _ us hl => match us, hl with | [_], _ => rfl
theorem bd__law_draw : BdT t__law_draw := fun _ _ _ _ _ _ us hl => match us, hl with | [_, _], _ => rfl
theorem bd__law_pair : BdT t__law_pair := fun _ _ _ _ _ _ us hl => match us, hl with | [_], _ => rfl
theorem bd__law_poly : BdT t__law_poly := fun _ _ _ _ _ _ us hl => match us, hl with | [_, _], _ => rfl
theorem bd__law_value : BdT t__law_value := fun _ _ _ _ _ _ us hl => match us, hl with | [_, _], _ => rfl
theorem bd__law_shape : BdT t__law_shape := fun _ _ _ _ _ _ us hl => match us, hl with | [_, _], _ => rfl
theorem bd__law_is : BdT t__law_is := fun _ _ _ _ _ _ us hl => match us, hl with | [_, _, _, _], _ => rfl
theorem bd__law_fixed : BdT t__law_fixed := fun _ _ _ _ _ _ us hl => match us, hl with | [_, _, _, _, _], _ => rfl
theorem bd__law_integral : BdT t__law_integral := fun _ _ _ _ _ _ us hl => match us, hl with | [_, _, _], _ => rfl
theorem bd__law_bounds : BdT t__law_bounds := fun _ _ _ _ _ _ us hl => match us, hl with | [_, _, _], _ => rfl
theorem bd_law : BdT t_law := fun _ _ _ _ _ _ us hl => match us, hl with | [_], _ => rfl
theorem looks : (D.all fun t => t.look T) = true := by
  simp only [D, List.all_cons, List.all_nil, look_make, look_add, look_neg, look_mul, look_div, look_compare, look_least, look_greatest, look_power, look_point, look_hull, look_plus, look_scaled, look_times, look_has, look_raised, look__from_terms, look_poly_number, look_poly_parameter, look_poly_time, look_poly_add, look_poly_scaled, look_poly_sub, look_poly_mul, look_poly_value, look_poly_fixed, look_poly_at_time, look_poly_integral, look_term_range, look_poly_bound, look__law_mix, look__law_number, look__law_state, look__law_draw, look__law_pair, look__law_poly, look__law_value, look__law_shape, look__law_is, look__law_fixed, look__law_integral, look__law_bounds, look_law, Bool.and_self]
theorem bds : AllT BdT D := .cons bd_make (.cons bd_add (.cons bd_neg (.cons bd_mul (.cons bd_div (.cons bd_compare (.cons bd_least (.cons bd_greatest (.cons bd_power (.cons bd_point (.cons bd_hull (.cons bd_plus (.cons bd_scaled (.cons bd_times (.cons bd_has (.cons bd_raised (.cons bd__from_terms (.cons bd_poly_number (.cons bd_poly_parameter (.cons bd_poly_time (.cons bd_poly_add (.cons bd_poly_scaled (.cons bd_poly_sub (.cons bd_poly_mul (.cons bd_poly_value (.cons bd_poly_fixed (.cons bd_poly_at_time (.cons bd_poly_integral (.cons bd_term_range (.cons bd_poly_bound (.cons bd__law_mix (.cons bd__law_number (.cons bd__law_state (.cons bd__law_draw (.cons bd__law_pair (.cons bd__law_poly (.cons bd__law_value (.cons bd__law_shape (.cons bd__law_is (.cons bd__law_fixed (.cons bd__law_integral (.cons bd__law_bounds (.cons bd_law (.nil)))))))))))))))))))))))))))))))))))))))))))
def memb (i j : Nat) : Stmt := match top i with
  | .ClassDef (body := b) .. => b.getD j (.Pass ⟨0, 0, 0, 0⟩)
  | s => s
def XD : List ExI := []
theorem bxs : AllX BdX XD := .nil
theorem xins : xinB T XD = true := by decide +kernel
theorem fdsEq : D.map (·.fd) = F := rfl
abbrev R : PySem.W.OpenRow := PySem.W.OpenLaw.row PySem.Challenge.rw_motionsheld_k06_polynomials
abbrev view : List Nat := [0, 52]
abbrev loose : List Str := [.ofString "Trouble", .ofString "Zero", .ofString "make", .ofString "add", .ofString "neg", .ofString "mul", .ofString "div", .ofString "compare", .ofString "least", .ofString "greatest", .ofString "power", .ofString "point", .ofString "hull", .ofString "plus", .ofString "scaled", .ofString "times", .ofString "has", .ofString "raised", .ofString "_from_terms", .ofString "poly_number", .ofString "poly_parameter", .ofString "poly_time", .ofString "poly_add", .ofString "poly_scaled", .ofString "poly_sub", .ofString "poly_mul", .ofString "poly_value", .ofString "poly_fixed", .ofString "poly_at_time", .ofString "poly_integral", .ofString "term_range", .ofString "poly_bound", .ofString "_law_mix", .ofString "_law_number", .ofString "_law_state", .ofString "_law_draw", .ofString "_law_pair", .ofString "_law_poly", .ofString "_law_value", .ofString "_law_shape", .ofString "_law_is", .ofString "_law_fixed", .ofString "_law_integral", .ofString "_law_bounds", .ofString "ZERO", .ofString "ONE"]
abbrev lawAt : Nat := 52
abbrev lawNo : Nat := 42
end K06
namespace K06
open PySem PySem.Spec PyProof.Rows L2 MP
abbrev hk : PySem.W.Hook := hookM 5 T D XD
def ob (s : PySem.W.SharedT) : Bool × List He.FnW := seenM 5 T D XD (HandSHeadRun.getT s)
theorem ob_eq (s : PySem.W.SharedT) : ob s = hk.obs s.abs := seenM_eq (HandSHeadRun.getT_eq s)
theorem run (w : World) : HandSHeadRun.RunEqI R (PySem.W.view R.prog view) hk ob 40000 loose w := by
  unfold HandSHeadRun.RunEqI
  kernel_rfl
end K06
end
section
set_option Elab.async false
set_option linter.all false
set_option maxRecDepth 100000
set_option maxHeartbeats 1000000
namespace K06
open PySem MP
section
variable {d j k n : Nat} {a b : Rat} {S : Sto}
theorem c_make {t b : Int} : callN F (d + 1) n_make [.int t, .int b] S = if b = 0 then .exc 0 [] S else .ok (pr (mkT t b) (mkB t b)) S := by
  rw [callN_of (fd := ⟨2, 3, b_make⟩) rfl rfl]
  by_cases h0 : b = 0
  · rw [if_pos h0]
    refine run_exc (σ := [some (.int t), some (.int b), none]) ?_ rfl
    simp [st_make_0, st_make_1, st_make_2, st_make_3, b_make, h0]
  · rw [if_neg h0]
    have hg := mkG_pos (t := t) h0
    have hd : mkG t b ≠ 0 := by omega
    refine run_ret ?_ rfl
    by_cases hn : b < 0
    · unfold mkT mkB mkG at *
      simp [st_make_0, st_make_1, st_make_2, st_make_3, b_make, h0, hn, hd, zop_dv hd]
    · unfold mkT mkB mkG at *
      simp [st_make_0, st_make_1, st_make_2, st_make_3, b_make, h0, hn, hd, zop_dv hd]
theorem r_make {t b : Int} (hb : b ≠ 0) : callN F (d + 1) n_make [.int t, .int b] S = .ok (fr (Rat.divInt t b)) S := by
  rw [c_make, if_neg hb, fr_mk hb]
theorem r_neg : callN F (d + 1) n_neg [fr a] S = .ok (fr (-a)) S := by
  unfold fr
  rw [callN_of (fd := ⟨1, 1, b_neg⟩) rfl rfl]
  refine run_ret ?_ rfl
  simp [st_neg_0, b_neg, Rat.neg_num, Rat.neg_den]
theorem r_add (ha : szq j a) (hb : szq k b) (l : j + k + 2 ≤ 134217728) : callN F (d + 2) n_add [fr a, fr b] S = .ok (fr (a + b)) S := by
  have m1 : mulOk a.num b.den = true := mulOk_of ha.1 hb.2 l
  have m2 : mulOk b.num a.den = true := mulOk_of hb.1 ha.2 (by omega)
  have m3 : mulOk a.den b.den = true := mulOk_of ha.2 hb.2 l
  rw [callN_of (fd := ⟨2, 2, b_add⟩) rfl rfl]
  refine run_ret ?_ rfl
  have e0 := rat_add a b
  unfold fr at *
  by_cases e : (a.den : Int) = b.den
  · have e1 := r_make (d := d) (S := ⟨S.cells, false⟩) (t := a.num + b.num) (den_ne a)
    rw [rat_same (den_ne a)] at e1
    rw [← e] at e0
    rw [e0] at e1
    unfold fr at e1
    simp [st_add_0, st_add_1, b_add, e1, ← e]
  · have e1 := r_make (d := d) (S := ⟨S.cells, false⟩) (t := a.num * b.den + b.num * a.den) (Int.mul_ne_zero (den_ne a) (den_ne b))
    rw [e0] at e1
    unfold fr at e1
    simp [st_add_0, st_add_1, b_add, e, m1, m2, m3, e1]
theorem r_mul (ha : szq j a) (hb : szq k b) (l : j + k + 2 ≤ 134217728) : callN F (d + 2) n_mul [fr a, fr b] S = .ok (fr (a * b)) S := by
  have m1 : mulOk a.num b.num = true := mulOk_of ha.1 hb.1 l
  have m3 : mulOk a.den b.den = true := mulOk_of ha.2 hb.2 l
  have e1 := r_make (d := d) (S := ⟨S.cells, false⟩) (t := a.num * b.num) (Int.mul_ne_zero (den_ne a) (den_ne b))
  rw [rat_mul] at e1
  rw [callN_of (fd := ⟨2, 2, b_mul⟩) rfl rfl]
  refine run_ret ?_ rfl
  unfold fr at *
  simp [st_mul_0, b_mul, m1, m3, e1]
theorem r_div (ha : szq j a) (hb : szq k b) (h0 : b ≠ 0) (l : j + k + 2 ≤ 134217728) : callN F (d + 2) n_div [fr a, fr b] S = .ok (fr (a / b)) S := by
  have m1 : mulOk a.num b.den = true := mulOk_of ha.1 hb.2 l
  have m3 : mulOk a.den b.num = true := mulOk_of ha.2 hb.1 l
  have e1 := r_make (d := d) (S := ⟨S.cells, false⟩) (t := a.num * b.den) (Int.mul_ne_zero (den_ne a) (num_ne h0))
  rw [rat_div] at e1
  rw [callN_of (fd := ⟨2, 2, b_div⟩) rfl rfl]
  refine run_ret ?_ rfl
  unfold fr at *
  simp [st_div_0, b_div, m1, m3, e1]
theorem r_compare (ha : szq j a) (hb : szq k b) (l : j + k + 2 ≤ 134217728) : callN F (d + 1) n_compare [fr a, fr b] S = .ok (.int (cq a b)) S := by
  have m1 : mulOk a.num b.den = true := mulOk_of ha.1 hb.2 l
  have m2 : mulOk b.num a.den = true := mulOk_of hb.1 ha.2 (by omega)
  rw [callN_of (fd := ⟨2, 4, b_compare⟩) rfl rfl]
  refine run_ret ?_ rfl
  unfold cq fr
  simp only [Rat.lt_iff]
  by_cases h1 : a.num * b.den < b.num * a.den
  · simp [st_compare_0, st_compare_1, st_compare_2, st_compare_3, b_compare, m1, m2, h1]
  · by_cases h2 : b.num * a.den < a.num * b.den
    · simp [st_compare_0, st_compare_1, st_compare_2, st_compare_3, b_compare, m1, m2, h1, h2]
    · simp [st_compare_0, st_compare_1, st_compare_2, st_compare_3, b_compare, m1, m2, h1, h2]
theorem r_least (ha : szq j a) (hb : szq k b) (l : j + k + 2 ≤ 134217728) : callN F (d + 2) n_least [fr a, fr b] S = .ok (fr (mn a b)) S := by
  have e1 := r_compare (d := d) (S := ⟨S.cells, false⟩) hb ha (by omega)
  have e2 : cq b a < 0 ↔ b < a := cq_lt
  rw [callN_of (fd := ⟨2, 2, b_least⟩) rfl rfl]
  refine run_ret ?_ (fr_pure _)
  unfold mn
  by_cases h : b < a
  · have := e2.mpr h
    simp [st_least_0, b_least, e1, h, this]
  · have : ¬ cq b a < 0 := fun z => h (e2.mp z)
    simp [st_least_0, b_least, e1, h, this]
theorem r_greatest (ha : szq j a) (hb : szq k b) (l : j + k + 2 ≤ 134217728) : callN F (d + 2) n_greatest [fr a, fr b] S = .ok (fr (mx a b)) S := by
  have e1 := r_compare (d := d) (S := ⟨S.cells, false⟩) hb ha (by omega)
  have e2 : 0 < cq b a ↔ a < b := cq_gt
  rw [callN_of (fd := ⟨2, 2, b_greatest⟩) rfl rfl]
  refine run_ret ?_ (fr_pure _)
  unfold mx
  by_cases h : a < b
  · have := e2.mpr h
    simp [st_greatest_0, b_greatest, e1, h, this]
  · have : ¬ 0 < cq b a := fun z => h (e2.mp z)
    simp [st_greatest_0, b_greatest, e1, h, this]
theorem r_power (ha : szq k a) (hn : n < 1000) (hk : k * n + k + 3 ≤ 134217728) : callN F (d + 3) n_power [fr a, .int n] S = .ok (fr (a ^ n)) S := by
  rw [callN_of (fd := ⟨2, 4, b_power⟩) rfl rfl]
  obtain ⟨σ', S', lp, x, rfl, rfl⟩ := for_rng (C := callN F (d + 2)) (b := S.cells.length) (t := .name 3) (e := .var 1) (p := bk_power_0) (n := n)
    (P := fun i σ S' => ∃ x, σ = [some (fr a), some (.int n), some (fr (a ^ i)), x] ∧ S' = ⟨S.cells, false⟩)
    (σ := [some (fr a), some (.int n), some (fr 1), none]) (S := ⟨S.cells, false⟩) (by simp [bd_ok, bd_exc, st_ok, st_exc, xss_cons, xss_nil, seq_next, seq_ret, seq_brk, seq_cont, seq_exc, eqV_int, xst, ev, evT, evs, evo, evc, evi, itemAt, MP.placeOf, bindT, bindTs, unslot, hold, unhold, subR, freeze, ix_tup, ix_lst, ix_r, cm_eq, cm_ne, cm_lt, cm_le, cm_gt, cm_ge, cm_isn, cm_nisn, cm_isb, cm_inn, cm_nin, op_ad, op_sb, op_ml, op_dv, op_md, op_pw, op_sl, op_as, op_at, op_mt, op_al, bi_abs, bi_int, bi_intb, bi_lent, bi_lenl, bi_lenr, bi_lens, bi_listt, bi_listl, bi_tupt, bi_tupl, bi_tupr, bi_gcd, bi_max, bi_min, bi_str, bi_sum, bi_all, bi_any, tr_non, tr_bl, tr_int, tr_tup, tr_lst, ty_nt, ty_tt, ty_ti, ty_ii, ty_it, ty_is, sl_tup, sl_lst, sq_tup, sq_lst, ls_lst, th_lst, wk_tup, wk_lst, opt_some, eqV_non]) (by omega) ⟨_, by rw [Rat.pow_zero], rfl⟩ (fun j σ S' hj ⟨y, h1, h2⟩ => by
      subst h1; subst h2
      have l1 : k * j + k ≤ k * n := by
        have z : k * (j + 1) ≤ k * n := Nat.mul_le_mul_left k (by omega)
        rw [Nat.mul_add] at z
        omega
      have e2 := r_mul (d := d) (S := ⟨S.cells, false⟩) (ha.pow j) ha (by omega)
      rw [← Rat.pow_succ] at e2
      exact ⟨_, [some (fr a), some (.int n), some (fr (a ^ (j + 1))), some (.int j)], ⟨S.cells, false⟩, rfl, by simp [bk_power_0, e2], some (.int j), rfl, rfl⟩)
  refine run_ret ?_ (fr_pure _)
  unfold b_power
  refine (xss_step (σ' := [some (fr a), some (.int n), some (fr 1), none]) (S' := ⟨S.cells, false⟩) (by simp [st_power_0])).trans ((xss_step lp).trans ?_)
  simp [st_power_2]
end
end K06
end
section
set_option Elab.async false
set_option linter.all false
set_option maxRecDepth 100000
set_option maxHeartbeats 1000000
namespace K06
open PySem MP
section
variable {d n : Nat} {a b : Rat} {S : Sto}
@[simp] theorem x_make {t b : Int} (hb : b ≠ 0) : callN F (d + 1) n_make [.int t, .int b] S = .ok (fr (Rat.divInt t b)) S := r_make hb
@[simp] theorem x_neg : callN F (d + 1) n_neg [fr a] S = .ok (fr (-a)) S := r_neg
@[simp] theorem x_add (l : qs a + qs b + 2 ≤ LIM) : callN F (d + 2) n_add [fr a, fr b] S = .ok (fr (a + b)) S := r_add (szq_qs a) (szq_qs b) l
@[simp] theorem x_mul (l : qs a + qs b + 2 ≤ LIM) : callN F (d + 2) n_mul [fr a, fr b] S = .ok (fr (a * b)) S := r_mul (szq_qs a) (szq_qs b) l
@[simp] theorem x_div (h : b ≠ 0) (l : qs a + qs b + 2 ≤ LIM) : callN F (d + 2) n_div [fr a, fr b] S = .ok (fr (a / b)) S := r_div (szq_qs a) (szq_qs b) h l
@[simp] theorem x_compare (l : qs a + qs b + 2 ≤ LIM) : callN F (d + 1) n_compare [fr a, fr b] S = .ok (.int (cq a b)) S := r_compare (szq_qs a) (szq_qs b) l
@[simp] theorem x_least (l : qs a + qs b + 2 ≤ LIM) : callN F (d + 2) n_least [fr a, fr b] S = .ok (fr (mn a b)) S := r_least (szq_qs a) (szq_qs b) l
@[simp] theorem x_greatest (l : qs a + qs b + 2 ≤ LIM) : callN F (d + 2) n_greatest [fr a, fr b] S = .ok (fr (mx a b)) S := r_greatest (szq_qs a) (szq_qs b) l
@[simp] theorem x_power (hn : n < 1000) (l : qs a * n + qs a + 3 ≤ LIM) : callN F (d + 3) n_power [fr a, .int n] S = .ok (fr (a ^ n)) S := r_power (szq_qs a) hn l
end
end K06
end
section
set_option Elab.async false
set_option linter.all false
set_option maxRecDepth 100000
set_option maxHeartbeats 1000000
namespace K06
open PySem MP
section
variable {d n : Nat} {a : Rat} {x y : Iv} {S : Sto}
@[simp] theorem x_point : callN F (d + 1) n_point [fr a] S = .ok (ivv (Iv.pt a)) S := by
  rw [callN_of (fd := ⟨1, 1, b_point⟩) rfl rfl]
  refine run_ret ?_ rfl
  simp [st_point_0, b_point, Iv.pt]
@[simp] theorem x_hull (l : is x + is y + 2 ≤ LIM) : callN F (d + 3) n_hull [ivv x, ivv y] S = .ok (ivv (x.hull y)) S := by
  rw [callN_of (fd := ⟨2, 2, b_hull⟩) rfl rfl]
  refine run_ret ?_ rfl
  unfold is at l
  simp (disch := first | omega | (simp; done) | fail) [st_hull_0, b_hull, Iv.hull]
@[simp] theorem x_plus (l : is x + is y + 2 ≤ LIM) : callN F (d + 3) n_plus [ivv x, ivv y] S = .ok (ivv (x.add y)) S := by
  rw [callN_of (fd := ⟨2, 2, b_plus⟩) rfl rfl]
  refine run_ret ?_ rfl
  unfold is at l
  simp (disch := first | omega | (simp; done) | fail) [st_plus_0, b_plus, Iv.add]
@[simp] theorem x_scaled (l : is x + qs a + 2 ≤ LIM) : callN F (d + 3) n_scaled [ivv x, fr a] S = .ok (ivv (x.scl a)) S := by
  rw [callN_of (fd := ⟨2, 2, b_scaled⟩) rfl rfl]
  refine run_ret ?_ rfl
  unfold is at l
  by_cases h : a < 0
  · simp (disch := first | omega | (simp; done) | fail) [st_scaled_0, st_scaled_1, b_scaled, h, Iv.scl]
  · simp (disch := first | omega | (simp; done) | fail) [st_scaled_0, st_scaled_1, b_scaled, h, Iv.scl]
@[simp] theorem x_times (l : 2 * is x + 2 * is y + 2 ≤ LIM) : callN F (d + 4) n_times [ivv x, ivv y] S = .ok (ivv (x.mul y)) S := by
  rw [callN_of (fd := ⟨2, 2, b_times⟩) rfl rfl]
  refine run_ret ?_ rfl
  have h1 := is_scl x y.1
  have h2 := is_scl x y.2
  have h3 : is y = max (qs y.1) (qs y.2) := rfl
  have e : x.mul y = (x.scl y.1).hull (x.scl y.2) := rfl
  simp (disch := first | omega | (simp; done) | fail) [st_times_0, b_times, e]
@[simp] theorem x_has (l : is x + qs a + 2 ≤ LIM) : callN F (d + 2) n_has [ivv x, fr a] S = .ok (.bl (decide (x.has a))) S := by
  rw [callN_of (fd := ⟨2, 2, b_has⟩) rfl rfl]
  refine run_ret ?_ rfl
  unfold is at l
  by_cases h : x.1 ≤ a
  · simp (disch := first | omega | (simp; done) | fail) [st_has_0, b_has, cq_le, h, Iv.has]
  · simp (disch := first | omega | (simp; done) | fail) [st_has_0, b_has, cq_le, h, Iv.has]
@[simp] theorem x_raised (hn : n < 1000) (l : is x * n + is x + is x * n + 4 ≤ LIM) : callN F (d + 4) n_raised [ivv x, .int n] S = .ok (ivv (x.rai n)) S := by
  rw [callN_of (fd := ⟨2, 4, b_raised⟩) rfl rfl]
  refine run_ret ?_ rfl
  have m1 : qs x.1 * n ≤ is x * n := Nat.mul_le_mul_right _ (by unfold is; omega)
  have m2 : qs x.2 * n ≤ is x * n := Nat.mul_le_mul_right _ (by unfold is; omega)
  have h1 := qs_pow x.1 n
  have h2 := qs_pow x.2 n
  have h5 := qs_zero
  have hx : is x = max (qs x.1) (qs x.2) := rfl
  have p1 := x_power (d := d) (n := n) (a := x.1) (S := ⟨S.cells, false⟩) hn (by omega)
  have p2 := x_power (d := d) (n := n) (a := x.2) (S := ⟨S.cells, false⟩) hn (by omega)
  have w := x_has (d := d + 1) (x := x) (a := 0) (S := ⟨S.cells, false⟩) (by omega)
  by_cases h0 : n = 0
  · simp (disch := first | omega | (simp; done) | fail) [st_raised_0, st_raised_1, st_raised_2, st_raised_3, st_raised_4, st_raised_5, b_raised, Iv.rai, rsl, rsh, h0, Iv.pt]
  · by_cases hm : n % 2 = 1
    · have hm' := nmod2.mpr hm
      simp (disch := first | omega | (simp; done) | fail) [st_raised_0, st_raised_1, st_raised_2, st_raised_3, st_raised_4, st_raised_5, b_raised, Iv.rai, rsl, rsh, h0, hm, hm', p1, p2]
    · have hm' : ¬ (n : Int).fmod 2 = 1 := fun z => hm (nmod2.mp z)
      by_cases hz : x.has 0
      · have hz' : x.1 ≤ 0 ∧ 0 ≤ x.2 := hz
        simp (disch := first | omega | (simp; done) | fail) [st_raised_0, st_raised_1, st_raised_2, st_raised_3, st_raised_4, st_raised_5, b_raised, Iv.rai, rsl, rsh, h0, hm, hm', p1, p2, hz, hz', w]
      · have hz' : ¬ (x.1 ≤ 0 ∧ 0 ≤ x.2) := hz
        simp (disch := first | omega | (simp; done) | fail) [st_raised_0, st_raised_1, st_raised_2, st_raised_3, st_raised_4, st_raised_5, b_raised, Iv.rai, rsl, rsh, h0, hm, hm', p1, p2, hz, hz', w]
end
end K06
end
section
set_option Elab.async false
set_option linter.all false
set_option maxRecDepth 100000
set_option maxHeartbeats 1000000
namespace K06
open PySem MP
section
variable {d : Nat} {S : Sto}
theorem x_from {k : Nat} {t : List Tm} (h : S.cells[k]? = some (.dT (kv t))) (nd : (keys t).Nodup) (ne : ∀ e ∈ keys t, e ≠ []) (len : t.length ≤ 1000000) : callN F (d + 1) n__from_terms [.ref k] S = .ok (pl (fromT t)) S := by
  rw [callN_of (fd := ⟨1, 2, b__from_terms⟩) rfl rfl]
  refine run_ret ?_ (pl_pure _)
  have h' : (⟨S.cells, false⟩ : Sto).cells[k]? = some (.dT (kv t)) := h
  have ln : (sortL lexI (keys t)).length ≤ lenMax := by
    rw [(sort_perm nd).length_eq]
    unfold keys
    rw [List.length_map]
    exact Nat.le_trans len (by decide)
  have lc := ev_lcf (C := callN F d) (b := S.cells.length) (σ := [some (.ref k), none]) (S := ⟨S.cells, false⟩) (t := .name 1) (own := [1]) (it := .seq (.bi .sorted (.cons (.var 0) .nil))) (c := .some (.cmp .ne (.ix (.ix (.var 0) (.var 1)) (.cst (.int 0))) (.cst (.int 0)))) (e := .tup (.cons (.var 1) (.cons (.ix (.var 0) (.var 1)) .nil)))
    rowPV (fun e => tm (e, getT t e)) (fun e => decide (getT t e ≠ 0)) (sortL lexI (keys t)) (gw := []) (by simp [sorted_T h' ne]) rfl ln fun e m => by
      have m' : e ∈ keys t := (sort_perm nd).mem_iff.mp m
      have ix := ix_T h' m'
      refine ⟨[some (.ref k), some (rowPV e)], by simp, by simp [ix], fun _ => by simp [ix, tm]⟩
  simp [st__from_terms_0, b__from_terms, lc]
  unfold pl fromT
  rw [List.filter_map, List.map_map]
  congr 2
  exact List.filter_congr fun e _ => by simp
end
/-! ### sums -/
section
variable {d K : Nat} {S : Sto}
theorem foldl_take {α β : Type} {f : β → α → β} {l : List α} {i : Nat} {b : β} {x : α} (h : l[i]? = some x) : (l.take (i + 1)).foldl f b = f ((l.take i).foldl f b) x := by
  rw [List.take_add_one, h, Option.toList_some, List.foldl_append]
  rfl
/-- what a dict that is gathered promises -/
theorem ps_get {l : List Tm} {i : Nat} {e : List Int} (h : PS K l) : qs (getT ((l.take i).foldl putS []) e) ≤ K := by
  have z := acc_get (l := l.take i) (e := e)
  unfold accT at z
  rw [z]
  exact h.1 i e
theorem x_poly_add {p q : List Tm} (h : PS K (p ++ q)) (hK : K + K + 2 ≤ LIM) (ne : ∀ t ∈ p ++ q, t.1 ≠ []) (len : p.length + q.length ≤ 1000000) : callN F (d + 3) n_poly_add [pl p, pl q] S = .ok (pl (nf (p ++ q))) S := by
  rw [callN_of (fd := ⟨2, 5, b_poly_add⟩) rfl rfl]
  have ln : p.length + q.length ≤ lenMax := Nat.le_trans len (by decide)
  have lp : xst (callN F (d + 2)) S.cells.length st_poly_add_1 [some (pl p), some (pl q), some (.ref S.cells.length), none, none] ⟨S.cells ++ [.dT (kv [])], false⟩ = forLoop (fun S => stands S []) (bindT (.tup (.cons (.name 3) (.cons (.name 4) .nil)))) (xss (callN F (d + 2)) S.cells.length bk_poly_add_0) ((p ++ q).map tm) [some (pl p), some (pl q), some (.ref S.cells.length), none, none] ⟨S.cells ++ [.dT (kv [])], false⟩ := by
    unfold st_poly_add_1
    exact xst_for (w := ((p ++ q).map tm, [])) (by simp [pl, zop_at (show (p.map tm).length + (q.map tm).length ≤ lenMax by simpa using ln)])
  obtain ⟨σ', S', e1, ⟨x3, x4, rfl, rfl⟩, _⟩ := for_fold (g := fun S => stands S []) (bind := bindT (.tup (.cons (.name 3) (.cons (.name 4) .nil)))) (body := xss (callN F (d + 2)) S.cells.length bk_poly_add_0) tm
    (fun t σ S' => ∃ x3 x4, σ = [some (pl p), some (pl q), some (.ref S.cells.length), x3, x4] ∧ S' = ⟨S.cells ++ [.dT (kv t)], false⟩) putS (fun i t => t = ((p ++ q).take i).foldl putS []) (fun _ _ _ _ => rfl) (p ++ q) 0 [] _ _ ⟨none, none, rfl, rfl⟩ rfl fun j x t σ S' hj hp ⟨x3, x4, e1, e2⟩ => by
      subst e1 e2
      rw [Nat.zero_add] at hp ⊢
      have s1 : qs (getT t x.1) ≤ K := by rw [hp]; exact ps_get h
      have s2 : qs x.2 ≤ K := h.2 x (List.mem_of_getElem? hj)
      have l1 : t.length < lenMax := by
        have z := acc_len (l := (p ++ q).take j) (t := [])
        rw [← hp, List.length_take, List.length_append, List.length_nil] at z
        have : lenMax = 16777216 := rfl
        omega
      refine ⟨[some (pl p), some (pl q), some (.ref S.cells.length), some (rowPV x.1), some (fr x.2)], [some (pl p), some (pl q), some (.ref S.cells.length), some (rowPV x.1), some (fr x.2)], ⟨S.cells ++ [.dT (kv (putS t x))], false⟩, by simp [tm], .inl (by simp (disch := first | omega | (simp; done) | fail) [bk_poly_add_0, subR_end l1, putS]), ⟨_, _, rfl, rfl⟩, ?_⟩
      rw [foldl_take hj, ← hp]
  have fromOk := x_from (d := d + 1) (k := S.cells.length) (t := accT (p ++ q)) (S := ⟨S.cells ++ [.dT (kv (accT (p ++ q)))], false⟩) (by simp) (acc_nodup _) (fun e m => by
    have m := acc_in m
    unfold keys at m
    obtain ⟨t, mt, rfl⟩ := List.mem_map.mp m
    exact ne t mt) (by
    have z := acc_len (l := p ++ q) (t := [])
    rw [List.length_append, List.length_nil] at z
    unfold accT
    omega)
  refine (run_retT (v := pl (nf (p ++ q))) (cs := S.cells ++ [.dT (kv (accT (p ++ q)))]) ?_ (pl_pure _)).trans (by simp)
  unfold b_poly_add
  refine (xss_step (σ' := [some (pl p), some (pl q), some (.ref S.cells.length), none, none]) (S' := ⟨S.cells ++ [.dT (kv [])], false⟩) (by simp [st_poly_add_0, kv])).trans ((xss_step (lp.trans e1)).trans ?_)
  have fromOk : callN F (d + 2) n__from_terms [.ref S.cells.length] ⟨S.cells ++ [.dT (kv (accT (p ++ q)))], false⟩ = .ok (pl (nf (p ++ q))) ⟨S.cells ++ [.dT (kv (accT (p ++ q)))], false⟩ := fromOk
  rw [show (p ++ q).foldl putS [] = accT (p ++ q) from rfl]
  simp [st_poly_add_2, fromOk]
/-! ### products by a number, differences -/
def pscale (p : List Tm) (a : Rat) : List Tm := if a = 0 then [] else p.map fun t => (t.1, t.2 * a)
def pneg (p : List Tm) : List Tm := p.map fun t => (t.1, -t.2)
theorem x_poly_scaled {p : List Tm} {a : Rat} (h : ∀ t ∈ p, qs t.2 + qs a + 2 ≤ LIM) (len : p.length ≤ 1000000) : callN F (d + 3) n_poly_scaled [pl p, fr a] S = .ok (pl (pscale p a)) S := by
  rw [callN_of (fd := ⟨2, 4, b_poly_scaled⟩) rfl rfl]
  refine run_ret ?_ (pl_pure _)
  unfold pscale
  by_cases h0 : a = 0
  · simp [st_poly_scaled_0, st_poly_scaled_1, b_poly_scaled, h0, pl]
  · have lc := ev_lcm (C := callN F (d + 2)) (b := S.cells.length) (σ := [some (pl p), some (fr a), none, none]) (S := ⟨S.cells, false⟩) (t := .tup (.cons (.name 2) (.cons (.name 3) .nil))) (own := [2, 3]) (it := .seq (.var 0)) (c := .none) (e := .tup (.cons (.var 2) (.cons (.call n_mul (.cons (.var 3) (.cons (.var 1) .nil))) .nil)))
      tm (fun t => tm (t.1, t.2 * a)) p (gw := []) (by simp [pl]) rfl (Nat.le_trans len (by decide)) fun t m => by
        have := h t m
        refine ⟨[some (pl p), some (fr a), some (rowPV t.1), some (fr t.2)], by simp [tm], by simp, by simp (disch := first | omega | (simp; done) | fail) [tm]⟩
    simp [st_poly_scaled_0, st_poly_scaled_1, b_poly_scaled, h0, lc]
    unfold pl
    rw [List.map_map]
    rfl
theorem x_poly_sub {p q : List Tm} (h : PS K (p ++ pneg q)) (hK : K + K + 2 ≤ LIM) (ne : ∀ t ∈ p ++ q, t.1 ≠ []) (len : p.length + q.length ≤ 1000000) : callN F (d + 4) n_poly_sub [pl p, pl q] S = .ok (pl (nf (p ++ pneg q))) S := by
  rw [callN_of (fd := ⟨2, 4, b_poly_sub⟩) rfl rfl]
  refine run_ret ?_ (pl_pure _)
  have lc := ev_lcm (C := callN F (d + 3)) (b := S.cells.length) (σ := [some (pl p), some (pl q), none, none]) (S := ⟨S.cells, false⟩) (t := .tup (.cons (.name 2) (.cons (.name 3) .nil))) (own := [2, 3]) (it := .seq (.var 1)) (c := .none) (e := .tup (.cons (.var 2) (.cons (.call n_neg (.cons (.var 3) .nil)) .nil)))
      tm (fun t => tm (t.1, -t.2)) q (gw := []) (by simp [pl]) rfl (Nat.le_trans (show q.length ≤ 1000000 by omega) (by decide)) fun t m => by
        refine ⟨[some (pl p), some (pl q), some (rowPV t.1), some (fr t.2)], by simp [tm], by simp, by simp (disch := first | omega | (simp; done) | fail) [tm]⟩
  have e : PV.tup (q.map fun t => tm (t.1, -t.2)) = pl (pneg q) := by
    unfold pl pneg
    rw [List.map_map]
    rfl
  have ad := x_poly_add (d := d) (S := ⟨S.cells, false⟩) h hK (fun t m => by
    rcases List.mem_append.mp m with m | m
    · exact ne t (List.mem_append_left _ m)
    · obtain ⟨u, mu, rfl⟩ := List.mem_map.mp m
      exact ne u (List.mem_append_right _ mu)) (by unfold pneg; rw [List.length_map]; exact len)
  simp [st_poly_sub_0, b_poly_sub, lc, e, ad]
/-! ### products -/
def rowAdd (a b : List Int) : List Int := (a.zip b).map fun r => r.1 + r.2
def prods (p q : List Tm) : List Tm := p.flatMap fun a => q.map fun b => (rowAdd a.1 b.1, a.2 * b.2)
theorem pairs_map {α β : Type} {f : α → PV} {g : β → PV} {xs : List α} {ys : List β} : pairs (xs.map f) (ys.map g) = (xs.zip ys).map fun r => .tup [f r.1, g r.2] := by
  unfold pairs
  rw [List.zip_map, List.map_map]
  rfl
theorem zip_rows {S : Sto} {a b : List Int} : zipV S (rowPV a) (rowPV b) = some ((a.zip b).map fun r => .tup [.int r.1, .int r.2], []) := by
  simp [zipV, rowPV, pairs_map]
theorem x_row_add {C : Nat → List PV → Sto → MP.R PV} {b : Nat} {S : Sto} {l a' : List Int} {x0 x1 x2 x4 x6 x7 x8 x9 : Option PV} (h : l.length ≤ 1000000) : ev C b (.lc (.tup (.cons (.name 8) (.cons (.name 9) .nil))) [8, 9] (.zip (.var 3) (.var 5)) .none (.bin .add (.var 8) (.var 9))) [x0, x1, x2, some (rowPV l), x4, some (rowPV a'), x6, x7, x8, x9] S = .ok (.lst ((rowAdd l a').map .int)) S := by
  have lc := ev_lcm (C := C) (b := b) (σ := [x0, x1, x2, some (rowPV l), x4, some (rowPV a'), x6, x7, x8, x9]) (S := S) (t := .tup (.cons (.name 8) (.cons (.name 9) .nil))) (own := [8, 9]) (it := .zip (.var 3) (.var 5)) (c := .none) (e := .bin .add (.var 8) (.var 9))
    (fun r : Int × Int => .tup [.int r.1, .int r.2]) (fun r => .int (r.1 + r.2)) (l.zip a') (gw := []) (by simp [zip_rows]) rfl (by rw [List.length_zip]; have : lenMax = 16777216 := rfl; omega) fun r m => by
      refine ⟨[x0, x1, x2, some (rowPV l), x4, some (rowPV a'), x6, x7, some (.int r.1), some (.int r.2)], by simp, by simp, by simp⟩
  rw [lc]
  unfold rowAdd
  rw [List.map_map]
  rfl
/-- the inner loop: one term a of p -/
theorem mul_inner {t0 : List Tm} {a : Tm} {q : List Tm} {P : PV} {x5 x6 x7 x8 x9 : Option PV} {cs : List Cell} (hk : K + K + 2 ≤ LIM) (sa : ∀ b ∈ q, qs a.2 + qs b.2 + 2 ≤ LIM) (hs : ∀ j, j ≤ q.length → ∀ e, qs (getT (((q.take j).map fun b => (rowAdd a.1 b.1, a.2 * b.2)).foldl putS t0) e) ≤ K) (hb : ∀ b ∈ q, qs (a.2 * b.2) ≤ K)
    (hl : t0.length + q.length ≤ 1000000) (ha : a.1.length ≤ 1000000) : ∃ y5 y6 y7 y8 y9, xst (callN F (d + 2)) cs.length (.fors (.tup (.cons (.name 5) (.cons (.name 6) .nil))) (.seq (.var 1)) bk_poly_mul_0) [some P, some (pl q), some (.ref cs.length), some (rowPV a.1), some (fr a.2), x5, x6, x7, x8, x9] ⟨cs ++ [.dT (kv t0)], false⟩ =
      .next [some P, some (pl q), some (.ref cs.length), some (rowPV a.1), some (fr a.2), y5, y6, y7, y8, y9] ⟨cs ++ [.dT (kv ((q.map fun b => (rowAdd a.1 b.1, a.2 * b.2)).foldl putS t0))], false⟩ := by
  have e0 := xst_for (C := callN F (d + 2)) (b := cs.length) (t := .tup (.cons (.name 5) (.cons (.name 6) .nil))) (it := .seq (.var 1)) (p := bk_poly_mul_0) (σ := [some P, some (pl q), some (.ref cs.length), some (rowPV a.1), some (fr a.2), x5, x6, x7, x8, x9]) (S := ⟨cs ++ [.dT (kv t0)], false⟩) (w := (q.map tm, [])) (S1 := ⟨cs ++ [.dT (kv t0)], false⟩) (by simp [pl])
  obtain ⟨σ', S', e1, ⟨y5, y6, y7, y8, y9, rfl, rfl⟩, _⟩ := for_fold (g := fun S => stands S []) (bind := bindT (.tup (.cons (.name 5) (.cons (.name 6) .nil)))) (body := xss (callN F (d + 2)) cs.length bk_poly_mul_0) tm
    (fun t σ S' => ∃ x5 x6 x7 x8 x9, σ = [some P, some (pl q), some (.ref cs.length), some (rowPV a.1), some (fr a.2), x5, x6, x7, x8, x9] ∧ S' = ⟨cs ++ [.dT (kv t)], false⟩) (fun t b => putS t (rowAdd a.1 b.1, a.2 * b.2)) (fun i t => t = ((q.take i).map fun b => (rowAdd a.1 b.1, a.2 * b.2)).foldl putS t0) (fun _ _ _ _ => rfl) q 0 t0 _ _ ⟨x5, x6, x7, x8, x9, rfl, rfl⟩ rfl fun j x t σ S' hj hp ⟨z5, z6, z7, z8, z9, e1, e2⟩ => by
      subst e1 e2
      rw [Nat.zero_add] at hp ⊢
      have mj := List.mem_of_getElem? hj
      have jl := (List.getElem?_eq_some_iff.mp hj).1
      have s1 : qs (getT t (rowAdd a.1 x.1)) ≤ K := by rw [hp]; exact hs j (by omega) _
      have s2 := sa x mj
      have s3 := hb x mj
      have l1 : t.length < lenMax := by
        have z := acc_len (l := (q.take j).map fun b => (rowAdd a.1 b.1, a.2 * b.2)) (t := t0)
        rw [← hp, List.length_map, List.length_take] at z
        have : lenMax = 16777216 := rfl
        omega
      have ra := x_row_add (C := callN F (d + 2)) (b := cs.length) (S := ⟨cs ++ [.dT (kv t)], false⟩) (l := a.1) (a' := x.1) (x0 := some P) (x1 := some (pl q)) (x2 := some (.ref cs.length)) (x4 := some (fr a.2)) (x6 := some (fr x.2)) (x7 := z7) (x8 := z8) (x9 := z9) ha
      refine ⟨[some P, some (pl q), some (.ref cs.length), some (rowPV a.1), some (fr a.2), some (rowPV x.1), some (fr x.2), z7, z8, z9], [some P, some (pl q), some (.ref cs.length), some (rowPV a.1), some (fr a.2), some (rowPV x.1), some (fr x.2), some (rowPV (rowAdd a.1 x.1)), z8, z9], ⟨cs ++ [.dT (kv (putS t (rowAdd a.1 x.1, a.2 * x.2)))], false⟩, by simp [tm], .inl ?_, ⟨_, _, _, _, _, rfl, rfl⟩, ?_⟩
      · have fold : PV.tup ((rowAdd a.1 x.1).map .int) = rowPV (rowAdd a.1 x.1) := rfl
        simp (disch := first | omega | (simp; done) | fail) [bk_poly_mul_0, ra, fold, subR_end l1, putS]
      · rw [List.take_add_one, hj, Option.toList_some, List.map_append, List.foldl_append, ← hp]
        rfl
  exact ⟨y5, y6, y7, y8, y9, by rw [e0, e1, List.foldl_map]⟩
theorem prods_take {a : Tm} {q : List Tm} {j : Nat} : ∀ {p : List Tm} {i : Nat}, p[i]? = some a → j ≤ q.length → prods (p.take i) q ++ (q.take j).map (fun b => (rowAdd a.1 b.1, a.2 * b.2)) = (prods p q).take (i * q.length + j)
  | [], _, h, _ => by simp at h
  | b :: p, 0, h, hj => by
    have h : b = a := by simpa using h
    subst h
    rw [List.take_zero, Nat.zero_mul, Nat.zero_add]
    show [] ++ _ = (q.map (fun c => (rowAdd b.1 c.1, b.2 * c.2)) ++ prods p q).take j
    rw [List.take_append_of_le_length (by simpa using hj), List.map_take, List.nil_append]
  | b :: p, i + 1, h, hj => by
    have ih := prods_take (p := p) (i := i) (by simpa using h) hj
    rw [List.take_succ_cons]
    show (q.map (fun c => (rowAdd b.1 c.1, b.2 * c.2)) ++ prods (p.take i) q) ++ _ = (q.map (fun c => (rowAdd b.1 c.1, b.2 * c.2)) ++ prods p q).take ((i + 1) * q.length + j)
    have l : (i + 1) * q.length + j = q.length + (i * q.length + j) := by rw [Nat.add_mul]; omega
    rw [List.append_assoc, ih, l, List.take_append, List.length_map, Nat.add_sub_cancel_left, List.take_of_length_le (l := q.map fun c => (rowAdd b.1 c.1, b.2 * c.2)) (by rw [List.length_map]; omega)]
theorem prods_len {q : List Tm} : ∀ {p : List Tm}, (prods p q).length = p.length * q.length
  | [] => by simp [prods]
  | a :: p => by
    show (q.map _ ++ prods p q).length = _
    rw [List.length_append, List.length_map, prods_len, List.length_cons, Nat.add_mul]
    omega
theorem x_poly_mul {p q : List Tm} (h : PS K (prods p q)) (hK : K + K + 2 ≤ LIM) (hs : ∀ a ∈ p, ∀ b ∈ q, qs a.2 + qs b.2 + 2 ≤ LIM) (ne : ∀ a ∈ p, ∀ b ∈ q, rowAdd a.1 b.1 ≠ []) (rl : ∀ a ∈ p, a.1.length ≤ 1000000) (lp : p.length ≤ 1000) (lq : q.length ≤ 1000) : callN F (d + 3) n_poly_mul [pl p, pl q] S = .ok (pl (nf (prods p q))) S := by
  rw [callN_of (fd := ⟨2, 10, b_poly_mul⟩) rfl rfl]
  have e0 := xst_for (C := callN F (d + 2)) (b := S.cells.length) (t := .tup (.cons (.name 3) (.cons (.name 4) .nil))) (it := .seq (.var 0)) (p := bk_poly_mul_1) (σ := [some (pl p), some (pl q), some (.ref S.cells.length), none, none, none, none, none, none, none]) (S := ⟨S.cells ++ [.dT (kv [])], false⟩) (w := (p.map tm, [])) (S1 := ⟨S.cells ++ [.dT (kv [])], false⟩) (by simp [pl])
  have pq : p.length * q.length ≤ 1000 * 1000 := Nat.mul_le_mul lp lq
  obtain ⟨σ', S', e1, ⟨y3, y4, y5, y6, y7, y8, y9, rfl, rfl⟩, ht⟩ := for_fold (g := fun S => stands S []) (bind := bindT (.tup (.cons (.name 3) (.cons (.name 4) .nil)))) (body := xss (callN F (d + 2)) S.cells.length bk_poly_mul_1) tm
    (fun t σ S' => ∃ x3 x4 x5 x6 x7 x8 x9, σ = [some (pl p), some (pl q), some (.ref S.cells.length), x3, x4, x5, x6, x7, x8, x9] ∧ S' = ⟨S.cells ++ [.dT (kv t)], false⟩) (fun t a => (q.map fun b => (rowAdd a.1 b.1, a.2 * b.2)).foldl putS t) (fun i t => t = accT (prods (p.take i) q)) (fun _ _ _ _ => rfl) p 0 [] _ _ ⟨none, none, none, none, none, none, none, rfl, rfl⟩ rfl fun i a t σ S' hi hp ⟨z3, z4, z5, z6, z7, z8, z9, e1, e2⟩ => by
      subst e1 e2
      rw [Nat.zero_add] at hp ⊢
      have mi := List.mem_of_getElem? hi
      have il := (List.getElem?_eq_some_iff.mp hi).1
      obtain ⟨w5, w6, w7, w8, w9, inner⟩ := mul_inner (d := d) (K := K) (t0 := t) (a := a) (q := q) (P := pl p) (x5 := z5) (x6 := z6) (x7 := z7) (x8 := z8) (x9 := z9) (cs := S.cells) hK (hs a mi) (fun j hj e => by
        have z := prods_take (q := q) hi hj
        have z2 := acc_get (l := (prods p q).take (i * q.length + j)) (e := e)
        rw [← z] at z2
        unfold accT at z2 hp
        rw [List.foldl_append, ← hp] at z2
        rw [z2, z]
        exact h.1 _ _) (fun b mb => h.2 (rowAdd a.1 b.1, a.2 * b.2) (List.mem_flatMap.mpr ⟨a, mi, List.mem_map.mpr ⟨b, mb, rfl⟩⟩)) (by
          have z := acc_len (l := prods (p.take i) q) (t := [])
          have hp' : t = (prods (p.take i) q).foldl putS [] := hp
          rw [← hp', prods_len, List.length_take, List.length_nil] at z
          have z2 : min i p.length * q.length + q.length ≤ p.length * q.length := by
            rw [← Nat.succ_mul]
            exact Nat.mul_le_mul_right _ (by omega)
          omega) (rl a mi)
      refine ⟨[some (pl p), some (pl q), some (.ref S.cells.length), some (rowPV a.1), some (fr a.2), z5, z6, z7, z8, z9], [some (pl p), some (pl q), some (.ref S.cells.length), some (rowPV a.1), some (fr a.2), w5, w6, w7, w8, w9], ⟨S.cells ++ [.dT (kv ((q.map fun b => (rowAdd a.1 b.1, a.2 * b.2)).foldl putS t))], false⟩, by simp [tm], .inl ?_, ⟨_, _, _, _, _, _, _, rfl, rfl⟩, ?_⟩
      · unfold bk_poly_mul_1
        refine (xss_step inner).trans ?_
        rw [xss_nil]
      · rw [hp, List.take_add_one, hi, Option.toList_some]
        unfold prods accT
        rw [List.flatMap_append, List.foldl_append]
        simp
  have ht : p.foldl (fun t a => (q.map fun b => (rowAdd a.1 b.1, a.2 * b.2)).foldl putS t) [] = accT (prods p q) := by
    rw [Nat.zero_add, List.take_length] at ht
    exact ht
  rw [ht] at e1
  have e2 : xst (callN F (d + 2)) S.cells.length st_poly_mul_1 [some (pl p), some (pl q), some (.ref S.cells.length), none, none, none, none, none, none, none] ⟨S.cells ++ [.dT (kv [])], false⟩ = .next [some (pl p), some (pl q), some (.ref S.cells.length), y3, y4, y5, y6, y7, y8, y9] ⟨S.cells ++ [.dT (kv (accT (prods p q)))], false⟩ := e0.trans e1
  have fromOk : callN F (d + 2) n__from_terms [.ref S.cells.length] ⟨S.cells ++ [.dT (kv (accT (prods p q)))], false⟩ = .ok (pl (nf (prods p q))) ⟨S.cells ++ [.dT (kv (accT (prods p q)))], false⟩ := x_from (d := d + 1) (k := S.cells.length) (t := accT (prods p q)) (by simp) (acc_nodup _) (fun e m => by
    have m := acc_in m
    unfold keys at m
    obtain ⟨t, mt, rfl⟩ := List.mem_map.mp m
    obtain ⟨a, ma, mt⟩ := List.mem_flatMap.mp mt
    obtain ⟨b, mb, rfl⟩ := List.mem_map.mp mt
    exact ne a ma b mb) (by
    have z := acc_len (l := prods p q) (t := [])
    rw [prods_len, List.length_nil] at z
    unfold accT
    omega)
  refine (run_retT (v := pl (nf (prods p q))) (cs := S.cells ++ [.dT (kv (accT (prods p q)))]) ?_ (pl_pure _)).trans (by simp)
  unfold b_poly_mul
  refine (xss_step (σ' := [some (pl p), some (pl q), some (.ref S.cells.length), none, none, none, none, none, none, none]) (S' := ⟨S.cells ++ [.dT (kv [])], false⟩) (by simp [st_poly_mul_0, kv])).trans ((xss_step e2).trans ?_)
  simp [st_poly_mul_2, fromOk]
end
end K06
end
section
set_option Elab.async false
set_option linter.all false
set_option maxRecDepth 100000
set_option maxHeartbeats 1000000
namespace K06
open PySem MP
section
variable {d : Nat} {S : Sto}
theorem x_powerI {a : Rat} {n : Int} (h0 : 0 ≤ n) (hn : n.toNat < 1000) (l : qs a * n.toNat + qs a + 3 ≤ LIM) : callN F (d + 3) n_power [fr a, .int n] S = .ok (fr (a ^ n.toNat)) S := by
  have z := x_power (d := d) (a := a) (n := n.toNat) (S := S) hn l
  rwa [Int.toNat_of_nonneg h0] at z
theorem x_raisedI {x : Iv} {n : Int} (h0 : 0 ≤ n) (hn : n.toNat < 1000) (l : is x * n.toNat + is x + is x * n.toNat + 4 ≤ LIM) : callN F (d + 4) n_raised [ivv x, .int n] S = .ok (ivv (x.rai n.toNat)) S := by
  have z := x_raised (d := d) (x := x) (n := n.toNat) (S := S) hn l
  rwa [Int.toNat_of_nonneg h0] at z
/-! ### a term over ranges -/
theorem zip_dom {S : Sto} {dom : List Iv} {e : List Int} : zipV S (.tup (dom.map ivv)) (rowPV e) = some ((dom.zip e).map fun r => .tup [ivv r.1, .int r.2], []) := by
  simp [zipV, rowPV, pairs_map]
theorem x_term_range {k E m n : Nat} {dom : List Iv} {t : Tm} (hd : ∀ x ∈ dom, is x ≤ k) (hn : dom.length ≤ n) (he : ∀ i ∈ t.1, 0 ≤ i ∧ i.toNat ≤ E) (hq : qs t.2 ≤ m) (hE : E < 1000) (l : 2 * (n * (k * E + 1)) + 4 * (k * E + 1) + k + m + 20 ≤ LIM) :
    callN F (d + 5) n_term_range [rowPV t.1, fr t.2, .tup (dom.map ivv)] S = .ok (ivv (trange dom t)) S := by
  rw [callN_of (fd := ⟨3, 6, b_term_range⟩) rfl rfl]
  have e0 := xst_for (C := callN F (d + 4)) (b := S.cells.length) (t := .tup (.cons (.name 4) (.cons (.name 5) .nil))) (it := .zip (.var 2) (.var 0)) (p := bk_term_range_0) (σ := [some (rowPV t.1), some (fr t.2), some (.tup (dom.map ivv)), some (ivv (Iv.pt 1)), none, none]) (S := ⟨S.cells, false⟩) (w := ((dom.zip t.1).map fun r => .tup [ivv r.1, .int r.2], [])) (S1 := ⟨S.cells, false⟩) (by simp [zip_dom])
  obtain ⟨σ', S', e1, ⟨y4, y5, rfl, rfl⟩, _⟩ := for_fold (g := fun S => stands S []) (bind := bindT (.tup (.cons (.name 4) (.cons (.name 5) .nil)))) (body := xss (callN F (d + 4)) S.cells.length bk_term_range_0) (fun r : Iv × Int => .tup [ivv r.1, .int r.2])
    (fun s σ S' => ∃ x4 x5, σ = [some (rowPV t.1), some (fr t.2), some (.tup (dom.map ivv)), some (ivv s), x4, x5] ∧ S' = ⟨S.cells, false⟩) facI (fun i s => i ≤ n ∧ is s ≤ 1 + i * (k * E + 1)) (fun _ _ _ _ => rfl) (dom.zip t.1) 0 (Iv.pt 1) _ _ ⟨none, none, rfl, rfl⟩ ⟨by omega, by rw [is_pt, qs_one]; omega⟩ fun j r s σ S' hj hp ⟨x4, x5, e1, e2⟩ => by
      subst e1 e2
      rw [Nat.zero_add] at hp ⊢
      have mj := List.mem_of_getElem? hj
      have jl := (List.getElem?_eq_some_iff.mp hj).1
      rw [List.length_zip] at jl
      have h1 := hd _ (List.of_mem_zip mj).1
      have h2 := he _ (List.of_mem_zip mj).2
      have z1 := is_mul s (r.1.rai r.2.toNat)
      have z2 := is_rai r.1 r.2.toNat
      have z3 : is r.1 * r.2.toNat ≤ k * E := Nat.mul_le_mul h1 h2.2
      have z4 : j * (k * E + 1) ≤ n * (k * E + 1) := Nat.mul_le_mul_right _ hp.1
      have z5 : (j + 1) * (k * E + 1) = j * (k * E + 1) + (k * E + 1) := Nat.succ_mul _ _
      refine ⟨[some (rowPV t.1), some (fr t.2), some (.tup (dom.map ivv)), some (ivv s), some (ivv r.1), some (.int r.2)], [some (rowPV t.1), some (fr t.2), some (.tup (dom.map ivv)), some (ivv (facI s r)), some (ivv r.1), some (.int r.2)], ⟨S.cells, false⟩, by simp, .inl ?_, ⟨_, _, rfl, rfl⟩, by omega, ?_⟩
      · by_cases h0 : r.2 = 0
        · simp [bk_term_range_0, h0, facI]
        · have ra := x_raisedI (d := d) (S := ⟨S.cells, false⟩) (x := r.1) (n := r.2) h2.1 (by omega) (by omega)
          simp (disch := first | omega | (simp; done) | fail) [bk_term_range_0, h0, facI, ra]
      · unfold facI
        split
        · omega
        · omega
  have z := is_facs (k := k) (E := E) (l := dom.zip t.1) (t := Iv.pt 1) fun p hp => ⟨hd _ (List.of_mem_zip hp).1, (he _ (List.of_mem_zip hp).2).2⟩
  rw [is_pt, qs_one] at z
  have z2 : (dom.zip t.1).length * (k * E + 1) ≤ n * (k * E + 1) := Nat.mul_le_mul_right _ (by rw [List.length_zip]; omega)
  refine run_ret ?_ (by simp)
  unfold b_term_range
  refine (xss_step (σ' := [some (rowPV t.1), some (fr t.2), some (.tup (dom.map ivv)), some (ivv (Iv.pt 1)), none, none]) (S' := ⟨S.cells, false⟩) (by simp [st_term_range_0])).trans ((xss_step (e0.trans e1)).trans ?_)
  rw [show (dom.zip t.1).foldl facI (Iv.pt 1) = facs dom t.1 from rfl] at *
  simp (disch := first | omega | (simp; done) | fail) [st_term_range_2, trange]
/-- the sum of the ranges of the terms -/
theorem x_poly_bound {k E m n L : Nat} {dom : List Iv} {p : List Tm} (hd : ∀ x ∈ dom, is x ≤ k) (hn : dom.length ≤ n) (he : ∀ t ∈ p, ∀ i ∈ t.1, 0 ≤ i ∧ i.toNat ≤ E) (hq : ∀ t ∈ p, qs t.2 ≤ m) (hE : E < 1000) (hL : p.length ≤ L) (l : L * (n * (k * E + 1) + m + 2) + 2 * (n * (k * E + 1)) + 4 * (k * E + 1) + k + m + 20 ≤ LIM) :
    callN F (d + 6) n_poly_bound [pl p, .tup (dom.map ivv)] S = .ok (ivv (pbound dom p)) S := by
  rw [callN_of (fd := ⟨2, 5, b_poly_bound⟩) rfl rfl]
  have e0 := xst_for (C := callN F (d + 5)) (b := S.cells.length) (t := .tup (.cons (.name 3) (.cons (.name 4) .nil))) (it := .seq (.var 0)) (p := bk_poly_bound_0) (σ := [some (pl p), some (.tup (dom.map ivv)), some (ivv (Iv.pt 0)), none, none]) (S := ⟨S.cells, false⟩) (w := (p.map tm, [])) (S1 := ⟨S.cells, false⟩) (by simp [pl])
  obtain ⟨σ', S', e1, ⟨y4, y5, rfl, rfl⟩, _⟩ := for_fold (g := fun S => stands S []) (bind := bindT (.tup (.cons (.name 3) (.cons (.name 4) .nil)))) (body := xss (callN F (d + 5)) S.cells.length bk_poly_bound_0) tm
    (fun s σ S' => ∃ x4 x5, σ = [some (pl p), some (.tup (dom.map ivv)), some (ivv s), x4, x5] ∧ S' = ⟨S.cells, false⟩) (fun s t => s.add (trange dom t)) (fun i s => i ≤ L ∧ is s ≤ 1 + i * (n * (k * E + 1) + m + 2)) (fun _ _ _ _ => rfl) p 0 (Iv.pt 0) _ _ ⟨none, none, rfl, rfl⟩ ⟨by omega, by rw [is_pt, qs_zero]; omega⟩ fun j t s σ S' hj hp ⟨x4, x5, e1, e2⟩ => by
      subst e1 e2
      rw [Nat.zero_add] at hp ⊢
      have mj := List.mem_of_getElem? hj
      have jl := (List.getElem?_eq_some_iff.mp hj).1
      have tr := x_term_range (d := d) (S := ⟨S.cells, false⟩) (dom := dom) hd hn (he t mj) (hq t mj) hE (by omega)
      have z1 := is_trange (dom := dom) hd hn (fun i hi => (he t mj i hi).2) (hq t mj)
      have z2 := is_add s (trange dom t)
      have z4 : j * (n * (k * E + 1) + m + 2) ≤ L * (n * (k * E + 1) + m + 2) := Nat.mul_le_mul_right _ hp.1
      have z5 : (j + 1) * (n * (k * E + 1) + m + 2) = j * (n * (k * E + 1) + m + 2) + (n * (k * E + 1) + m + 2) := Nat.succ_mul _ _
      refine ⟨[some (pl p), some (.tup (dom.map ivv)), some (ivv s), some (rowPV t.1), some (fr t.2)], [some (pl p), some (.tup (dom.map ivv)), some (ivv (s.add (trange dom t))), some (rowPV t.1), some (fr t.2)], ⟨S.cells, false⟩, by simp [tm], .inl ?_, ⟨_, _, rfl, rfl⟩, by omega, by omega⟩
      simp (disch := first | omega | (simp; done) | fail) [bk_poly_bound_0, tr]
  refine run_ret ?_ (by simp)
  unfold b_poly_bound
  refine (xss_step (σ' := [some (pl p), some (.tup (dom.map ivv)), some (ivv (Iv.pt 0)), none, none]) (S' := ⟨S.cells, false⟩) (by simp [st_poly_bound_0])).trans ((xss_step (e0.trans e1)).trans ?_)
  simp [st_poly_bound_2, pbound]
/-! ### the value -/
theorem foldl_mon : ∀ {x : List Rat} {e : List Int} {c : Rat}, (x.zip e).foldl (fun c r => c * r.1 ^ r.2.toNat) c = c * mon x e
  | [], e, c => by cases e <;> simp [mon, Rat.mul_one]
  | a :: x, [], c => by simp [mon, Rat.mul_one]
  | a :: x, n :: e, c => by rw [List.zip_cons_cons, List.foldl_cons, foldl_mon, mon, Rat.mul_assoc]
theorem qs_mon {k E : Nat} : ∀ {l : List (Rat × Int)} {c : Rat}, (∀ r ∈ l, qs r.1 ≤ k ∧ r.2.toNat ≤ E) → qs (l.foldl (fun c r => c * r.1 ^ r.2.toNat) c) ≤ qs c + l.length * (k * E + 1)
  | [], c, _ => by simp
  | r :: l, c, h => by
    obtain ⟨h1, h2⟩ := h r List.mem_cons_self
    have ih := qs_mon (l := l) (c := c * r.1 ^ r.2.toNat) fun q m => h q (List.mem_cons_of_mem _ m)
    have z1 := qs_mul c (r.1 ^ r.2.toNat)
    have z2 := qs_pow r.1 r.2.toNat
    have z3 : qs r.1 * r.2.toNat ≤ k * E := Nat.mul_le_mul h1 h2
    rw [List.foldl_cons, List.length_cons, Nat.add_mul]
    omega
theorem vp_foldl {x : List Rat} : ∀ {p : List Tm} {s : Rat}, p.foldl (fun s t => s + t.2 * mon x t.1) s = s + vp x p
  | [], s => by show s = s + 0; rw [Rat.add_zero]
  | t :: p, s => by
    rw [List.foldl_cons, vp_foldl]
    show _ = s + (t.2 * mon x t.1 + vp x p)
    rw [Rat.add_assoc]
theorem qs_term {k E n m : Nat} {x : List Rat} {t : Tm} (hx : ∀ a ∈ x, qs a ≤ k) (hn : x.length ≤ n) (he : ∀ i ∈ t.1, i.toNat ≤ E) (hq : qs t.2 ≤ m) : qs (t.2 * mon x t.1) ≤ m + n * (k * E + 1) := by
  have z := qs_mon (k := k) (E := E) (l := x.zip t.1) (c := t.2) fun r hr => ⟨hx _ (List.of_mem_zip hr).1, he _ (List.of_mem_zip hr).2⟩
  rw [foldl_mon] at z
  have z2 : (x.zip t.1).length * (k * E + 1) ≤ n * (k * E + 1) := Nat.mul_le_mul_right _ (by rw [List.length_zip]; omega)
  omega
theorem qs_vp {B : Nat} {x : List Rat} : ∀ {p : List Tm}, (∀ t ∈ p, qs (t.2 * mon x t.1) ≤ B) → qs (vp x p) ≤ 1 + p.length * (B + 1)
  | [], _ => by show qs 0 ≤ _; rw [qs_zero]; omega
  | t :: p, h => by
    have ih := qs_vp (p := p) fun u m => h u (List.mem_cons_of_mem _ m)
    have h1 := h t List.mem_cons_self
    have z := qs_add (t.2 * mon x t.1) (vp x p)
    show qs (t.2 * mon x t.1 + vp x p) ≤ _
    rw [List.length_cons, Nat.add_mul]
    omega
theorem zip_place {S : Sto} {x : List Rat} {e : List Int} : zipV S (.lst (x.map fr)) (rowPV e) = some ((x.zip e).map fun r => .tup [fr r.1, .int r.2], []) := by
  simp [zipV, rowPV, pairs_map]
theorem x_poly_value {k E m n L : Nat} {x : List Rat} {p : List Tm} (hx : ∀ a ∈ x, qs a ≤ k) (hn : x.length ≤ n) (he : ∀ t ∈ p, ∀ i ∈ t.1, 0 ≤ i ∧ i.toNat ≤ E) (hq : ∀ t ∈ p, qs t.2 ≤ m) (hE : E < 1000) (hL : p.length ≤ L) (l : L * (n * (k * E + 1) + m + 2) + 2 * (n * (k * E + 1)) + 4 * (k * E + 1) + k + m + 20 ≤ LIM) :
    callN F (d + 4) n_poly_value [pl p, .lst (x.map fr)] S = .ok (fr (vp x p)) S := by
  rw [callN_of (fd := ⟨2, 7, b_poly_value⟩) rfl rfl]
  have e0 := xst_for (C := callN F (d + 3)) (b := S.cells.length) (t := .tup (.cons (.name 3) (.cons (.name 4) .nil))) (it := .seq (.var 0)) (p := bk_poly_value_1) (σ := [some (pl p), some (.lst (x.map fr)), some (fr 0), none, none, none, none]) (S := ⟨S.cells, false⟩) (w := (p.map tm, [])) (S1 := ⟨S.cells, false⟩) (by simp [pl])
  obtain ⟨σ', S', e1, ⟨y3, y4, y5, y6, rfl, rfl⟩, _⟩ := for_fold (g := fun S => stands S []) (bind := bindT (.tup (.cons (.name 3) (.cons (.name 4) .nil)))) (body := xss (callN F (d + 3)) S.cells.length bk_poly_value_1) tm
    (fun s σ S' => ∃ x3 x4 x5 x6, σ = [some (pl p), some (.lst (x.map fr)), some (fr s), x3, x4, x5, x6] ∧ S' = ⟨S.cells, false⟩) (fun s t => s + t.2 * mon x t.1) (fun i s => i ≤ L ∧ qs s ≤ 1 + i * (n * (k * E + 1) + m + 2)) (fun _ _ _ _ => rfl) p 0 0 _ _ ⟨none, none, none, none, rfl, rfl⟩ ⟨by omega, by rw [qs_zero]; omega⟩ fun j t s σ S' hj hp ⟨x3, x4, x5, x6, e1, e2⟩ => by
      subst e1 e2
      rw [Nat.zero_add] at hp ⊢
      have mj := List.mem_of_getElem? hj
      have jl := (List.getElem?_eq_some_iff.mp hj).1
      have het := he t mj
      have hqt := hq t mj
      -- the inner loop
      have f0 := xst_for (C := callN F (d + 3)) (b := S.cells.length) (t := .tup (.cons (.name 5) (.cons (.name 6) .nil))) (it := .zip (.var 1) (.var 3)) (p := bk_poly_value_0) (σ := [some (pl p), some (.lst (x.map fr)), some (fr s), some (rowPV t.1), some (fr t.2), x5, x6]) (S := ⟨S.cells, false⟩) (w := ((x.zip t.1).map fun r => .tup [fr r.1, .int r.2], [])) (S1 := ⟨S.cells, false⟩) (by simp [zip_place])
      obtain ⟨τ, S2, f1, ⟨z5, z6, rfl, rfl⟩, _⟩ := for_fold (g := fun S => stands S []) (bind := bindT (.tup (.cons (.name 5) (.cons (.name 6) .nil)))) (body := xss (callN F (d + 3)) S.cells.length bk_poly_value_0) (fun r : Rat × Int => .tup [fr r.1, .int r.2])
        (fun c σ S' => ∃ x5 x6, σ = [some (pl p), some (.lst (x.map fr)), some (fr s), some (rowPV t.1), some (fr c), x5, x6] ∧ S' = ⟨S.cells, false⟩) (fun c r => c * r.1 ^ r.2.toNat) (fun i c => i ≤ n ∧ qs c ≤ m + i * (k * E + 1)) (fun _ _ _ _ => rfl) (x.zip t.1) 0 t.2 _ _ ⟨x5, x6, rfl, rfl⟩ ⟨by omega, by omega⟩ fun i r c σ S' hi hp2 ⟨w5, w6, e1, e2⟩ => by
          subst e1 e2
          rw [Nat.zero_add] at hp2 ⊢
          have mi := List.mem_of_getElem? hi
          have il := (List.getElem?_eq_some_iff.mp hi).1
          rw [List.length_zip] at il
          have h1 := hx _ (List.of_mem_zip mi).1
          have h2 := het _ (List.of_mem_zip mi).2
          have z1 := qs_mul c (r.1 ^ r.2.toNat)
          have z2 := qs_pow r.1 r.2.toNat
          have z3 : qs r.1 * r.2.toNat ≤ k * E := Nat.mul_le_mul h1 h2.2
          have z4 : i * (k * E + 1) ≤ n * (k * E + 1) := Nat.mul_le_mul_right _ hp2.1
          have z5 : (i + 1) * (k * E + 1) = i * (k * E + 1) + (k * E + 1) := Nat.succ_mul _ _
          have pw := x_powerI (d := d) (S := ⟨S.cells, false⟩) (a := r.1) (n := r.2) h2.1 (by omega) (by omega)
          refine ⟨[some (pl p), some (.lst (x.map fr)), some (fr s), some (rowPV t.1), some (fr c), some (fr r.1), some (.int r.2)], [some (pl p), some (.lst (x.map fr)), some (fr s), some (rowPV t.1), some (fr (c * r.1 ^ r.2.toNat)), some (fr r.1), some (.int r.2)], ⟨S.cells, false⟩, by simp, .inl ?_, ⟨_, _, rfl, rfl⟩, by omega, by omega⟩
          simp (disch := first | omega | (simp; done) | fail) [bk_poly_value_0, pw]
      rw [foldl_mon] at f1
      have z1 := qs_term (k := k) (E := E) (n := n) (m := m) (t := t) hx hn (fun i hi => (het i hi).2) hqt
      have z2 := qs_add s (t.2 * mon x t.1)
      have z4 : j * (n * (k * E + 1) + m + 2) ≤ L * (n * (k * E + 1) + m + 2) := Nat.mul_le_mul_right _ hp.1
      have u5 : (j + 1) * (n * (k * E + 1) + m + 2) = j * (n * (k * E + 1) + m + 2) + (n * (k * E + 1) + m + 2) := Nat.succ_mul _ _
      refine ⟨[some (pl p), some (.lst (x.map fr)), some (fr s), some (rowPV t.1), some (fr t.2), x5, x6], [some (pl p), some (.lst (x.map fr)), some (fr (s + t.2 * mon x t.1)), some (rowPV t.1), some (fr (t.2 * mon x t.1)), z5, z6], ⟨S.cells, false⟩, by simp [tm], .inl ?_, ⟨_, _, _, _, rfl, rfl⟩, by omega, by omega⟩
      unfold bk_poly_value_1
      refine (xss_step (f0.trans f1)).trans ?_
      simp (disch := first | omega | (simp; done) | fail)
  rw [vp_foldl, Rat.zero_add] at e1
  refine run_ret ?_ (by simp)
  unfold b_poly_value
  refine (xss_step (σ' := [some (pl p), some (.lst (x.map fr)), some (fr 0), none, none, none, none]) (S' := ⟨S.cells, false⟩) (by simp [st_poly_value_0])).trans ((xss_step (e0.trans e1)).trans ?_)
  simp [st_poly_value_2]
end
end K06
end
section
set_option Elab.async false
set_option linter.all false
set_option maxRecDepth 100000
set_option maxHeartbeats 1000000
namespace K06
open PySem MP
section
variable {d K : Nat} {S : Sto}
/-! ### a number for a parameter -/
def fixE (e : List Int) (i : Nat) : List Int := e.take i ++ [0] ++ e.drop (i + 1)
def fixes (p : List Tm) (i : Nat) (a : Rat) : List Tm := p.map fun t => (fixE t.1 i, t.2 * a ^ (t.1[i]?.getD 0).toNat)
def pfix (p : List Tm) (i : Nat) (a : Rat) : List Tm := nf (fixes p i a)
theorem fixE_ne (e : List Int) (i : Nat) : fixE e i ≠ [] := by unfold fixE; simp
theorem x_poly_fixed {p : List Tm} {i : Nat} {a : Rat} (h : PS K (fixes p i a)) (hK : K + K + 2 ≤ LIM) (hi : ∀ t ∈ p, i < t.1.length ∧ t.1.length ≤ 100000) (he : ∀ t ∈ p, ∀ n ∈ t.1, 0 ≤ n ∧ n.toNat < 1000 ∧ qs a * n.toNat + qs a + 3 + qs t.2 ≤ LIM) (len : p.length ≤ 1000000) : callN F (d + 4) n_poly_fixed [pl p, .int i, fr a] S = .ok (pl (pfix p i a)) S := by
  rw [callN_of (fd := ⟨3, 7, b_poly_fixed⟩) rfl rfl]
  have e0 := xst_for (C := callN F (d + 3)) (b := S.cells.length) (t := .tup (.cons (.name 4) (.cons (.name 5) .nil))) (it := .seq (.var 0)) (p := bk_poly_fixed_0) (σ := [some (pl p), some (.int i), some (fr a), some (.ref S.cells.length), none, none, none]) (S := ⟨S.cells ++ [.dT (kv [])], false⟩) (w := (p.map tm, [])) (S1 := ⟨S.cells ++ [.dT (kv [])], false⟩) (by simp [pl])
  obtain ⟨σ', S', e1, ⟨x4, x5, x6, rfl, rfl⟩, ht⟩ := for_fold (g := fun S => stands S []) (bind := bindT (.tup (.cons (.name 4) (.cons (.name 5) .nil)))) (body := xss (callN F (d + 3)) S.cells.length bk_poly_fixed_0) tm
    (fun t σ S' => ∃ x4 x5 x6, σ = [some (pl p), some (.int i), some (fr a), some (.ref S.cells.length), x4, x5, x6] ∧ S' = ⟨S.cells ++ [.dT (kv t)], false⟩) (fun t m => putS t (fixE m.1 i, m.2 * a ^ (m.1[i]?.getD 0).toNat)) (fun j t => t = accT (fixes (p.take j) i a)) (fun _ _ _ _ => rfl) p 0 [] _ _ ⟨none, none, none, rfl, rfl⟩ rfl fun j m t σ S' hj hp ⟨x4, x5, x6, e1, e2⟩ => by
      subst e1 e2
      rw [Nat.zero_add] at hp ⊢
      have mj := List.mem_of_getElem? hj
      have jl := (List.getElem?_eq_some_iff.mp hj).1
      obtain ⟨hl, hl2⟩ := hi m mj
      have gi : m.1[i]?.getD 0 = m.1[i] := by simp [hl]
      obtain ⟨h0, h1, h2⟩ := he m mj m.1[i] (List.getElem_mem hl)
      have ft : fixes (p.take j) i a = (fixes p i a).take j := by unfold fixes; rw [List.map_take]
      have s1 : qs (getT t (fixE m.1 i)) ≤ K := by
        rw [hp, ft, acc_get]
        exact h.1 _ _
      have s2 : qs (m.2 * a ^ (m.1[i]?.getD 0).toNat) ≤ K := h.2 (fixE m.1 i, _) (List.mem_map.mpr ⟨m, mj, rfl⟩)
      have l1 : t.length < lenMax := by
        have z := acc_len (l := fixes (p.take j) i a) (t := [])
        have hp' : t = (fixes (p.take j) i a).foldl putS [] := hp
        rw [← hp'] at z
        unfold fixes at z
        rw [List.length_map, List.length_take, List.length_nil] at z
        have : lenMax = 16777216 := rfl
        omega
      have pw := x_powerI (d := d) (S := ⟨S.cells ++ [.dT (kv t)], false⟩) (a := a) (n := m.1[i]) h0 h1 (by omega)
      have z1 := qs_pow a m.1[i].toNat
      have c1 : cut m.1 none (some (i : Int)) = m.1.take i := cut_to
      have c2 : cut m.1 (some ((i : Int) + 1)) none = m.1.drop (i + 1) := cut_from (n := i + 1)
      have a1 : ∀ S : Sto, opV S .add (rowPV (m.1.take i)) (.tup [.int 0]) = some (rowPV (m.1.take i ++ [0])) := fun S => ad_row (b := [0]) (by rw [List.length_take]; have : lenMax = 16777216 := rfl; simp; omega)
      have a2 : ∀ S : Sto, opV S .add (rowPV (m.1.take i ++ [0])) (rowPV (m.1.drop (i + 1))) = some (rowPV (fixE m.1 i)) := fun S => ad_row (by have : lenMax = 16777216 := rfl; simp; omega)
      have ri : ∀ S : Sto, ixV S (rowPV m.1) (.int i) = some (.int m.1[i]) := fun S => row_nat hl
      refine ⟨[some (pl p), some (.int i), some (fr a), some (.ref S.cells.length), some (rowPV m.1), some (fr m.2), x6], [some (pl p), some (.int i), some (fr a), some (.ref S.cells.length), some (rowPV m.1), some (fr m.2), some (rowPV (fixE m.1 i))], ⟨S.cells ++ [.dT (kv (putS t (fixE m.1 i, m.2 * a ^ (m.1[i]?.getD 0).toNat)))], false⟩, by simp [tm], .inl ?_, ⟨_, _, _, rfl, rfl⟩, ?_⟩
      · rw [gi] at s2 ⊢
        simp (disch := first | omega | (simp; done) | fail) [bk_poly_fixed_0, c1, c2, a1, a2, ri, pw, subR_end l1, putS]
      · rw [hp]
        unfold accT fixes
        rw [List.take_add_one, hj, Option.toList_some, List.map_append, List.foldl_append]
        rfl
  have ht : p.foldl (fun t m => putS t (fixE m.1 i, m.2 * a ^ (m.1[i]?.getD 0).toNat)) [] = accT (fixes p i a) := by
    rw [Nat.zero_add, List.take_length] at ht
    exact ht
  rw [ht] at e1
  have fromOk : callN F (d + 3) n__from_terms [.ref S.cells.length] ⟨S.cells ++ [.dT (kv (accT (fixes p i a)))], false⟩ = .ok (pl (pfix p i a)) ⟨S.cells ++ [.dT (kv (accT (fixes p i a)))], false⟩ := x_from (d := d + 2) (k := S.cells.length) (t := accT (fixes p i a)) (by simp) (acc_nodup _) (fun e m => by
    have m := acc_in m
    unfold keys at m
    obtain ⟨t, mt, rfl⟩ := List.mem_map.mp m
    obtain ⟨u, mu, rfl⟩ := List.mem_map.mp mt
    exact fixE_ne _ _) (by
    have z := acc_len (l := fixes p i a) (t := [])
    have fl : (fixes p i a).length = p.length := by unfold fixes; rw [List.length_map]
    rw [fl, List.length_nil] at z
    unfold accT
    omega)
  have e2 : xst (callN F (d + 3)) S.cells.length st_poly_fixed_1 [some (pl p), some (.int i), some (fr a), some (.ref S.cells.length), none, none, none] ⟨S.cells ++ [.dT (kv [])], false⟩ = .next [some (pl p), some (.int i), some (fr a), some (.ref S.cells.length), x4, x5, x6] ⟨S.cells ++ [.dT (kv (accT (fixes p i a)))], false⟩ := e0.trans e1
  refine (run_retT (v := pl (pfix p i a)) (cs := S.cells ++ [.dT (kv (accT (fixes p i a)))]) ?_ (pl_pure _)).trans (by simp)
  unfold b_poly_fixed
  refine (xss_step (σ' := [some (pl p), some (.int i), some (fr a), some (.ref S.cells.length), none, none, none]) (S' := ⟨S.cells ++ [.dT (kv [])], false⟩) (by simp [st_poly_fixed_0, kv])).trans ((xss_step e2).trans ?_)
  simp [st_poly_fixed_2, fromOk]
/-- a number for the time, behind n parameters -/
theorem x_poly_at_time {p : List Tm} {n : Nat} {a : Rat} (h : PS K (fixes p n a)) (hK : K + K + 2 ≤ LIM) (hn : n ≤ 1000) (hi : ∀ t ∈ p, t.1.length = n + 1) (he : ∀ t ∈ p, ∀ n ∈ t.1, 0 ≤ n ∧ n.toNat < 1000 ∧ qs a * n.toNat + qs a + 3 + qs t.2 ≤ LIM) (len : p.length ≤ 1000000) : callN F (d + 5) n_poly_at_time [pl p, fr a] S = .ok (pl (pfix p n a)) S := by
  rw [callN_of (fd := ⟨2, 2, b_poly_at_time⟩) rfl rfl]
  refine run_ret ?_ (pl_pure _)
  have fx := x_poly_fixed (d := d) (S := ⟨S.cells, false⟩) h hK (fun t m => by rw [hi t m]; omega) he len
  cases p with
  | nil => simp [st_poly_at_time_0, st_poly_at_time_1, b_poly_at_time, pl_nil]; rfl
  | cons t p =>
    have e : (t.1.length : Int) - 1 = n := by rw [hi t List.mem_cons_self]; omega
    have i0 : ∀ S : Sto, ixV S (pl (t :: p)) (.int 0) = some (tm t) := fun S => by unfold pl; rw [List.map_cons, zix_tup, itemAt_0]
    have i1 : ∀ S : Sto, ixV S (tm t) (.int 0) = some (rowPV t.1) := fun S => by unfold tm; rw [zix_tup, itemAt_0]
    simp [st_poly_at_time_0, st_poly_at_time_1, b_poly_at_time, i0, i1, e, fx]
/-! ### the integral -/
def lastE (e : List Int) : Int := e.getLastD 0
def intE (e : List Int) : List Int := e.dropLast ++ [lastE e + 1]
def pint (p : List Tm) : List Tm := p.map fun t => (intE t.1, t.2 / ((lastE t.1 : Rat) + 1))
theorem x_poly_integral {p : List Tm} (hi : ∀ t ∈ p, t.1 ≠ [] ∧ t.1.length ≤ 100000) (he : ∀ t ∈ p, 0 ≤ lastE t.1) (hq : ∀ t ∈ p, qs t.2 + qs ((lastE t.1 : Rat) + 1) + 2 ≤ LIM) (len : p.length ≤ 1000000) : callN F (d + 3) n_poly_integral [pl p] S = .ok (pl (pint p)) S := by
  rw [callN_of (fd := ⟨1, 3, b_poly_integral⟩) rfl rfl]
  refine run_ret ?_ (pl_pure _)
  have lc := ev_lcm (C := callN F (d + 2)) (b := S.cells.length) (σ := [some (pl p), none, none]) (S := ⟨S.cells, false⟩) (t := .tup (.cons (.name 1) (.cons (.name 2) .nil))) (own := [1, 2]) (it := .seq (.var 0)) (c := .none) (e := .tup (.cons (.bin .add (.slc (.var 1) .none (.some (.neg (.cst (.int 1))))) (.tup (.cons (.bin .add (.ix (.var 1) (.neg (.cst (.int 1)))) (.cst (.int 1))) .nil))) (.cons (.call n_div (.cons (.var 2) (.cons (.tup (.cons (.bin .add (.ix (.var 1) (.neg (.cst (.int 1)))) (.cst (.int 1))) (.cons (.cst (.int 1)) .nil))) .nil))) .nil)))
      tm (fun t => tm (intE t.1, t.2 / ((lastE t.1 : Rat) + 1))) p (gw := []) (by simp [pl]) rfl (Nat.le_trans len (by decide)) fun t m => by
        obtain ⟨hne, hl⟩ := hi t m
        have h0 := he t m
        have hqt := hq t m
        have la : ∀ S : Sto, ixV S (rowPV t.1) (.int (-1)) = some (.int (lastE t.1)) := fun S => by
          rw [ix_row, itemAt_last hne]
          unfold lastE
          rw [List.getLastD_eq_getLast?]
          cases h : t.1.getLast? with
          | none => exact absurd (List.getLast?_eq_none_iff.mp h) hne
          | some v => rfl
        have a1 : ∀ S : Sto, opV S .add (rowPV t.1.dropLast) (.tup [.int (lastE t.1 + 1)]) = some (rowPV (intE t.1)) := fun S => ad_row (b := [lastE t.1 + 1]) (by have : lenMax = 16777216 := rfl; simp; omega)
        have ec : ((lastE t.1 : Rat) + 1) = ((lastE t.1 + 1 : Int) : Rat) := by simp
        have nz : ((lastE t.1 : Rat) + 1) ≠ 0 := fun z => by
          rw [ec] at z
          have := Rat.intCast_eq_zero_iff.mp z
          omega
        have dv := x_div (d := d) (S := ⟨S.cells, false⟩) (a := t.2) (b := ((lastE t.1 : Rat) + 1)) nz hqt
        have ez : fr ((lastE t.1 : Rat) + 1) = .tup [.int (lastE t.1 + 1), .int 1] := by rw [ec, zint]
        rw [ez] at dv
        refine ⟨[some (pl p), some (rowPV t.1), some (fr t.2)], by simp [tm], by simp, by simp [la, a1, cut_init, dv, tm]⟩
  simp [st_poly_integral_0, b_poly_integral, lc]
  unfold pl pint
  rw [List.map_map]
  rfl
/-! ### numbers and parameters -/
def pnum (params : Nat) (a : Rat) : List Tm := if a = 0 then [] else [(List.replicate (params + 1) 0, a)]
theorem x_poly_number {n : Nat} {a : Rat} (h1 : 1 ≤ n) (h2 : n ≤ 900) : callN F (d + 1) n_poly_number [.int n, fr a] S = .ok (pl (pnum n a)) S := by
  rw [callN_of (fd := ⟨2, 2, b_poly_number⟩) rfl rfl]
  refine run_ret ?_ (pl_pure _)
  unfold pnum
  by_cases h0 : a = 0
  · simp [st_poly_number_0, b_poly_number, h0, pl_nil]
  · have mt : ∀ S : Sto, opV S .mul (.tup [.int 0]) (.int ((n : Int) + 1)) = some (rowPV (List.replicate (n + 1) 0)) := fun S => by
      rw [op_mt]
      have e : ((n : Int) + 1).toNat = n + 1 := by omega
      have c : (!([PV.int 0] : List PV).isEmpty && decide (2 ≤ (n : Int) + 1) && decide ((n : Int) + 1 ≤ 1000) && decide (([PV.int 0] : List PV).length ≤ 1000)) = true := by
        simp
        omega
      rw [if_pos c, e]
      unfold rowPV
      congr 2
      rw [List.map_replicate]
      generalize n + 1 = m
      induction m with
      | zero => rfl
      | succ m ih => rw [List.replicate_succ, List.replicate_succ, List.flatten_cons, ih]; rfl
    simp [st_poly_number_0, b_poly_number, h0, mt, pl, tm]
def unitE (params index : Nat) : List Int := (List.range (params + 1)).map fun i => if i = index then 1 else 0
def ppar (params index : Nat) : List Tm := [(unitE params index, 1)]
theorem x_poly_parameter {n i : Nat} (h2 : n ≤ 900) : callN F (d + 1) n_poly_parameter [.int n, .int i] S = .ok (pl (ppar n i)) S := by
  rw [callN_of (fd := ⟨2, 3, b_poly_parameter⟩) rfl rfl]
  refine run_ret ?_ (pl_pure _)
  have lc := ev_lcm (C := callN F d) (b := S.cells.length) (σ := [some (.int n), some (.int i), none]) (S := ⟨S.cells, false⟩) (t := .name 2) (own := [2]) (it := .rng1 (.bin .add (.var 0) (.cst (.int 1)))) (c := .none) (e := .ife (.cmp .eq (.var 2) (.var 1)) (.cst (.int 1)) (.cst (.int 0)))
    (fun j : Nat => .int (j : Int)) (fun j => .int (if j = i then 1 else 0)) (List.range (n + 1)) (gw := []) (evi_rngN (C := callN F d) (b := S.cells.length) (e := .bin .add (.var 0) (.cst (.int 1))) (σ := [some (.int n), some (.int i), none]) (S := ⟨S.cells, false⟩) (n := n + 1) (by simp) (by omega)) rfl (by rw [List.length_range]; have : lenMax = 16777216 := rfl; omega) fun j _ => by
      refine ⟨[some (.int n), some (.int i), some (.int j)], by simp, by simp, ?_⟩
      by_cases h : j = i
      · simp [h]
      · have : ¬ (j : Int) = i := by omega
        simp [h, this]
  have e : PV.tup ((List.range (n + 1)).map fun j => PV.int (if j = i then 1 else 0)) = rowPV (unitE n i) := by
    unfold rowPV unitE
    rw [List.map_map]
    rfl
  simp [st_poly_parameter_0, b_poly_parameter, lc, e]
  rfl
theorem x_poly_time {n : Nat} (h2 : n ≤ 900) : callN F (d + 2) n_poly_time [.int n] S = .ok (pl (ppar n n)) S := by
  rw [callN_of (fd := ⟨1, 1, b_poly_time⟩) rfl rfl]
  refine run_ret ?_ (pl_pure _)
  have h := x_poly_parameter (d := d) (S := ⟨S.cells, false⟩) (n := n) (i := n) h2
  simp [st_poly_time_0, b_poly_time, h]
end
end K06
end
section
set_option Elab.async false
set_option linter.all false
set_option maxRecDepth 100000
set_option maxHeartbeats 1000000
namespace K06
open PySem MP
theorem x_mix {d : Nat} {c : Int} {S : Sto} : callN F (d + 1) n__law_mix [.int c] S = .ok (.int (mixF c)) S := by
  have m : ∀ x : Int, mulOk x 48271 = true := fun x => mulOk_r (by unfold sz; decide)
  have m' : ∀ x : Int, mulOk x 69621 = true := fun x => mulOk_r (by unfold sz; decide)
  rw [callN_of (fd := ⟨1, 2, b__law_mix⟩) rfl rfl]
  refine run_ret ?_ rfl
  simp [st__law_mix_0, st__law_mix_1, st__law_mix_2, b__law_mix, m, m', mixF]
theorem x_number {d : Nat} {c : Int} {S : Sto} : callN F (d + 2) n__law_number [.int c] S = .ok (.int (numF c)) S := by
  rw [callN_of (fd := ⟨1, 2, b__law_number⟩) rfl rfl]
  have pw : opV ⟨S.cells, false⟩ .pow (.int 10) (.int 18) = some (.int 1000000000000000000) := by rw [op_pw]; rfl
  refine run_ret ?_ rfl
  by_cases h : 1000000000000000000 ≤ c
  · simp [st__law_number_0, st__law_number_1, st__law_number_2, b__law_number, pw, h, numF]
  · have m : mulOk (mixF c) 2147483629 = true := mulOk_r (by unfold sz; decide)
    simp [st__law_number_0, st__law_number_1, st__law_number_2, b__law_number, pw, h, numF, x_mix, m]
theorem x_state {d : Nat} {ns : List Int} : callN F (d + 1) n__law_state [.lst (ns.map .int)] ⟨[], false⟩ = .ok (.ref 0) ((DS.init ns).sto []) := by
  rw [callN_of (fd := ⟨1, 1, b__law_state⟩) rfl rfl]
  unfold runF
  have e : xss (callN F d) 0 b__law_state [some (.lst (ns.map .int))] ⟨[], false⟩ = .ret (.ref 0) ((DS.init ns).sto []) := by
    simp [st__law_state_0, b__law_state, DS.sto, DS.init, G]
  show (match xss (callN F d) 0 b__law_state [some (.lst (ns.map .int))] ⟨[], false⟩ with
  | .next _ S1 => fin ⟨[], false⟩ .non S1
  | .ret v S1 => fin ⟨[], false⟩ v S1
  | .exc c as _ S1 => if PV.pures as && !S1.dirty then .exc c as ⟨S1.cells.take 0, false⟩ else .bad
  | _ => .bad) = _
  rw [e]
  rfl
/-- a draw's first part -/
theorem x_draw1 {d : Nat} {s : DS} {m : Int} {tl : List Cell} : xst (callN F (d + 2)) (1 + tl.length) st__law_draw_0 [some (.ref 0), some (.int m), none] (s.sto tl) = .next [some (.ref 0), some (.int m), none] (G s.ns (s.fill m) (s.ni m) s.c tl) := by
  unfold st__law_draw_0 DS.sto DS.fill DS.ni
  by_cases h1 : s.a < m
  · by_cases h2 : s.i < s.ns.length
    · have h2' : (s.i : Int) < (s.ns.length : Int) := by omega
      have e2 : itemAt (s.ns.map PV.int) (s.i : Int) = some (.int s.ns[s.i]) := by rw [itemAt_nat]; simp [h2]
      simp [G, Sto.lst?, Sto.wr, ix_r, subR, MP.placeOf, h1, h2, h2', e2, x_number]
    · have h2' : ¬ (s.i : Int) < (s.ns.length : Int) := by omega
      have e2 : s.ns[s.i]? = none := List.getElem?_eq_none (by omega)
      simp [G, Sto.lst?, ix_r, h1, h2, h2', e2]
  · simp [G, Sto.lst?, ix_r, h1]
@[simp] theorem x_draw {d : Nat} {s : DS} {m : Int} {tl : List Cell} (hm : 0 < m) : callN F (d + 3) n__law_draw [.ref 0, .int m] (s.sto tl) = .ok (.int (s.drw m : Nat)) ((s.nxt m).sto tl) := by
  rw [callN_of (fd := ⟨2, 3, b__law_draw⟩) rfl rfl]
  have hm0 : m ≠ 0 := by omega
  have m48 : mulOk s.c 48271 = true := mulOk_r (by unfold sz; decide)
  refine run_D0 ?_ rfl
  unfold b__law_draw
  refine (xss_step x_draw1).trans ?_
  by_cases h0 : s.fill m = 0
  · have z := Int.fmod_nonneg_of_pos (s.nc.fdiv 11) hm
    have z2 : ((s.drw m : Nat) : Int) = (s.nc.fdiv 11).fmod m := by unfold DS.drw; rw [if_pos h0]; omega
    rw [z2]
    unfold DS.nc
    simp [st__law_draw_1, st__law_draw_2, st__law_draw_3, st__law_draw_4, G, Sto.lst?, Sto.wr, ix_r, subR, MP.placeOf, m48, hm0, h0, DS.sto, DS.nxt, DS.nc, hm]
  · have z := Int.fmod_nonneg_of_pos (s.fill m) hm
    have z2 : ((s.drw m : Nat) : Int) = (s.fill m).fmod m := by unfold DS.drw; rw [if_neg h0]; omega
    rw [z2]
    simp [st__law_draw_1, st__law_draw_2, st__law_draw_3, st__law_draw_4, G, Sto.lst?, Sto.wr, ix_r, subR, MP.placeOf, hm0, h0, DS.sto, DS.nxt, hm]
end K06
end
section
set_option Elab.async false
set_option linter.all false
set_option maxRecDepth 100000
set_option maxHeartbeats 1000000
namespace K06
open PySem MP
section
variable {d : Nat} {S : Sto} {s : DS} {tl : List Cell}
/-- a drawn number -/
def pairF (s : DS) : Rat × DS := (Rat.divInt (((s.nxt 5).drw (8 * (1 + (s.drw 5 : Int)) + 1) : Int) - 4 * (1 + (s.drw 5 : Int))) (1 + (s.drw 5 : Int)), (s.nxt 5).nxt (8 * (1 + (s.drw 5 : Int)) + 1))
theorem pairF_sz (s : DS) : qs (pairF s).1 ≤ 5 := by
  have h := s.drw_lt (m := 5) (by decide)
  have h2 := (s.nxt 5).drw_lt (m := 8 * (1 + (s.drw 5 : Int)) + 1) (by omega)
  refine qs_le (k := 4) (szq_divInt (by omega) ?_ ?_)
  · unfold sz; omega
  · unfold sz; omega
theorem x_pair : callN F (d + 4) n__law_pair [.ref 0] (s.sto tl) = .ok (fr (pairF s).1) ((pairF s).2.sto tl) := by
  rw [callN_of (fd := ⟨1, 2, b__law_pair⟩) rfl rfl]
  refine run_D0 ?_ (by simp)
  have h := s.drw_lt (m := 5) (by decide)
  have m1 : mulOk 8 (1 + (s.drw 5 : Int)) = true := mulOk_l (by unfold sz; decide)
  have m2 : mulOk 4 (1 + (s.drw 5 : Int)) = true := mulOk_l (by unfold sz; decide)
  have mk := fun S => x_make (d := d + 2) (S := S) (t := ((s.nxt 5).drw (8 * (1 + (s.drw 5 : Int)) + 1) : Int) - 4 * (1 + (s.drw 5 : Int))) (b := 1 + (s.drw 5 : Int)) (by omega)
  simp (disch := first | omega | (simp; done) | fail) [st__law_pair_0, st__law_pair_1, b__law_pair, m1, m2, mk, pairF]
/-! ### values by the law's own sums -/
def RlI (q : Rat) (a b : Int) (k : Nat) : Prop := b ≠ 0 ∧ (a : Rat) = q * (b : Rat) ∧ sz k a ∧ sz k b
theorem RlI.of (q : Rat) : RlI q q.num q.den (qs q) := by
  obtain ⟨h1, h2⟩ := szq_qs q
  refine ⟨den_ne q, ?_, h1, h2⟩
  have z := Rat.num_divInt_den q
  rw [Rat.divInt_eq_div] at z
  have nz : ((q.den : Int) : Rat) ≠ 0 := fun w => den_ne q (Rat.intCast_eq_zero_iff.mp w)
  have w : q * ((q.den : Int) : Rat) = (q.num : Rat) / ((q.den : Int) : Rat) * ((q.den : Int) : Rat) := by rw [z]
  rw [w, Rat.div_def, Rat.mul_assoc, Rat.inv_mul_cancel _ nz, Rat.mul_one]
theorem RlI.mul {q r : Rat} {a b : Int} {k j : Nat} (h : RlI q a b k) (hr : qs r ≤ j) : RlI (q * r) (a * r.num) (b * r.den) (k + j) := by
  obtain ⟨h1, h2, h3, h4⟩ := h
  obtain ⟨g1, g2, g3, g4⟩ := RlI.of r
  refine ⟨Int.mul_ne_zero h1 g1, ?_, h3.mul (g3.mono hr), h4.mul (g4.mono hr)⟩
  rw [Rat.intCast_mul, Rat.intCast_mul, h2, g2]
  grind
theorem RlI.add {x y : Rat} {t b a c : Int} {k j : Nat} (h : RlI x t b k) (h' : RlI y a c j) : RlI (x + y) (t * c + a * b) (b * c) (k + j + 1) := by
  obtain ⟨h1, h2, h3, h4⟩ := h
  obtain ⟨g1, g2, g3, g4⟩ := h'
  refine ⟨Int.mul_ne_zero h1 g1, ?_, (h3.mul g4).add ((g3.mul h4).mono (by omega)), (h4.mul g4).mono (by omega)⟩
  rw [Rat.intCast_add, Rat.intCast_mul, Rat.intCast_mul, Rat.intCast_mul, h2, g2]
  grind
theorem RlI.mono {q : Rat} {a b : Int} {j k : Nat} (h : RlI q a b j) (l : j ≤ k) : RlI q a b k := ⟨h.1, h.2.1, h.2.2.1.mono l, h.2.2.2.mono l⟩
theorem RlI.divInt {q : Rat} {a b : Int} {k : Nat} (h : RlI q a b k) : Rat.divInt a b = q := by
  obtain ⟨h1, h2, _, _⟩ := h
  have hb : (b : Rat) ≠ 0 := fun z => h1 (Rat.intCast_eq_zero_iff.mp z)
  rw [Rat.divInt_eq_div, h2, Rat.div_def, Rat.mul_assoc, Rat.mul_inv_cancel _ hb, Rat.mul_one]
theorem mon_take {x : List Rat} : ∀ {e : List Int} {k : Nat} (h1 : k < e.length) (h2 : k < x.length), mon x (e.take (k + 1)) = mon x (e.take k) * x[k] ^ e[k].toNat := by
  induction x with
  | nil => intro e k h1 h2; simp at h2
  | cons a x ih =>
    intro e k h1 h2
    cases e with
    | nil => simp at h1
    | cons n e =>
      cases k with
      | zero =>
        simp only [List.take_zero, List.take_succ_cons, List.getElem_cons_zero]
        show a ^ n.toNat * mon x [] = mon (a :: x) [] * _
        cases x <;> simp [mon, Rat.mul_one, Rat.one_mul]
      | succ k =>
        simp only [List.take_succ_cons, List.getElem_cons_succ]
        show a ^ n.toNat * mon x (e.take (k + 1)) = a ^ n.toNat * mon x (e.take k) * _
        rw [ih (by simpa using h1) (by simpa using h2), Rat.mul_assoc]
theorem mon_nil (x : List Rat) : mon x [] = 1 := by cases x <;> rfl
/-- the factors of one place -/
theorem lv_in {C : Nat → List PV → Sto → MP.R PV} {b : Nat} {x : List Rat} {e : List Int} {k j0 : Nat} {o0 o2 o3 o5 o9 : Option PV} {q : Rat} {u v : Int} (hk : k < e.length) (hx : k < x.length) (h0 : 0 ≤ e[k]) (he : e[k].toNat ≤ 8) (hq : qs x[k] ≤ 5) (r : RlI q u v j0) (hj : j0 ≤ 100000) :
    ∃ u' v' o9', xst C b (.fors (.name 9) (.rng1 (.ix (.var 4) (.var 8))) bk__law_value_0) [o0, some (.lst (x.map fr)), o2, o3, some (rowPV e), o5, some (.int u), some (.int v), some (.int k), o9] S =
      .next [o0, some (.lst (x.map fr)), o2, o3, some (rowPV e), o5, some (.int u'), some (.int v'), some (.int k), o9'] S ∧ RlI (q * x[k] ^ e[k].toNat) u' v' (j0 + 40) := by
  have en : e[k] = (e[k].toNat : Int) := by omega
  have e0 := xst_for (C := C) (b := b) (t := .name 9) (it := .rng1 (.ix (.var 4) (.var 8))) (p := bk__law_value_0) (σ := [o0, some (.lst (x.map fr)), o2, o3, some (rowPV e), o5, some (.int u), some (.int v), some (.int k), o9]) (S := S) (evi_rngN (C := C) (b := b) (e := .ix (.var 4) (.var 8)) (σ := [o0, some (.lst (x.map fr)), o2, o3, some (rowPV e), o5, some (.int u), some (.int v), some (.int k), o9]) (S := S) (n := e[k].toNat) (by simp only [ev_ix, ev_var, List.getElem?_cons_succ, List.getElem?_cons_zero, xbd_ok, row_nat hk, xopt_some]; rw [← en]) (by omega))
  obtain ⟨σ', S', e1, ⟨u', v', o9', rfl, rfl, r'⟩, _⟩ := for_fold (g := fun S => stands S []) (bind := bindT (.name 9)) (body := xss C b bk__law_value_0) (fun (i : Nat) => PV.int (i : Int))
    (fun (c : Nat) σ S' => ∃ u v o9, σ = [o0, some (.lst (x.map fr)), o2, o3, some (rowPV e), o5, some (.int u), some (.int v), some (.int k), o9] ∧ S' = S ∧ RlI (q * x[k] ^ c) u v (j0 + 5 * c)) (fun c _ => c + 1) (fun i c => c = i) (fun _ _ _ h => by obtain ⟨_, _, _, _, rfl, _⟩ := h; rfl) (List.range e[k].toNat) 0 0 _ _ ⟨u, v, o9, rfl, rfl, by rw [Rat.pow_zero, Rat.mul_one]; exact r⟩ rfl fun i y c σ S' hi hp ⟨u, v, o9, e1, e2, r⟩ => by
      subst e1 e2
      rw [Nat.zero_add] at hp
      subst hp
      have il := (List.getElem?_eq_some_iff.mp hi).1
      rw [List.length_range] at il
      have rm := r.mul hq
      have ixp : ∀ S : Sto, ixV S (.lst (x.map fr)) (.int (k : Int)) = some (fr x[k]) := fun S => by rw [zix_lst, itemAt_nat]; simp [hx]
      obtain ⟨g1, g2⟩ := szq_qs x[k]
      have m1 : mulOk u x[k].num = true := mulOk_of r.2.2.1 g1 (by omega)
      have m2 : mulOk v x[k].den = true := mulOk_of r.2.2.2 g2 (by omega)
      refine ⟨[o0, some (.lst (x.map fr)), o2, o3, some (rowPV e), o5, some (.int u), some (.int v), some (.int k), some (.int y)], [o0, some (.lst (x.map fr)), o2, o3, some (rowPV e), o5, some (.int (u * x[k].num)), some (.int (v * x[k].den)), some (.int k), some (.int y)], S', by simp, .inl (by simp [bk__law_value_0, ixp, m1, m2]), ⟨_, _, _, rfl, rfl, ?_⟩, by omega⟩
      rw [Rat.pow_succ, ← Rat.mul_assoc]
      exact rm.mono (by omega)
  have fl : ∀ (l : List Nat) (c : Nat), l.foldl (fun c _ => c + 1) c = c + l.length := fun l => by
    induction l with
    | nil => intro c; rfl
    | cons a l ih => intro c; rw [List.foldl_cons, ih, List.length_cons]; omega
  rw [fl, List.length_range, Nat.zero_add] at r'
  exact ⟨u', v', o9', e0.trans e1, r'.mono (by omega)⟩
/-- a term -/
theorem lv_mid {C : Nat → List PV → Sto → MP.R PV} {b : Nat} {x : List Rat} {t : Tm} {o2 o3 o5 o8 o9 o0 : Option PV} {m : Nat} (hl : t.1.length ≤ x.length) (hn : t.1.length ≤ 4) (he : ∀ i ∈ t.1, 0 ≤ i ∧ i.toNat ≤ 8) (hx : ∀ a ∈ x, qs a ≤ 5) (hm : qs t.2 ≤ m) (hm2 : m ≤ 50000) :
    ∃ u v o8' o9', xst C b (.fors (.name 8) (.rng1 (.bi .len (.cons (.var 4) .nil))) bk__law_value_1) [o0, some (.lst (x.map fr)), o2, o3, some (rowPV t.1), o5, some (.int t.2.num), some (.int t.2.den), o8, o9] S =
      .next [o0, some (.lst (x.map fr)), o2, o3, some (rowPV t.1), o5, some (.int u), some (.int v), o8', o9'] S ∧ RlI (t.2 * mon x t.1) u v (m + 160) := by
  have e0 := xst_for (C := C) (b := b) (t := .name 8) (it := .rng1 (.bi .len (.cons (.var 4) .nil))) (p := bk__law_value_1) (σ := [o0, some (.lst (x.map fr)), o2, o3, some (rowPV t.1), o5, some (.int t.2.num), some (.int t.2.den), o8, o9]) (S := S) (evi_rngN (C := C) (b := b) (e := .bi .len (.cons (.var 4) .nil)) (σ := [o0, some (.lst (x.map fr)), o2, o3, some (rowPV t.1), o5, some (.int t.2.num), some (.int t.2.den), o8, o9]) (S := S) (n := t.1.length) (by simp) (by omega))
  obtain ⟨σ', S', e1, ⟨u', v', o8', o9', rfl, rfl, r'⟩, hc⟩ := for_fold (g := fun S => stands S []) (bind := bindT (.name 8)) (body := xss C b bk__law_value_1) (fun (i : Nat) => PV.int (i : Int))
    (fun (c : Nat) σ S' => ∃ u v o8 o9, σ = [o0, some (.lst (x.map fr)), o2, o3, some (rowPV t.1), o5, some (.int u), some (.int v), o8, o9] ∧ S' = S ∧ RlI (t.2 * mon x (t.1.take c)) u v (m + 40 * c)) (fun c _ => c + 1) (fun i c => c = i) (fun _ _ _ h => by obtain ⟨_, _, _, _, _, rfl, _⟩ := h; rfl) (List.range t.1.length) 0 0 _ _ ⟨_, _, o8, o9, rfl, rfl, by rw [List.take_zero, mon_nil, Rat.mul_one]; exact (RlI.of t.2).mono (by omega)⟩ rfl fun i y c σ S' hi hp ⟨u, v, o8, o9, e1, e2, r⟩ => by
      subst e1 e2
      rw [Nat.zero_add] at hp
      subst hp
      have il := (List.getElem?_eq_some_iff.mp hi).1
      have ey := (List.getElem?_eq_some_iff.mp hi).2
      rw [List.length_range] at il
      rw [List.getElem_range] at ey
      subst ey
      have hh := he t.1[c] (List.getElem_mem il)
      obtain ⟨u', v', o9', e3, r3⟩ := lv_in (S := S') (C := C) (b := b) (x := x) (e := t.1) (k := c) (o0 := o0) (o2 := o2) (o3 := o3) (o5 := o5) (o9 := o9) il (by omega) hh.1 hh.2 (hx _ (List.getElem_mem _)) r (by omega)
      refine ⟨[o0, some (.lst (x.map fr)), o2, o3, some (rowPV t.1), o5, some (.int u), some (.int v), some (.int c), o9], [o0, some (.lst (x.map fr)), o2, o3, some (rowPV t.1), o5, some (.int u'), some (.int v'), some (.int c), o9'], S', by simp, .inl ?_, ⟨_, _, _, _, rfl, rfl, ?_⟩, by omega⟩
      · unfold bk__law_value_1
        exact (xss_step e3).trans xss_nil
      · rw [mon_take il (by omega), ← Rat.mul_assoc]
        exact r3.mono (by omega)
  have hc : (List.range t.1.length).foldl (fun c _ => c + 1) 0 = t.1.length := by simpa using hc
  rw [hc, List.take_length] at r'
  exact ⟨u', v', o8', o9', e0.trans e1, r'.mono (by omega)⟩
theorem x_law_value {p : List Tm} {x : List Rat} {m : Nat} (hx : ∀ a ∈ x, qs a ≤ 5) (hl : ∀ t ∈ p, t.1.length ≤ x.length) (hn : x.length ≤ 4) (he : ∀ t ∈ p, ∀ i ∈ t.1, 0 ≤ i ∧ i.toNat ≤ 8) (hq : ∀ t ∈ p, qs t.2 ≤ m) (hm : m ≤ 50000) (len : p.length ≤ 100) : callN F (d + 2) n__law_value [pl p, .lst (x.map fr)] S = .ok (fr (vp x p)) S := by
  rw [callN_of (fd := ⟨2, 10, b__law_value⟩) rfl rfl]
  refine run_ret ?_ (by simp)
  have e0 := xst_for (C := callN F (d + 1)) (b := S.cells.length) (t := .tup (.cons (.name 4) (.cons (.name 5) .nil))) (it := .seq (.var 0)) (p := bk__law_value_2) (σ := [some (pl p), some (.lst (x.map fr)), some (.int 0), some (.int 1), none, none, none, none, none, none]) (S := ⟨S.cells, false⟩) (w := (p.map tm, [])) (S1 := ⟨S.cells, false⟩) (by simp [pl])
  obtain ⟨σ', S', e1, ⟨u, v, o4, o5, o6, o7, o8, o9, rfl, rfl, r⟩, hi⟩ := for_fold (g := fun S => stands S []) (bind := bindT (.tup (.cons (.name 4) (.cons (.name 5) .nil)))) (body := xss (callN F (d + 1)) S.cells.length bk__law_value_2) tm
    (fun (c : Rat × Nat) σ S' => ∃ u v o4 o5 o6 o7 o8 o9, σ = [some (pl p), some (.lst (x.map fr)), some (.int u), some (.int v), o4, o5, o6, o7, o8, o9] ∧ S' = ⟨S.cells, false⟩ ∧ RlI c.1 u v (1 + c.2 * (m + 170))) (fun c t => (c.1 + t.2 * mon x t.1, c.2 + 1)) (fun i c => c.2 = i) (fun _ _ _ h => by obtain ⟨_, _, _, _, _, _, _, _, _, rfl, _⟩ := h; rfl) p 0 (0, 0) _ _ ⟨0, 1, none, none, none, none, none, none, rfl, rfl, by decide, by simp [Rat.zero_mul], sz.mono (j := 1) (by unfold sz; decide) (by omega), sz.mono (j := 1) (by unfold sz; decide) (by omega)⟩ rfl fun i t c σ S' hi hp ⟨u, v, o4, o5, o6, o7, o8, o9, e1, e2, r⟩ => by
      subst e1 e2
      rw [Nat.zero_add] at hp ⊢
      have mi := List.mem_of_getElem? hi
      have il := (List.getElem?_eq_some_iff.mp hi).1
      have hlt := hl t mi
      obtain ⟨u1, v1, w8, w9, e3, r3⟩ := lv_mid (S := ⟨S.cells, false⟩) (C := callN F (d + 1)) (b := S.cells.length) (x := x) (t := t) (o0 := some (pl p)) (o2 := some (.int u)) (o3 := some (.int v)) (o5 := some (fr t.2)) (o8 := o8) (o9 := o9) hlt (by omega) (he t mi) hx (hq t mi) hm
      have c2 : c.2 * (m + 170) ≤ 100 * (50000 + 170) := Nat.mul_le_mul (by omega) (by omega)
      have ra := r.add r3
      have m1 : mulOk u v1 = true := mulOk_of r.2.2.1 r3.2.2.2 (by omega)
      have m2 : mulOk u1 v = true := mulOk_of r3.2.2.1 r.2.2.2 (by omega)
      have m3 : mulOk v v1 = true := mulOk_of r.2.2.2 r3.2.2.2 (by omega)
      refine ⟨[some (pl p), some (.lst (x.map fr)), some (.int u), some (.int v), some (rowPV t.1), some (fr t.2), o6, o7, o8, o9], [some (pl p), some (.lst (x.map fr)), some (.int (u * v1 + u1 * v)), some (.int (v * v1)), some (rowPV t.1), some (fr t.2), some (.int u1), some (.int v1), w8, w9], ⟨S.cells, false⟩, by simp [tm], .inl ?_, ⟨_, _, _, _, _, _, _, _, rfl, rfl, ?_⟩, by omega⟩
      · unfold bk__law_value_2
        refine (xss_step (σ' := [some (pl p), some (.lst (x.map fr)), some (.int u), some (.int v), some (rowPV t.1), some (fr t.2), some (.int t.2.num), some (.int t.2.den), o8, o9]) (S' := ⟨S.cells, false⟩) (by simp)).trans ((xss_step e3).trans ?_)
        simp [m1, m2, m3]
      · refine ra.mono ?_
        show 1 + c.2 * (m + 170) + (m + 160) + 1 ≤ 1 + (c.2 + 1) * (m + 170)
        rw [Nat.add_mul]
        omega
  have fv : ∀ (l : List Tm) (c : Rat × Nat), (l.foldl (fun (c : Rat × Nat) t => (c.1 + t.2 * mon x t.1, c.2 + 1)) c).1 = c.1 + vp x l := fun l => by
    induction l with
    | nil => intro c; show c.1 = c.1 + 0; rw [Rat.add_zero]
    | cons t l ih =>
      intro c
      rw [List.foldl_cons, ih]
      show c.1 + _ + _ = c.1 + (t.2 * mon x t.1 + vp x l)
      rw [Rat.add_assoc]
  rw [fv, show ((0 : Rat), (0 : Nat)).1 = 0 from rfl, Rat.zero_add] at r
  unfold b__law_value
  refine (xss_step (σ' := [some (pl p), some (.lst (x.map fr)), some (.int 0), some (.int 1), none, none, none, none, none, none]) (S' := ⟨S.cells, false⟩) (by simp [st__law_value_0])).trans ((xss_step (e0.trans e1)).trans ?_)
  have mk := x_make (d := d) (S := ⟨S.cells, false⟩) (t := u) (b := v) r.1
  rw [r.divInt] at mk
  simp [st__law_value_2, mk]
end
end K06
end
section
set_option Elab.async false
set_option linter.all false
set_option maxRecDepth 100000
set_option maxHeartbeats 1000000
namespace K06
open PySem MP
section
variable {d : Nat} {S : Sto} {s : DS} {tl : List Cell}
/-- what a drawn polynomial is, in n parameters -/
structure PG (n : Nat) (p : List Tm) : Prop where
  shp : shp p
  len : p.length ≤ 5
  row : ∀ t ∈ p, t.1.length = n + 1 ∧ (∀ i ∈ t.1, 0 ≤ i ∧ i.toNat ≤ 3) ∧ qs t.2 ≤ 5
def expF (n : Nat) (s : DS) : List Int × DS := ((DS.seq (fun s => (s.drw 4, s.nxt 4)) (n + 1) s).1.map fun (i : Nat) => (i : Int), (DS.seq (fun s => (s.drw 4, s.nxt 4)) (n + 1) s).2)
theorem expF_len (n : Nat) (s : DS) : (expF n s).1.length = n + 1 := by unfold expF; rw [List.length_map, DS.seq_len]
theorem expF_in (n : Nat) (s : DS) : ∀ i ∈ (expF n s).1, 0 ≤ i ∧ i.toNat ≤ 3 := by
  intro i hi
  obtain ⟨j, hj, rfl⟩ := List.mem_map.mp hi
  have h := DS.seq_all (P := fun j : Nat => j ≤ 3) (f := fun s => (s.drw 4, s.nxt 4)) (fun s => by have := s.drw_lt (m := 4) (by decide); show s.drw 4 ≤ 3; omega) j hj
  omega
theorem x_exps {n : Nat} {C : Nat → List PV → Sto → MP.R PV} (hC : C = callN F (d + 3)) {b : Nat} {o2 o3 o4 o5 o6 : Option PV} (hn : n ≤ 100) : ev C b (.bi .tuple (.cons (.lc (.name 6) [6] (.rng1 (.bin .add (.var 1) (.cst (.int 1)))) .none (.call n__law_draw (.cons (.var 0) (.cons (.cst (.int 4)) .nil)))) .nil)) [some (.ref 0), some (.int n), o2, o3, o4, o5, o6] (s.sto tl) = .ok (rowPV (expF n s).1) ((expF n s).2.sto tl) := by
  have lc := ev_lcd (C := C) (b := b) (σ := [some (.ref 0), some (.int n), o2, o3, o4, o5, o6]) (j := 6) (ne := .bin .add (.var 1) (.cst (.int 1))) (e := .call n__law_draw (.cons (.var 0) (.cons (.cst (.int 4)) .nil))) (s := s) (tl := tl) (n := n + 1) (fun i : Nat => .int (i : Int)) (fun s => (s.drw 4, s.nxt 4)) (by simp) (by omega) (fun k s => by
    subst hC
    simp)
  simp [lc]
  unfold rowPV expF
  rw [List.map_map]
  exact ⟨rfl, rfl⟩
def PGd (n : Nat) (t : List Tm) : Prop := (keys t).Nodup ∧ ∀ x ∈ t, x.1.length = n + 1 ∧ (∀ i ∈ x.1, 0 ≤ i ∧ i.toNat ≤ 3) ∧ qs x.2 ≤ 5 ∧ x.2 ≠ 0
theorem put_mem {t : List Tm} {e : List Int} {c : Rat} {x : Tm} (h : x ∈ putT t e c) : x ∈ t ∨ x = (e, c) := by
  unfold putT at h
  split at h
  · obtain ⟨y, my, rfl⟩ := List.mem_map.mp h
    by_cases z : y.1 = e
    · rw [if_pos z, z]; exact .inr rfl
    · rw [if_neg z]; exact .inl my
  · rcases List.mem_append.mp h with h | h
    · exact .inl h
    · exact .inr (List.mem_singleton.mp h)
theorem put_len {t : List Tm} {e : List Int} {c : Rat} : (putT t e c).length ≤ t.length + 1 := by
  unfold putT
  split
  · simp
  · simp
def srt (t : List Tm) : List Tm := (sortL lexI (keys t)).map fun k => (k, getT t k)
theorem srt_mem {t : List Tm} (nd : (keys t).Nodup) {x : Tm} (h : x ∈ srt t) : x ∈ t := by
  obtain ⟨k, mk, rfl⟩ := List.mem_map.mp h
  have mk := (sort_perm nd).mem_iff.mp mk
  obtain ⟨c, h1, h2⟩ := get_in mk
  unfold getT
  rw [h1]
  exact h2
theorem srt_keys (t : List Tm) : keys (srt t) = sortL lexI (keys t) := by
  unfold keys srt
  rw [List.map_map]
  exact List.map_id _
theorem x_law_poly {n : Nat} (hn : n ≤ 100) : ∃ (p : List Tm) (s' : DS), callN F (d + 5) n__law_poly [.ref 0, .int n] (s.sto tl) = .ok (pl p) (s'.sto tl) ∧ PG n p := by
  rw [callN_of (fd := ⟨2, 7, b__law_poly⟩) rfl rfl]
  have h6 := s.drw_lt (m := 6) (by decide)
  have e0 := xst_for (C := callN F (d + 4)) (b := 1 + tl.length) (t := .name 3) (it := .rng1 (.call n__law_draw (.cons (.var 0) (.cons (.cst (.int 6)) .nil)))) (p := bk__law_poly_0) (σ := [some (.ref 0), some (.int n), some (.ref (1 + tl.length)), none, none, none, none]) (S := s.sto (tl ++ [.dT (kv [])])) (S1 := (s.nxt 6).sto (tl ++ [.dT (kv [])])) (w := ((List.range (s.drw 6)).map fun (i : Nat) => PV.int (i : Int), [])) (by
    have sm : small (s.drw 6 : Int) = true := by
      unfold small
      have h1 : -(2 ^ 62 : Int) ≤ (s.drw 6 : Int) := by omega
      have h2 : ((s.drw 6 : Nat) : Int) < 2 ^ 62 := by omega
      simp only [h1, h2, decide_true, Bool.and_self]
    rw [evi_rng1 (S1 := (s.nxt 6).sto (tl ++ [.dT (kv [])])) (n := s.drw 6) (by simp) sm]
    simp [rngL])
  obtain ⟨σ', S', e1, ⟨t, s', o3, o4, o5, o6, rfl, rfl, g⟩, hl⟩ := for_fold (g := fun S => stands S []) (bind := bindT (.name 3)) (body := xss (callN F (d + 4)) (1 + tl.length) bk__law_poly_0) (fun (i : Nat) => PV.int (i : Int))
    (fun (c : Nat) σ S' => ∃ t s' o3 o4 o5 o6, σ = [some (.ref 0), some (.int n), some (.ref (1 + tl.length)), o3, o4, o5, o6] ∧ S' = s'.sto (tl ++ [.dT (kv t)]) ∧ PGd n t ∧ t.length ≤ c) (fun c _ => c + 1) (fun i c => c = i) (fun _ _ _ h => by obtain ⟨_, _, _, _, _, _, _, rfl, _⟩ := h; rfl) (List.range (s.drw 6)) 0 0 _ _ ⟨[], s.nxt 6, none, none, none, none, rfl, rfl, ⟨by simp [keys], fun x m => by cases m⟩, Nat.le_refl _⟩ rfl fun i y c σ S' hi hp ⟨t, s1, o3, o4, o5, o6, e1, e2, g, hl⟩ => by
      subst e1 e2
      rw [Nat.zero_add] at hp ⊢
      subst hp
      have il := (List.getElem?_eq_some_iff.mp hi).1
      rw [List.length_range] at il
      have ex := x_exps (d := d + 1) (s := s1) (tl := tl ++ [.dT (kv t)]) (n := n) (C := callN F (d + 4)) rfl (b := 1 + tl.length) (o2 := some (.ref (1 + tl.length))) (o3 := some (.int y)) (o4 := o4) (o5 := o5) (o6 := o6) hn
      have pr := x_pair (d := d) (s := (expF n s1).2) (tl := tl ++ [.dT (kv t)])
      have l1 : t.length < lenMax := by have : lenMax = 16777216 := rfl; omega
      have sp := pairF_sz (expF n s1).2
      have e5 : xst (callN F (d + 4)) (1 + tl.length) (.asg (.of (.name 4)) (.bi .tuple (.cons (.lc (.name 6) [6] (.rng1 (.bin .add (.var 1) (.cst (.int 1)))) .none (.call n__law_draw (.cons (.var 0) (.cons (.cst (.int 4)) .nil)))) .nil))) [some (.ref 0), some (.int n), some (.ref (1 + tl.length)), some (.int y), o4, o5, o6] (s1.sto (tl ++ [.dT (kv t)])) = .next [some (.ref 0), some (.int n), some (.ref (1 + tl.length)), some (.int y), some (rowPV (expF n s1).1), o5, o6] ((expF n s1).2.sto (tl ++ [.dT (kv t)])) := by
        rw [xst_asg, ex]
        simp
      by_cases h0 : (pairF (expF n s1).2).1 = 0
      · refine ⟨[some (.ref 0), some (.int n), some (.ref (1 + tl.length)), some (.int y), o4, o5, o6], [some (.ref 0), some (.int n), some (.ref (1 + tl.length)), some (.int y), some (rowPV (expF n s1).1), some (fr (pairF (expF n s1).2).1), o6], (pairF (expF n s1).2).2.sto (tl ++ [.dT (kv t)]), by simp, .inl ?_, ⟨t, _, _, _, _, _, rfl, rfl, g, by omega⟩, rfl⟩
        unfold bk__law_poly_0
        refine (xss_step e5).trans ?_
        simp [pr, h0]
      · refine ⟨[some (.ref 0), some (.int n), some (.ref (1 + tl.length)), some (.int y), o4, o5, o6], [some (.ref 0), some (.int n), some (.ref (1 + tl.length)), some (.int y), some (rowPV (expF n s1).1), some (fr (pairF (expF n s1).2).1), o6], (pairF (expF n s1).2).2.sto (tl ++ [.dT (kv (putT t (expF n s1).1 (pairF (expF n s1).2).1))]), by simp, .inl ?_, ⟨_, _, _, _, _, _, rfl, rfl, ⟨put_nodup g.1, fun x m => ?_⟩, ?_⟩, rfl⟩
        · unfold bk__law_poly_0
          refine (xss_step e5).trans ?_
          simp [pr, h0, subR_sto l1]
        · rcases put_mem m with m | rfl
          · exact g.2 x m
          · exact ⟨expF_len n s1, expF_in n s1, sp, h0⟩
        · have := put_len (t := t) (e := (expF n s1).1) (c := (pairF (expF n s1).2).1)
          omega
  have hl2 : t.length ≤ 5 := by
    have z : (List.range (s.drw 6)).foldl (fun c _ => c + 1) 0 = s.drw 6 := by simpa using hl
    have := g.2
    omega
  obtain ⟨g, _⟩ := g
  have ne : ∀ e ∈ keys t, e ≠ [] := fun e m => by
    obtain ⟨x, mx, rfl⟩ := List.mem_map.mp m
    intro z
    have := (g.2 x mx).1
    rw [z] at this
    simp at this
  have hc : ((s'.sto (tl ++ [.dT (kv t)])).cells[1 + tl.length]? = some (.dT (kv t))) := get_sto
  have kl : (keys t).length = t.length := by unfold keys; rw [List.length_map]
  have lst : biV (s'.sto (tl ++ [.dT (kv t)])) .list [.ref (1 + tl.length)] = some (.lst ((keys t).map rowPV)) := by
    simp only [biV, hc]
    unfold keys kv
    rw [List.map_map, List.map_map]
    rfl
  have srtd : biV (s'.sto (tl ++ [.dT (kv t)])) .sorted [.lst ((keys t).map rowPV)] = some (.lst ((sortL lexI (keys t)).map rowPV)) := by
    simp only [biV, sortV_rows ne]
    rfl
  have lc := ev_lcm (C := callN F (d + 4)) (b := 1 + tl.length) (σ := [some (.ref 0), some (.int n), some (.ref (1 + tl.length)), o3, o4, o5, o6]) (S := s'.sto (tl ++ [.dT (kv t)])) (t := .name 4) (own := [4]) (it := .seq (.bi .sorted (.cons (.bi .list (.cons (.var 2) .nil)) .nil))) (c := .none) (e := .tup (.cons (.var 4) (.cons (.ix (.var 2) (.var 4)) .nil)))
    rowPV (fun k => tm (k, getT t k)) (sortL lexI (keys t)) (gw := []) (by simp [lst, srtd]) rfl (by rw [(sort_perm g.1).length_eq, kl]; have : lenMax = 16777216 := rfl; omega) fun k mk => by
      have ix := ix_T hc ((sort_perm g.1).mem_iff.mp mk)
      refine ⟨[some (.ref 0), some (.int n), some (.ref (1 + tl.length)), o3, some (rowPV k), o5, o6], by simp, by simp, by simp [ix, tm]⟩
  have e2 : xst (callN F (d + 4)) (1 + tl.length) st__law_poly_1 [some (.ref 0), some (.int n), some (.ref (1 + tl.length)), none, none, none, none] (s.sto (tl ++ [.dT (kv [])])) = .next [some (.ref 0), some (.int n), some (.ref (1 + tl.length)), o3, o4, o5, o6] (s'.sto (tl ++ [.dT (kv t)])) := e0.trans e1
  have e3 : xst (callN F (d + 4)) (1 + tl.length) st__law_poly_0 [some (.ref 0), some (.int n), none, none, none, none, none] (s.sto tl) = .next [some (.ref 0), some (.int n), some (.ref (1 + tl.length)), none, none, none, none] (s.sto (tl ++ [.dT (kv [])])) := by simp [st__law_poly_0, kv]
  have e4 : xst (callN F (d + 4)) (1 + tl.length) st__law_poly_2 [some (.ref 0), some (.int n), some (.ref (1 + tl.length)), o3, o4, o5, o6] (s'.sto (tl ++ [.dT (kv t)])) = .ret (pl (srt t)) (s'.sto (tl ++ [.dT (kv t)])) := by
    simp [st__law_poly_2, lc]
    unfold pl srt
    rw [List.map_map]
    rfl
  have body : xss (callN F (d + 4)) (1 + tl.length) b__law_poly [some (.ref 0), some (.int n), none, none, none, none, none] (s.sto tl) = .ret (pl (srt t)) (s'.sto (tl ++ [.dT (kv t)])) := by
    unfold b__law_poly
    rw [xss_step e3, xss_step e2, xss_cons, e4, seq_ret]
  refine ⟨srt t, s', run_D (more := [.dT (kv t)]) ?_ (pl_pure _), ⟨⟨?_, fun x m => (g.2 x (srt_mem g.1 m)).2.2.2⟩, ?_, fun x m => ?_⟩⟩
  · exact body
  · rw [srt_keys]; exact sort_asc g.1
  · unfold srt
    rw [List.length_map, (sort_perm g.1).length_eq, kl]
    exact hl2
  · have := g.2 x (srt_mem g.1 m)
    exact ⟨this.1, this.2.1, this.2.2.1⟩
end
end K06
end
section
set_option Elab.async false
set_option linter.all false
set_option maxRecDepth 100000
set_option maxHeartbeats 1000000
namespace K06
open PySem MP
section
variable {d : Nat} {S : Sto} {s : DS} {tl : List Cell}
theorem lt_row {S : Sto} {a b : List Int} : cmV S .lt (rowPV a) (rowPV b) = some (lexI a b) := by
  show cmL (rowPV a) (rowPV b) = _
  unfold rowPV cmL
  simp
theorem row_nn {a : List Int} : (rowPV a = PV.non) = False := by simp [rowPV]
/-- a polynomial as the law wants it -/
structure PW (n m : Nat) (p : List Tm) : Prop where
  shp : shp p
  len : p.length ≤ 100
  row : ∀ t ∈ p, t.1.length = n + 1 ∧ (∀ i ∈ t.1, 0 ≤ i ∧ i.toNat ≤ 8) ∧ qs t.2 ≤ m
theorem shp_step {p : List Tm} (h : shp p) {i : Nat} {t u : Tm} (h1 : p[i]? = some t) (h2 : p[i + 1]? = some u) : lexI t.1 u.1 = true := by
  have z := h.1
  unfold ascK at z
  rw [List.pairwise_iff_getElem] at z
  have l2 := (List.getElem?_eq_some_iff.mp h2)
  have l1 := (List.getElem?_eq_some_iff.mp h1)
  obtain ⟨a1, b1⟩ := l1
  obtain ⟨a2, b2⟩ := l2
  have := z i (i + 1) (by simp [keys]; omega) (by simp [keys]; omega) (by omega)
  simp only [keys, List.getElem_map] at this
  rw [b1, b2] at this
  exact this
theorem x_law_shape {n m : Nat} {p : List Tm} (g : PW n m p) : callN F (d + 2) n__law_shape [pl p, .int n] S = .ok (.bl true) S := by
  rw [callN_of (fd := ⟨2, 5, b__law_shape⟩) rfl rfl]
  refine run_ret ?_ rfl
  have e0 := xst_for (C := callN F (d + 1)) (b := S.cells.length) (t := .tup (.cons (.name 3) (.cons (.name 4) .nil))) (it := .seq (.var 0)) (p := bk__law_shape_0) (σ := [some (pl p), some (.int n), some .non, none, none]) (S := ⟨S.cells, false⟩) (w := (p.map tm, [])) (S1 := ⟨S.cells, false⟩) (by simp [pl])
  obtain ⟨σ', S', e1, ⟨o2, o3, o4, rfl, rfl, _⟩, _⟩ := for_fold (g := fun S => stands S []) (bind := bindT (.tup (.cons (.name 3) (.cons (.name 4) .nil)))) (body := xss (callN F (d + 1)) S.cells.length bk__law_shape_0) tm
    (fun (c : Nat) σ S' => ∃ o2 o3 o4, σ = [some (pl p), some (.int n), o2, o3, o4] ∧ S' = ⟨S.cells, false⟩ ∧ ((c = 0 ∧ o2 = some .non) ∨ ∃ t, p[c - 1]? = some t ∧ 0 < c ∧ o2 = some (rowPV t.1))) (fun c _ => c + 1) (fun i c => c = i) (fun _ _ _ h => by obtain ⟨_, _, _, _, rfl, _⟩ := h; rfl) p 0 0 _ _ ⟨some .non, none, none, rfl, rfl, .inl ⟨rfl, rfl⟩⟩ rfl fun i t c σ S' hi hp ⟨o2, o3, o4, e1, e2, h⟩ => by
      subst e1 e2
      rw [Nat.zero_add] at hp
      subst hp
      have mi := List.mem_of_getElem? hi
      obtain ⟨h1, h2, h3⟩ := g.row t mi
      have nz := g.shp.2 t mi
      have ln : ((t.1.length : Nat) : Int) = (n : Int) + 1 := by omega
      have mk : callN F (d + 1) n_make [.int t.2.num, .int t.2.den] ⟨S.cells, false⟩ = .ok (fr t.2) ⟨S.cells, false⟩ := by
        rw [x_make (den_ne t.2), Rat.num_divInt_den]
      refine ⟨[some (pl p), some (.int n), o2, some (rowPV t.1), some (fr t.2)], [some (pl p), some (.int n), some (rowPV t.1), some (rowPV t.1), some (fr t.2)], ⟨S.cells, false⟩, by simp [tm], .inl ?_, ⟨_, _, _, rfl, rfl, .inr ⟨t, by simpa using hi, by omega, rfl⟩⟩, by omega⟩
      rcases h with ⟨_, rfl⟩ | ⟨u, hu, c0, rfl⟩
      · simp [bk__law_shape_0, ln, nz, mk]
      · have lx := shp_step g.shp hu (u := t) (by rw [show c - 1 + 1 = c by omega]; exact hi)
        simp [bk__law_shape_0, ln, nz, mk, row_nn, lt_row, lx]
  have e2 : xst (callN F (d + 1)) S.cells.length st__law_shape_1 [some (pl p), some (.int n), some .non, none, none] ⟨S.cells, false⟩ = .next [some (pl p), some (.int n), o2, o3, o4] ⟨S.cells, false⟩ := e0.trans e1
  have e3 : xst (callN F (d + 1)) S.cells.length st__law_shape_0 [some (pl p), some (.int n), none, none, none] ⟨S.cells, false⟩ = .next [some (pl p), some (.int n), some .non, none, none] ⟨S.cells, false⟩ := by simp [st__law_shape_0]
  show xss _ _ b__law_shape [some (pl p), some (.int n), none, none, none] _ = _
  unfold b__law_shape
  rw [xss_step e3, xss_step e2]
  simp [st__law_shape_2, pl]
theorem x_law_is {n m : Nat} {p : List Tm} {x : List Rat} {v : Rat} (g : PW n m p) (hx : ∀ a ∈ x, qs a ≤ 5) (hl : x.length = n + 1) (hn : n ≤ 3) (hm : m ≤ 10000) (hv : vp x p = v) : callN F (d + 5) n__law_is [pl p, .int n, .lst (x.map fr), fr v] S = .ok (.bl true) S := by
  rw [callN_of (fd := ⟨4, 4, b__law_is⟩) rfl rfl]
  refine run_ret ?_ rfl
  have w1 := x_law_shape (d := d + 2) (S := ⟨S.cells, false⟩) g
  have w2 := x_law_value (d := d + 2) (S := ⟨S.cells, false⟩) (p := p) (x := x) (m := m) hx (fun t mt => by rw [(g.row t mt).1, hl]; exact Nat.le_refl _) (by omega) (fun t mt => (g.row t mt).2.1) (fun t mt => (g.row t mt).2.2) (by omega) g.len
  have w3 := x_poly_value (d := d) (S := ⟨S.cells, false⟩) (p := p) (x := x) (k := 5) (E := 8) (m := 10000) (n := 4) (L := 100) hx (by omega) (fun t mt => (g.row t mt).2.1) (fun t mt => by have := (g.row t mt).2.2; omega) (by decide) g.len (by decide)
  simp [st__law_is_0, b__law_is, w1, w2, w3, hv]
/-! ### a number for a parameter -/
theorem mon_app {y : List Rat} {z : List Rat} : ∀ {e f : List Int}, y.length = e.length → mon (y ++ z) (e ++ f) = mon y e * mon z f := by
  induction y with
  | nil =>
    intro e f h
    cases e with
    | nil => simp [mon, Rat.one_mul]
    | cons _ _ => simp at h
  | cons a y ih =>
    intro e f h
    cases e with
    | nil => simp at h
    | cons i e =>
      show a ^ i.toNat * mon (y ++ z) (e ++ f) = a ^ i.toNat * mon y e * mon z f
      rw [ih (by simpa using h), Rat.mul_assoc]
theorem split_at {α : Type} {x : List α} {i : Nat} (h : i < x.length) : x = x.take i ++ [x[i]] ++ x.drop (i + 1) := by
  simp
def putX (x : List Rat) (i : Nat) (a : Rat) : List Rat := x.take i ++ [a] ++ x.drop (i + 1)
theorem putX_len {x : List Rat} {i : Nat} {a : Rat} (h : i < x.length) : (putX x i a).length = x.length := by
  unfold putX
  simp
  omega
theorem putX_qs {x : List Rat} {i : Nat} {a : Rat} (hx : ∀ b ∈ x, qs b ≤ 5) (ha : qs a ≤ 5) : ∀ b ∈ putX x i a, qs b ≤ 5 := by
  intro b hb
  unfold putX at hb
  simp only [List.mem_append, List.mem_singleton] at hb
  rcases hb with (hb | hb) | hb
  · exact hx b (List.mem_of_mem_take hb)
  · subst hb; exact ha
  · exact hx b (List.mem_of_mem_drop hb)
theorem mon_put {x : List Rat} {e : List Int} {i : Nat} {a : Rat} (h : x.length = e.length) (hi : i < e.length) : mon (putX x i a) e = mon x (fixE e i) * a ^ (e[i]?.getD 0).toNat := by
  have l1 : (x.take i).length = (e.take i).length := by simp; omega
  have z1 : mon (putX x i a) e = mon (x.take i) (e.take i) * a ^ e[i].toNat * mon (x.drop (i + 1)) (e.drop (i + 1)) := by
    unfold putX
    conv => lhs; rw [split_at hi]
    rw [List.append_assoc, List.append_assoc, mon_app l1]
    show _ * (a ^ e[i].toNat * mon _ _) = _
    rw [Rat.mul_assoc]
    rfl
  have z2 : mon x (fixE e i) = mon (x.take i) (e.take i) * mon (x.drop (i + 1)) (e.drop (i + 1)) := by
    unfold fixE
    conv => lhs; rw [split_at (x := x) (i := i) (by omega)]
    rw [List.append_assoc, List.append_assoc, mon_app l1]
    show _ * (x[i] ^ (0 : Int).toNat * mon _ _) = _
    rw [show (0 : Int).toNat = 0 from rfl, Rat.pow_zero, Rat.one_mul]
    rfl
  have g : e[i]?.getD 0 = e[i] := by simp [hi]
  rw [z1, z2, g]
  grind
theorem vp_fixes {x : List Rat} {i : Nat} {a : Rat} : ∀ {p : List Tm}, (∀ t ∈ p, x.length = t.1.length ∧ i < t.1.length) → vp x (fixes p i a) = vp (putX x i a) p
  | [], _ => rfl
  | t :: p, h => by
    obtain ⟨h1, h2⟩ := h t List.mem_cons_self
    show t.2 * a ^ _ * mon x (fixE t.1 i) + vp x (fixes p i a) = t.2 * mon (putX x i a) t.1 + vp (putX x i a) p
    rw [vp_fixes fun u m => h u (List.mem_cons_of_mem _ m), mon_put h1 h2]
    grind
theorem putX_put {x : List Rat} {i : Nat} {a b : Rat} (h : i < x.length) : putX (putX x i a) i b = putX x i b := by
  have l : (x.take i).length = i := by simp; omega
  unfold putX
  have e1 : (x.take i ++ [a] ++ x.drop (i + 1)).take i = x.take i := by
    rw [List.append_assoc, List.take_append_of_le_length (by omega), List.take_of_length_le (by omega)]
  have e2 : (x.take i ++ [a] ++ x.drop (i + 1)).drop (i + 1) = x.drop (i + 1) := by
    rw [List.drop_append_of_le_length (by simp; omega), List.drop_of_length_le (by simp; omega), List.nil_append]
  rw [e1, e2]
theorem fixE_len {e : List Int} {i : Nat} (h : i < e.length) : (fixE e i).length = e.length := by
  unfold fixE
  simp
  omega
theorem fixE_in {e : List Int} {i : Nat} {E : Nat} (h : ∀ j ∈ e, 0 ≤ j ∧ j.toNat ≤ E) : ∀ j ∈ fixE e i, 0 ≤ j ∧ j.toNat ≤ E := by
  intro j hj
  unfold fixE at hj
  simp only [List.mem_append, List.mem_singleton] at hj
  rcases hj with (hj | hj) | hj
  · exact h j (List.mem_of_mem_take hj)
  · subst hj; exact ⟨Int.le_refl 0, by simp⟩
  · exact h j (List.mem_of_mem_drop hj)
/-- a polynomial with a number for one parameter -/
theorem fixes_ok {n i : Nat} {a : Rat} {p : List Tm} (g : PG n p) (ha : qs a ≤ 5) (hi : i ≤ n) : PS 200 (fixes p i a) ∧ PW n 200 (pfix p i a) := by
  have sz : ∀ t ∈ fixes p i a, qs t.2 ≤ 21 := fun t m => by
    obtain ⟨u, mu, rfl⟩ := List.mem_map.mp m
    obtain ⟨h1, h2, h3⟩ := g.row u mu
    have hi' : i < u.1.length := by omega
    have gg : u.1[i]?.getD 0 = u.1[i] := by simp [hi']
    have h4 := h2 u.1[i] (List.getElem_mem hi')
    have z1 := qs_mul u.2 (a ^ (u.1[i]?.getD 0).toNat)
    have z2 := qs_pow a (u.1[i]?.getD 0).toNat
    rw [gg] at z1 z2
    have z3 : qs a * u.1[i].toNat ≤ 5 * 3 := Nat.mul_le_mul ha h4.2
    show qs (u.2 * a ^ (u.1[i]?.getD 0).toNat) ≤ 21
    rw [gg]
    omega
  have len : (fixes p i a).length ≤ 5 := by unfold fixes; rw [List.length_map]; exact g.len
  have ps : PS 200 (fixes p i a) := by
    obtain ⟨z1, z2⟩ := PS.of (k := 21) (n := 5) sz len
    exact ⟨fun j e => Nat.le_trans (z1 j e) (by decide), fun t m => Nat.le_trans (z2 t m) (by decide)⟩
  refine ⟨ps, shp_nf _, Nat.le_trans (nf_len _) (by omega), fun t m => ?_⟩
  have h1 := (nf_mem m).1
  obtain ⟨v, mv, e⟩ := List.mem_map.mp h1
  obtain ⟨u, mu, rfl⟩ := List.mem_map.mp mv
  obtain ⟨g1, g2, _⟩ := g.row u mu
  have e : fixE u.1 i = t.1 := e
  rw [← e]
  exact ⟨by rw [fixE_len (by omega), g1], fixE_in fun j hj => ⟨(g2 j hj).1, by have := (g2 j hj).2; omega⟩, ps.nf t m⟩
theorem PG.pw {n : Nat} {p : List Tm} (g : PG n p) : PW n 5 p := ⟨g.shp, by have := g.len; omega, fun t m => ⟨(g.row t m).1, fun i hi => ⟨((g.row t m).2.1 i hi).1, by have := ((g.row t m).2.1 i hi).2; omega⟩, (g.row t m).2.2⟩⟩
theorem x_val {n m : Nat} {p : List Tm} {x : List Rat} (g : PW n m p) (hx : ∀ a ∈ x, qs a ≤ 5) (hl : x.length = n + 1) (hn : n ≤ 3) (hm : m ≤ 10000) : callN F (d + 2) n__law_value [pl p, .lst (x.map fr)] S = .ok (fr (vp x p)) S :=
  x_law_value hx (fun t mt => by rw [(g.row t mt).1, hl]; exact Nat.le_refl _) (by omega) (fun t mt => (g.row t mt).2.1) (fun t mt => (g.row t mt).2.2) (by omega) g.len
theorem five3 : PV.tup [.int 5, .int 3] = fr (Rat.divInt 5 3) := by decide +kernel
theorem sl_place {S : Sto} {x : List Rat} {lo hi : Option Int} : slV S (.lst (x.map fr)) lo hi = some (.lst ((cut x lo hi).map fr)) := by rw [zsl_lst, cut_map]
theorem ad_place {S : Sto} {x : List Rat} {a : Rat} (h : x.length ≤ 1000) : opV S .add (.lst (x.map fr)) (.lst [fr a]) = some (.lst ((x ++ [a]).map fr)) := by
  rw [zop_al (by simp; have : lenMax = 16777216 := rfl; omega)]
  simp
theorem ad_place2 {S : Sto} {x y : List Rat} (h : x.length + y.length ≤ 1000) : opV S .add (.lst (x.map fr)) (.lst (y.map fr)) = some (.lst ((x ++ y).map fr)) := by
  rw [zop_al (by simp; have : lenMax = 16777216 := rfl; omega)]
  simp
theorem x_law_fixed {n i : Nat} {p : List Tm} {x : List Rat} {a : Rat} (g : PG n p) (hx : ∀ a ∈ x, qs a ≤ 5) (hl : x.length = n + 1) (hn : n ≤ 3) (hi : i < n) (ha : qs a ≤ 5) : callN F (d + 6) n__law_fixed [pl p, .int n, .lst (x.map fr), .int i, fr a] S = .ok (.bl true) S := by
  rw [callN_of (fd := ⟨5, 9, b__law_fixed⟩) rfl rfl]
  refine run_ret ?_ rfl
  have q53 : qs (Rat.divInt 5 3) ≤ 5 := by decide +kernel
  obtain ⟨ps, pw⟩ := fixes_ok g ha (show i ≤ n by omega)
  obtain ⟨ps2, pw2⟩ := fixes_ok g ha (Nat.le_refl n)
  have he : ∀ t ∈ p, ∀ n ∈ t.1, 0 ≤ n ∧ n.toNat < 1000 ∧ qs a * n.toNat + qs a + 3 + qs t.2 ≤ LIM := fun t m j hj => by
    obtain ⟨h1, h2, h3⟩ := g.row t m
    have h4 := h2 j hj
    have z3 : qs a * j.toNat ≤ 5 * 3 := Nat.mul_le_mul ha h4.2
    have lim : LIM = 134217728 := rfl
    exact ⟨h4.1, by omega, by omega⟩
  have fx := x_poly_fixed (d := d + 1) (S := ⟨S.cells, false⟩) ps (by decide) (fun t m => by rw [(g.row t m).1]; omega) he (by have := g.len; omega)
  have tx := x_poly_at_time (d := d) (S := ⟨S.cells, false⟩) ps2 (by decide) (by omega) (fun t m => (g.row t m).1) he (by have := g.len; omega)
  have rl : ∀ t ∈ p, x.length = t.1.length ∧ i < t.1.length := fun t m => by rw [(g.row t m).1]; omega
  have rl2 : ∀ t ∈ p, x.length = t.1.length ∧ n < t.1.length := fun t m => by rw [(g.row t m).1]; omega
  have rlb : ∀ t ∈ p, ∀ b : Rat, (putX x i b).length = t.1.length ∧ i < t.1.length := fun t m b => by rw [putX_len (by omega)]; exact rl t m
  have rlb2 : ∀ t ∈ p, ∀ b : Rat, (putX x n b).length = t.1.length ∧ n < t.1.length := fun t m b => by rw [putX_len (by omega)]; exact rl2 t m
  have v1 : vp x (pfix p i a) = vp (putX x i a) p := by unfold pfix; rw [vp_nf, vp_fixes rl]
  have v2 : vp (putX x i (Rat.divInt 5 3)) (pfix p i a) = vp x (pfix p i a) := by
    rw [v1]
    unfold pfix
    rw [vp_nf, vp_fixes fun t m => rlb t m _, putX_put (by omega)]
  have v3 : vp x (pfix p n a) = vp (putX x n a) p := by unfold pfix; rw [vp_nf, vp_fixes rl2]
  have v4 : vp (putX x n (Rat.divInt 5 3)) (pfix p n a) = vp x (pfix p n a) := by
    rw [v3]
    unfold pfix
    rw [vp_nf, vp_fixes fun t m => rlb2 t m _, putX_put (by omega)]
  have c1 : cut x none (some (i : Int)) = x.take i := cut_to
  have c2 : cut x (some ((i : Int) + 1)) none = x.drop (i + 1) := cut_from (n := i + 1)
  have c3 : cut x none (some (-1)) = x.take n := by rw [cut_init, List.dropLast_eq_take, hl]; rfl
  have pn : ∀ b : Rat, x.take n ++ [b] = putX x n b := fun b => by unfold putX; rw [List.drop_of_length_le (by omega), List.append_nil]
  have a1 : ∀ (S : Sto) (b : Rat), opV S .add (.lst ((x.take i).map fr)) (.lst [fr b]) = some (.lst ((x.take i ++ [b]).map fr)) := fun S b => ad_place (by simp; omega)
  have a2 : ∀ (S : Sto) (b : Rat), opV S .add (.lst ((x.take i ++ [b]).map fr)) (.lst ((x.drop (i + 1)).map fr)) = some (.lst ((putX x i b).map fr)) := fun S b => ad_place2 (by simp; omega)
  have a3 : ∀ (S : Sto) (b : Rat), opV S .add (.lst ((x.take n).map fr)) (.lst [fr b]) = some (.lst ((putX x n b).map fr)) := fun S b => by rw [← pn]; exact ad_place (by simp; omega)
  have val1 := x_val (d := d + 3) (S := ⟨S.cells, false⟩) g.pw (putX_qs hx ha) (by rw [putX_len (i := i) (a := a) (by omega), hl]) hn (by decide)
  have val2 := x_val (d := d + 3) (S := ⟨S.cells, false⟩) g.pw (putX_qs hx ha) (by rw [putX_len (i := n) (a := a) (by omega), hl]) hn (by decide)
  have val3 := x_val (d := d + 3) (S := ⟨S.cells, false⟩) pw (putX_qs hx q53) (by rw [putX_len (i := i) (by omega), hl]) hn (by decide)
  have val4 := x_val (d := d + 3) (S := ⟨S.cells, false⟩) pw2 (putX_qs hx q53) (by rw [putX_len (i := n) (by omega), hl]) hn (by decide)
  have val5 := x_val (d := d + 3) (S := ⟨S.cells, false⟩) pw hx hl hn (by decide)
  have val6 := x_val (d := d + 3) (S := ⟨S.cells, false⟩) pw2 hx hl hn (by decide)
  have is1 := x_law_is (d := d) (S := ⟨S.cells, false⟩) pw hx hl hn (by decide) v1
  have is2 := x_law_is (d := d) (S := ⟨S.cells, false⟩) pw2 hx hl hn (by decide) v3
  have s0 : xst (callN F (d + 5)) S.cells.length st__law_fixed_0 [some (pl p), some (.int n), some (.lst (x.map fr)), some (.int i), some (fr a), none, none, none, none] ⟨S.cells, false⟩ = .next [some (pl p), some (.int n), some (.lst (x.map fr)), some (.int i), some (fr a), some (pl (pfix p i a)), none, none, none] ⟨S.cells, false⟩ := by simp [st__law_fixed_0, fx]
  have s1 : xst (callN F (d + 5)) S.cells.length st__law_fixed_1 [some (pl p), some (.int n), some (.lst (x.map fr)), some (.int i), some (fr a), some (pl (pfix p i a)), none, none, none] ⟨S.cells, false⟩ = .next [some (pl p), some (.int n), some (.lst (x.map fr)), some (.int i), some (fr a), some (pl (pfix p i a)), some (.lst ((putX x i a).map fr)), none, none] ⟨S.cells, false⟩ := by simp only [st__law_fixed_1, xst_asg, ev_bin, ev_slc, ev_var, ev_lst, evs_cons, evs_nil, evo_none, evo_some, ev_cst, List.getElem?_cons_succ, List.getElem?_cons_zero, xbd_ok, sl_place, xopt_some, c1, zop_ad, c2, a1, a2, xst_ok, bindT_name, List.set_cons_succ, List.set_cons_zero]
  have s2 : xst (callN F (d + 5)) S.cells.length st__law_fixed_2 [some (pl p), some (.int n), some (.lst (x.map fr)), some (.int i), some (fr a), some (pl (pfix p i a)), some (.lst ((putX x i a).map fr)), none, none] ⟨S.cells, false⟩ = .next [some (pl p), some (.int n), some (.lst (x.map fr)), some (.int i), some (fr a), some (pl (pfix p i a)), some (.lst ((putX x i a).map fr)), some (.lst ((putX x i (Rat.divInt 5 3)).map fr)), none] ⟨S.cells, false⟩ := by simp only [st__law_fixed_2, xst_asg, ev_bin, ev_slc, ev_var, ev_lst, ev_tup, evs_cons, evs_nil, evo_none, evo_some, ev_cst, List.getElem?_cons_succ, List.getElem?_cons_zero, xbd_ok, sl_place, xopt_some, c1, zop_ad, c2, five3, a1, a2, xst_ok, bindT_name, List.set_cons_succ, List.set_cons_zero]
  show xss _ _ b__law_fixed [some (pl p), some (.int n), some (.lst (x.map fr)), some (.int i), some (fr a), none, none, none, none] _ = _
  unfold b__law_fixed
  rw [xss_step s0, xss_step s1, xss_step s2]
  rw [xss_step (σ' := [some (pl p), some (.int n), some (.lst (x.map fr)), some (.int i), some (fr a), some (pl (pfix p i a)), some (.lst ((putX x i a).map fr)), some (.lst ((putX x i (Rat.divInt 5 3)).map fr)), none]) (S' := ⟨S.cells, false⟩) (by
    simp only [st__law_fixed_3, xst_ifs, evT_or, evT_not, evT_call, evT_cmp, ev_call, evs_cons, evs_nil, ev_var, List.getElem?_cons_succ, List.getElem?_cons_zero, xbd_ok, val1, is1, val3, val5, v2, xopt_some, ztr_bl, zcm_ne, zeqV_fr, xst_ok, zss_nil]
    simp)]
  rw [xss_step (σ' := [some (pl p), some (.int n), some (.lst (x.map fr)), some (.int i), some (fr a), some (pl (pfix p i a)), some (.lst ((putX x i a).map fr)), some (.lst ((putX x i (Rat.divInt 5 3)).map fr)), some (pl (pfix p n a))]) (S' := ⟨S.cells, false⟩) (by simp [st__law_fixed_4, tx])]
  simp only [st__law_fixed_5, zss_cons, xst_ret, ev_and, ev_call, evs_cons, evs_nil, ev_var, ev_cmp, ev_bin, ev_slc, ev_lst, ev_tup, ev_cst, ev_neg, evo_none, evo_some, List.getElem?_cons_succ, List.getElem?_cons_zero, xbd_ok, sl_place, xopt_some, c3, five3, a3, val2, is2, val4, val6, v4, boolK_bl, zcm_eq, zeqV_fr, xst_ok, zseq_ret]
  simp
end
end K06
end
section
set_option Elab.async false
set_option linter.all false
set_option maxRecDepth 100000
set_option maxHeartbeats 1000000
namespace K06
open PySem MP
section
variable {d : Nat} {S : Sto} {s : DS} {tl : List Cell}
/-! ### integrals -/
theorem intE_cc {i j : Int} {e : List Int} : intE (i :: j :: e) = i :: intE (j :: e) := by
  unfold intE lastE
  simp
theorem lexI_int : ∀ {a b : List Int}, a.length = b.length → a ≠ [] → lexI (intE a) (intE b) = lexI a b
  | [], _, _, h => absurd rfl h
  | _ :: _, [], h, _ => by simp at h
  | [i], [j], _, _ => by
    show (if i + 1 = j + 1 then lexI [] [] else decide (i + 1 < j + 1)) = (if i = j then lexI [] [] else decide (i < j))
    by_cases h : i = j
    · simp [h]
    · have h2 : ¬ i + 1 = j + 1 := by omega
      rw [if_neg h, if_neg h2]
      exact decide_eq_decide.mpr (by omega)
  | [_], _ :: _ :: _, h, _ => by simp at h
  | _ :: _ :: _, [_], h, _ => by simp at h
  | i :: i' :: a, j :: j' :: b, h, _ => by
    rw [intE_cc, intE_cc, lexI, lexI]
    split
    · exact lexI_int (by simpa using h) (by simp)
    · rfl
theorem intE_len {e : List Int} (h : e ≠ []) : (intE e).length = e.length := by
  have := List.length_pos_iff.mpr h
  unfold intE
  simp
  omega
theorem intE_ne (e : List Int) : intE e ≠ [] := by unfold intE; simp
theorem intE_last (e : List Int) : lastE (intE e) = lastE e + 1 := by unfold intE; unfold lastE; simp
theorem lastE_mem {e : List Int} (h : e ≠ []) : lastE e ∈ e := by
  unfold lastE
  rw [List.getLastD_eq_getLast?]
  cases q : e.getLast? with
  | none => exact absurd (List.getLast?_eq_none_iff.mp q) h
  | some v => exact List.mem_of_getLast? q
theorem last_nz {n : Int} (h : 0 ≤ n) : ((n : Rat) + 1) ≠ 0 := fun z => by
  have e : ((n : Rat) + 1) = ((n + 1 : Int) : Rat) := by simp
  rw [e] at z
  have := Rat.intCast_eq_zero_iff.mp z
  omega
theorem pint_ok {n : Nat} {p : List Tm} (g : PG n p) : PW n 20 (pint p) := by
  have ne : ∀ t ∈ p, t.1 ≠ [] := fun t m z => by have := (g.row t m).1; rw [z] at this; simp at this
  have nn : ∀ t ∈ p, 0 ≤ lastE t.1 ∧ (lastE t.1).toNat ≤ 3 := fun t m => (g.row t m).2.1 _ (lastE_mem (ne t m))
  refine ⟨⟨?_, fun t m => ?_⟩, by unfold pint; rw [List.length_map]; have := g.len; omega, fun t m => ?_⟩
  · have z := g.shp.1
    unfold ascK keys pint at *
    rw [List.map_map, List.pairwise_map]
    rw [List.pairwise_map] at z
    refine List.Pairwise.imp_of_mem (fun {a b} ma mb h => ?_) z
    show lexI (intE a.1) (intE b.1) = true
    rw [lexI_int (by rw [(g.row a ma).1, (g.row b mb).1]) (ne a ma)]
    exact h
  · obtain ⟨u, mu, rfl⟩ := List.mem_map.mp m
    show u.2 / _ ≠ 0
    intro z
    have h2 := last_nz (nn u mu).1
    have w : u.2 = u.2 / ((lastE u.1 : Rat) + 1) * ((lastE u.1 : Rat) + 1) := by rw [Rat.div_def, Rat.mul_assoc, Rat.inv_mul_cancel _ h2, Rat.mul_one]
    rw [z, Rat.zero_mul] at w
    exact g.shp.2 u mu w
  · obtain ⟨u, mu, rfl⟩ := List.mem_map.mp m
    obtain ⟨h1, h2, h3⟩ := g.row u mu
    obtain ⟨h4, h5⟩ := nn u mu
    refine ⟨?_, fun i hi => ?_, ?_⟩
    · show (intE u.1).length = _
      rw [intE_len (ne u mu), h1]
    · have hi : i ∈ intE u.1 := hi
      unfold intE at hi
      rcases List.mem_append.mp hi with hi | hi
      · have := h2 i ((List.dropLast_sublist _).subset hi)
        exact ⟨this.1, by omega⟩
      · rw [List.mem_singleton.mp hi]
        exact ⟨by omega, by omega⟩
    · show qs (u.2 / ((lastE u.1 : Rat) + 1)) ≤ 20
      have z := qs_div u.2 ((lastE u.1 : Rat) + 1)
      have z2 := qs_add (lastE u.1 : Rat) 1
      have z3 := qs_int (lastE u.1)
      have z4 : (lastE u.1).natAbs.log2 ≤ 3 := log_lt (by omega)
      have z5 := qs_one
      omega
theorem mon_zero {y : List Rat} {e : List Int} (h : y.length = e.dropLast.length) (h1 : 0 ≤ lastE e) : mon (y ++ [0]) (intE e) = 0 := by
  unfold intE
  rw [mon_app h]
  show mon y e.dropLast * ((0 : Rat) ^ (lastE e + 1).toNat * 1) = 0
  have e1 : (lastE e + 1).toNat = (lastE e).toNat + 1 := by omega
  rw [e1, Rat.pow_succ, Rat.mul_zero, Rat.zero_mul, Rat.mul_zero]
theorem vp_zero {y : List Rat} : ∀ {p : List Tm}, (∀ t ∈ p, y.length = t.1.dropLast.length ∧ 0 ≤ lastE t.1) → vp (y ++ [0]) (pint p) = 0
  | [], _ => rfl
  | t :: p, h => by
    obtain ⟨h1, h2⟩ := h t List.mem_cons_self
    show _ * mon (y ++ [0]) (intE t.1) + vp (y ++ [0]) (pint p) = 0
    rw [mon_zero h1 h2, Rat.mul_zero, Rat.zero_add, vp_zero fun u m => h u (List.mem_cons_of_mem _ m)]
theorem num_mul {q : Rat} {m : Int} : Rat.divInt (q.num * m) q.den = q * m := by
  rw [Rat.divInt_eq_div]
  have z := Rat.num_divInt_den q
  rw [Rat.divInt_eq_div] at z
  rw [Rat.intCast_mul, Rat.div_def, Rat.mul_assoc, Rat.mul_comm (m : Rat), ← Rat.mul_assoc, ← Rat.div_def, z]
theorem x_law_integral {n : Nat} {p : List Tm} {x : List Rat} (g : PG n p) (hx : ∀ a ∈ x, qs a ≤ 5) (hl : x.length = n + 1) (hn : n ≤ 3) : callN F (d + 5) n__law_integral [pl p, .int n, .lst (x.map fr)] S = .ok (.bl true) S := by
  rw [callN_of (fd := ⟨3, 7, b__law_integral⟩) rfl rfl]
  have ne : ∀ t ∈ p, t.1 ≠ [] := fun t m z => by have := (g.row t m).1; rw [z] at this; simp at this
  have nn : ∀ t ∈ p, 0 ≤ lastE t.1 ∧ (lastE t.1).toNat ≤ 3 := fun t m => (g.row t m).2.1 _ (lastE_mem (ne t m))
  have pw := pint_ok g
  have lim : LIM = 134217728 := rfl
  have gi := x_poly_integral (d := d + 1) (S := ⟨S.cells, false⟩) (p := p) (fun t m => ⟨ne t m, by rw [(g.row t m).1]; omega⟩) (fun t m => (nn t m).1) (fun t m => by
    have z2 := qs_add (lastE t.1 : Rat) 1
    have z3 := qs_int (lastE t.1)
    have z4 : (lastE t.1).natAbs.log2 ≤ 3 := log_lt (by have := nn t m; omega)
    have z5 := qs_one
    have := (g.row t m).2.2
    omega) (by have := g.len; omega)
  have c3 : cut x none (some (-1)) = x.take n := by rw [cut_init, List.dropLast_eq_take, hl]; rfl
  have a3 : ∀ (S : Sto), opV S .add (.lst ((x.take n).map fr)) (.lst [fr 0]) = some (.lst ((x.take n ++ [0]).map fr)) := fun S => ad_place (by simp; omega)
  have q0 : ∀ a ∈ x.take n ++ [0], qs a ≤ 5 := fun a m => by
    rcases List.mem_append.mp m with m | m
    · exact hx a (List.mem_of_mem_take m)
    · rw [List.mem_singleton.mp m, qs_zero]; omega
  have val := x_val (d := d + 2) (S := ⟨S.cells, false⟩) pw q0 (by simp; omega) hn (by decide)
  have vz : vp (x.take n ++ [0]) (pint p) = 0 := vp_zero fun t m => ⟨by have := (g.row t m).1; simp; omega, (nn t m).1⟩
  rw [vz] at val
  have sh := x_law_shape (d := d + 2) (S := ⟨S.cells, false⟩) pw
  have pl1 : biV ⟨S.cells, false⟩ .len [pl (pint p)] = some (.int p.length) := by unfold pl pint; simp
  have pl2 : biV ⟨S.cells, false⟩ .len [pl p] = some (.int p.length) := by unfold pl; simp
  have s0 : xst (callN F (d + 4)) S.cells.length st__law_integral_0 [some (pl p), some (.int n), some (.lst (x.map fr)), none, none, none, none] ⟨S.cells, false⟩ = .next [some (pl p), some (.int n), some (.lst (x.map fr)), some (pl (pint p)), none, none, none] ⟨S.cells, false⟩ := by simp [st__law_integral_0, gi]
  have s1 : xst (callN F (d + 4)) S.cells.length st__law_integral_1 [some (pl p), some (.int n), some (.lst (x.map fr)), some (pl (pint p)), none, none, none] ⟨S.cells, false⟩ = .next [some (pl p), some (.int n), some (.lst (x.map fr)), some (pl (pint p)), none, none, none] ⟨S.cells, false⟩ := by
    simp only [st__law_integral_1, xst_ifs, evT_or, evT_not, evT_call, evT_cmp, ev_call, ev_bin, ev_slc, ev_neg, ev_lst, ev_tup, ev_cst, ev_bi, evo_none, evo_some, evs_cons, evs_nil, ev_var, List.getElem?_cons_succ, List.getElem?_cons_zero, xbd_ok, sl_place, c3, zfr0, a3, val, sh, pl1, pl2, xopt_some, ztr_bl, zcm_ne, zeqV_fr, zeqV_int, xst_ok, zss_nil]
    simp [pl1, pl2]
  have s2 : xst (callN F (d + 4)) S.cells.length st__law_integral_2 [some (pl p), some (.int n), some (.lst (x.map fr)), some (pl (pint p)), none, none, none] ⟨S.cells, false⟩ = .next [some (pl p), some (.int n), some (.lst (x.map fr)), some (pl (pint p)), some (.ref S.cells.length), none, none] ⟨S.cells ++ [.lst ([].map tm)], false⟩ := by simp [st__law_integral_2]
  have e0 := xst_for (C := callN F (d + 4)) (b := S.cells.length) (t := .tup (.cons (.name 5) (.cons (.name 6) .nil))) (it := .seq (.var 3)) (p := bk__law_integral_0) (σ := [some (pl p), some (.int n), some (.lst (x.map fr)), some (pl (pint p)), some (.ref S.cells.length), none, none]) (S := ⟨S.cells ++ [.lst ([].map tm)], false⟩) (w := (p.map fun t => tm (intE t.1, t.2 / ((lastE t.1 : Rat) + 1)), [])) (S1 := ⟨S.cells ++ [.lst ([].map tm)], false⟩) (by
    have e : (pint p).map tm = p.map fun t => tm (intE t.1, t.2 / ((lastE t.1 : Rat) + 1)) := by unfold pint; rw [List.map_map]; rfl
    rw [← e]
    simp [pl])
  obtain ⟨σ', S', e1, ⟨o5, o6, rfl, rfl⟩, hc⟩ := for_fold (g := fun S => stands S []) (bind := bindT (.tup (.cons (.name 5) (.cons (.name 6) .nil)))) (body := xss (callN F (d + 4)) S.cells.length bk__law_integral_0) (fun t : Tm => tm (intE t.1, t.2 / ((lastE t.1 : Rat) + 1)))
    (fun (c : List Tm) σ S' => ∃ o5 o6, σ = [some (pl p), some (.int n), some (.lst (x.map fr)), some (pl (pint p)), some (.ref S.cells.length), o5, o6] ∧ S' = ⟨S.cells ++ [.lst (c.map tm)], false⟩) (fun c t => c ++ [t]) (fun i c => c = p.take i) (fun _ _ _ h => by obtain ⟨_, _, _, rfl⟩ := h; rfl) p 0 [] _ _ ⟨none, none, rfl, rfl⟩ rfl fun i t c σ S' hi hp ⟨o5, o6, e1, e2⟩ => by
      subst e1 e2
      rw [Nat.zero_add] at hp ⊢
      have mi := List.mem_of_getElem? hi
      obtain ⟨h1, h2, h3⟩ := g.row t mi
      obtain ⟨h4, h5⟩ := nn t mi
      have la : ∀ S : Sto, ixV S (rowPV (intE t.1)) (.int (-1)) = some (.int (lastE t.1 + 1)) := fun S => by
        rw [ix_row, itemAt_last (intE_ne _)]
        unfold intE
        simp
      have dl : cut (intE t.1) none (some (-1)) = t.1.dropLast := by rw [cut_init]; unfold intE; simp
      have a1 : ∀ S : Sto, opV S .add (rowPV t.1.dropLast) (.tup [.int (lastE t.1)]) = some (rowPV t.1) := fun S => by
        rw [row1, ad_row (by have : lenMax = 16777216 := rfl; simp; omega)]
        congr 2
        unfold lastE
        rw [List.getLastD_eq_getLast?]
        have z := List.dropLast_concat_getLast (ne t mi)
        rw [List.getLast?_eq_some_getLast (ne t mi)]
        exact z
      have m1 : mulOk (t.2 / ((lastE t.1 : Rat) + 1)).num (lastE t.1 + 1) = true := mulOk_r (by unfold sz; omega)
      have ec : ((lastE t.1 + 1 : Int) : Rat) = (lastE t.1 : Rat) + 1 := by simp
      have mk : ∀ S : Sto, callN F (d + 4) n_make [.int ((t.2 / ((lastE t.1 : Rat) + 1)).num * (lastE t.1 + 1)), .int (t.2 / ((lastE t.1 : Rat) + 1)).den] S = .ok (fr t.2) S := fun S => by
        rw [x_make (den_ne _), num_mul, ec, Rat.div_def, Rat.mul_assoc, Rat.inv_mul_cancel _ (last_nz h4), Rat.mul_one]
      have cl : c.length < lenMax := by
        rw [hp, List.length_take]
        have : lenMax = 16777216 := rfl
        have := g.len
        omega
      refine ⟨[some (pl p), some (.int n), some (.lst (x.map fr)), some (pl (pint p)), some (.ref S.cells.length), some (rowPV (intE t.1)), some (fr (t.2 / ((lastE t.1 : Rat) + 1)))], [some (pl p), some (.int n), some (.lst (x.map fr)), some (pl (pint p)), some (.ref S.cells.length), some (rowPV (intE t.1)), some (fr (t.2 / ((lastE t.1 : Rat) + 1)))], ⟨S.cells ++ [.lst ((c ++ [t]).map tm)], false⟩, by simp [tm], .inl ?_, ⟨_, _, rfl, rfl⟩, ?_⟩
      · simp [bk__law_integral_0, la, dl, a1, m1, mk, cl, tm]
      · rw [hp, List.take_add_one, hi]
        rfl
  have hc : p.foldl (fun c t => c ++ [t]) [] = p := by rw [Nat.zero_add, List.take_length] at hc; exact hc
  rw [hc] at e1
  have s3 : xst (callN F (d + 4)) S.cells.length st__law_integral_3 [some (pl p), some (.int n), some (.lst (x.map fr)), some (pl (pint p)), some (.ref S.cells.length), none, none] ⟨S.cells ++ [.lst ([].map tm)], false⟩ = .next [some (pl p), some (.int n), some (.lst (x.map fr)), some (pl (pint p)), some (.ref S.cells.length), o5, o6] ⟨S.cells ++ [.lst (p.map tm)], false⟩ := e0.trans e1
  have s4 : xst (callN F (d + 4)) S.cells.length st__law_integral_4 [some (pl p), some (.int n), some (.lst (x.map fr)), some (pl (pint p)), some (.ref S.cells.length), o5, o6] ⟨S.cells ++ [.lst (p.map tm)], false⟩ = .ret (.bl true) ⟨S.cells ++ [.lst (p.map tm)], false⟩ := by
    have e : ∀ S : Sto, eqV S (.tup (p.map tm)) (pl p) = some (decide (p = p)) := fun S => eqV_pl
    simp [st__law_integral_4, e]
  refine (run_retT (v := .bl true) (cs := S.cells ++ [.lst (p.map tm)]) ?_ rfl).trans (by simp)
  show xss _ _ b__law_integral [some (pl p), some (.int n), some (.lst (x.map fr)), none, none, none, none] _ = _
  unfold b__law_integral
  rw [xss_step s0, xss_step s1, xss_step s2, xss_step s3, xss_cons, s4, seq_ret]
/-! ### ranges -/
theorem mul_one1 (x : Iv) : x.mul (Iv.pt 1) = x := by
  unfold Iv.mul tml tmh Iv.pt
  have h : ¬ (1 : Rat) < 0 := by decide
  simp only [h, if_false, Rat.mul_one, mn_self, mx_self]
theorem rai0 (x : Iv) : x.rai 0 = Iv.pt 1 := rfl
theorem facI_eq (t : Iv) (p : Iv × Int) (h : 0 ≤ p.2) : facI t p = t.mul (p.1.rai p.2.toNat) := by
  unfold facI
  split
  · rename_i h0
    rw [h0]
    show t = t.mul (p.1.rai 0)
    rw [rai0, mul_one1]
  · rfl
theorem x_law_bounds {n : Nat} {p : List Tm} {x : List Rat} {dom : List Iv} (g : PG n p) (hx : ∀ a ∈ x, qs a ≤ 5) (hl : x.length = n + 1) (hn : n ≤ 3) (hd : ∀ y ∈ dom, is y ≤ 5) (hdl : dom.length = n + 1) (hin : ∀ r ∈ dom.zip x, r.1.has r.2) : callN F (d + 7) n__law_bounds [pl p, .tup (dom.map ivv), .lst (x.map fr)] S = .ok (.bl true) S := by
  rw [callN_of (fd := ⟨3, 9, b__law_bounds⟩) rfl rfl]
  have he : ∀ t ∈ p, ∀ i ∈ t.1, 0 ≤ i ∧ i.toNat ≤ 3 := fun t m => (g.row t m).2.1
  refine run_ret ?_ rfl
  have e0 := xst_for (C := callN F (d + 6)) (b := S.cells.length) (t := .tup (.cons (.name 4) (.cons (.name 5) .nil))) (it := .seq (.var 0)) (p := bk__law_bounds_1) (σ := [some (pl p), some (.tup (dom.map ivv)), some (.lst (x.map fr)), some (ivv (Iv.pt 0)), none, none, none, none, none]) (S := ⟨S.cells, false⟩) (w := (p.map tm, [])) (S1 := ⟨S.cells, false⟩) (by simp [pl])
  obtain ⟨σ', S', e1, ⟨o4, o5, o6, o7, o8, rfl, rfl⟩, _⟩ := for_fold (g := fun S => stands S []) (bind := bindT (.tup (.cons (.name 4) (.cons (.name 5) .nil)))) (body := xss (callN F (d + 6)) S.cells.length bk__law_bounds_1) tm
    (fun (c : Iv) σ S' => ∃ o4 o5 o6 o7 o8, σ = [some (pl p), some (.tup (dom.map ivv)), some (.lst (x.map fr)), some (ivv c), o4, o5, o6, o7, o8] ∧ S' = ⟨S.cells, false⟩) (fun c t => c.add (trange dom t)) (fun i c => i ≤ 5 ∧ is c ≤ 1 + i * 100) (fun _ _ _ h => by obtain ⟨_, _, _, _, _, _, rfl⟩ := h; rfl) p 0 (Iv.pt 0) _ _ ⟨none, none, none, none, none, rfl, rfl⟩ ⟨by omega, by rw [is_pt, qs_zero]; omega⟩ fun i t c σ S' hi hp ⟨o4, o5, o6, o7, o8, e1, e2⟩ => by
      subst e1 e2
      rw [Nat.zero_add] at hp ⊢
      have mi := List.mem_of_getElem? hi
      have il := (List.getElem?_eq_some_iff.mp hi).1
      obtain ⟨h1, h2, h3⟩ := g.row t mi
      have lp := g.len
      -- the law's own product
      have f0 := xst_for (C := callN F (d + 6)) (b := S.cells.length) (t := .name 7) (it := .rng1 (.bi .len (.cons (.var 4) .nil))) (p := bk__law_bounds_0) (σ := [some (pl p), some (.tup (dom.map ivv)), some (.lst (x.map fr)), some (ivv c), some (rowPV t.1), some (fr t.2), some (ivv (Iv.pt 1)), o7, o8]) (S := ⟨S.cells, false⟩) (evi_rngN (C := callN F (d + 6)) (b := S.cells.length) (e := .bi .len (.cons (.var 4) .nil)) (σ := [some (pl p), some (.tup (dom.map ivv)), some (.lst (x.map fr)), some (ivv c), some (rowPV t.1), some (fr t.2), some (ivv (Iv.pt 1)), o7, o8]) (S := ⟨S.cells, false⟩) (n := t.1.length) (by simp) (by omega))
      obtain ⟨τ, S2, f1, ⟨v, w7, rfl, rfl, hv⟩, hc⟩ := for_fold (g := fun S => stands S []) (bind := bindT (.name 7)) (body := xss (callN F (d + 6)) S.cells.length bk__law_bounds_0) (fun (i : Nat) => PV.int (i : Int))
        (fun (k : Nat) σ S' => ∃ v o7, σ = [some (pl p), some (.tup (dom.map ivv)), some (.lst (x.map fr)), some (ivv c), some (rowPV t.1), some (fr t.2), some (ivv v), o7, o8] ∧ S' = ⟨S.cells, false⟩ ∧ v = ((dom.zip t.1).take k).foldl facI (Iv.pt 1)) (fun c _ => c + 1) (fun i c => c = i) (fun _ _ _ h => by obtain ⟨_, _, _, rfl, _⟩ := h; rfl) (List.range t.1.length) 0 0 _ _ ⟨_, o7, rfl, rfl, rfl⟩ rfl fun j y k σ S' hj hk ⟨v, o7, e1, e2, hv⟩ => by
          subst e1 e2
          rw [Nat.zero_add] at hk
          subst hk
          have jl := (List.getElem?_eq_some_iff.mp hj).1
          have ey := (List.getElem?_eq_some_iff.mp hj).2
          rw [List.length_range] at jl
          rw [List.getElem_range] at ey
          subst ey
          have zl : k < (dom.zip t.1).length := by rw [List.length_zip]; omega
          have dk : k < dom.length := by omega
          have zk : (dom.zip t.1)[k]? = some (dom[k], t.1[k]) := by
            rw [List.getElem?_eq_getElem zl, List.getElem_zip]
          have hh := h2 t.1[k] (List.getElem_mem jl)
          have hdk := hd dom[k] (List.getElem_mem dk)
          have sv := is_facs (k := 5) (E := 3) (l := (dom.zip t.1).take k) (t := Iv.pt 1) fun q hq => ⟨hd _ (List.of_mem_zip (List.mem_of_mem_take hq)).1, (h2 _ (List.of_mem_zip (List.mem_of_mem_take hq)).2).2⟩
          rw [← hv, is_pt, qs_one, List.length_take] at sv
          have sv2 : min k (dom.zip t.1).length * (5 * 3 + 1) ≤ 4 * 16 := Nat.mul_le_mul (by omega) (by decide)
          have z3 : is dom[k] * t.1[k].toNat ≤ 5 * 3 := Nat.mul_le_mul hdk hh.2
          have z4 := is_rai dom[k] t.1[k].toNat
          have lim : LIM = 134217728 := rfl
          have ra := x_raisedI (d := d + 2) (S := ⟨S.cells, false⟩) (x := dom[k]) (n := t.1[k]) hh.1 (by omega) (by omega)
          have tm2 := x_times (d := d + 2) (S := ⟨S.cells, false⟩) (x := v) (y := dom[k].rai t.1[k].toNat) (by omega)
          have ix1 : ∀ S : Sto, ixV S (.tup (dom.map ivv)) (.int (k : Int)) = some (ivv dom[k]) := fun S => by rw [zix_tup, itemAt_nat]; simp [dk]
          have ix2 : ∀ S : Sto, ixV S (rowPV t.1) (.int (k : Int)) = some (.int t.1[k]) := fun S => row_nat jl
          refine ⟨[some (pl p), some (.tup (dom.map ivv)), some (.lst (x.map fr)), some (ivv c), some (rowPV t.1), some (fr t.2), some (ivv v), some (.int k), o8], [some (pl p), some (.tup (dom.map ivv)), some (.lst (x.map fr)), some (ivv c), some (rowPV t.1), some (fr t.2), some (ivv (v.mul (dom[k].rai t.1[k].toNat))), some (.int k), o8], ⟨S.cells, false⟩, by simp, .inl ?_, ⟨_, _, rfl, rfl, ?_⟩, by omega⟩
          · simp [bk__law_bounds_0, ix1, ix2, ra, tm2]
          · rw [foldl_take zk, ← hv, facI_eq _ _ hh.1]
      have hc : (List.range t.1.length).foldl (fun c _ => c + 1) 0 = t.1.length := by simpa using hc
      rw [hc, List.take_of_length_le (by rw [List.length_zip]; omega)] at hv
      have hv : v = facs dom t.1 := hv
      subst hv
      have lim : LIM = 134217728 := rfl
      have tr := x_term_range (d := d + 1) (S := ⟨S.cells, false⟩) (dom := dom) (t := t) (k := 5) (E := 3) (m := 5) (n := 4) hd (by omega) h2 h3 (by decide) (by decide)
      have s1 := is_trange (k := 5) (E := 3) (n := 4) (m := 5) (dom := dom) (t := t) hd (by omega) (fun j hj => (h2 j hj).2) h3
      have s2 := is_facs (k := 5) (E := 3) (l := dom.zip t.1) (t := Iv.pt 1) fun q hq => ⟨hd _ (List.of_mem_zip hq).1, (h2 _ (List.of_mem_zip hq).2).2⟩
      rw [is_pt, qs_one, List.length_zip] at s2
      have s2' : is (facs dom t.1) ≤ 1 + min dom.length t.1.length * (5 * 3 + 1) := s2
      have s3 : min dom.length t.1.length * (5 * 3 + 1) ≤ 4 * 16 := Nat.mul_le_mul (by omega) (by decide)
      have sc := x_scaled (d := d + 3) (S := ⟨S.cells, false⟩) (x := facs dom t.1) (a := t.2) (by omega)
      have sc' : callN F (d + 6) n_scaled [ivv (facs dom t.1), fr t.2] ⟨S.cells, false⟩ = .ok (ivv (trange dom t)) ⟨S.cells, false⟩ := sc
      have c1 : i * 100 ≤ 5 * 100 := Nat.mul_le_mul_right _ hp.1
      have ad := x_plus (d := d + 3) (S := ⟨S.cells, false⟩) (x := c) (y := trange dom t) (by omega)
      have z := is_add c (trange dom t)
      refine ⟨[some (pl p), some (.tup (dom.map ivv)), some (.lst (x.map fr)), some (ivv c), some (rowPV t.1), some (fr t.2), o6, o7, o8], [some (pl p), some (.tup (dom.map ivv)), some (.lst (x.map fr)), some (ivv (c.add (trange dom t))), some (rowPV t.1), some (fr t.2), some (ivv (facs dom t.1)), w7, o8], ⟨S.cells, false⟩, by simp [tm], .inl ?_, ⟨_, _, _, _, _, rfl, rfl⟩, by omega, ?_⟩
      · unfold bk__law_bounds_1
        rw [xss_step (σ' := [some (pl p), some (.tup (dom.map ivv)), some (.lst (x.map fr)), some (ivv c), some (rowPV t.1), some (fr t.2), some (ivv (Iv.pt 1)), o7, o8]) (S' := ⟨S.cells, false⟩) (by simp [Iv.pt]), xss_step (f0.trans f1)]
        simp [tr, sc', ad]
      · rw [Nat.add_mul]
        omega
  have e2 : xst (callN F (d + 6)) S.cells.length st__law_bounds_1 [some (pl p), some (.tup (dom.map ivv)), some (.lst (x.map fr)), some (ivv (Iv.pt 0)), none, none, none, none, none] ⟨S.cells, false⟩ = .next [some (pl p), some (.tup (dom.map ivv)), some (.lst (x.map fr)), some (ivv (pbound dom p)), o4, o5, o6, o7, o8] ⟨S.cells, false⟩ := e0.trans e1
  have e3 : xst (callN F (d + 6)) S.cells.length st__law_bounds_0 [some (pl p), some (.tup (dom.map ivv)), some (.lst (x.map fr)), none, none, none, none, none, none] ⟨S.cells, false⟩ = .next [some (pl p), some (.tup (dom.map ivv)), some (.lst (x.map fr)), some (ivv (Iv.pt 0)), none, none, none, none, none] ⟨S.cells, false⟩ := by simp [st__law_bounds_0, Iv.pt]
  have val := x_val (d := d + 4) (S := ⟨S.cells, false⟩) g.pw hx hl hn (by decide)
  have lim : LIM = 134217728 := rfl
  have bd := x_poly_bound (d := d) (S := ⟨S.cells, false⟩) (dom := dom) (p := p) (k := 5) (E := 3) (m := 5) (n := 4) (L := 5) hd (by omega) he (fun t m => (g.row t m).2.2) (by decide) g.len (by decide)
  have hb := has_bound (p := p) (dom := dom) (x := x) (by omega) hin
  have s1 : is (pbound dom p) ≤ 1 + 5 * 90 := by
    have z := is_bound (B := 80) (dom := dom) (p := p) (s := Iv.pt 0) fun t m => Nat.le_trans (is_trange (k := 5) (E := 3) (n := 4) (m := 5) hd (by omega) (fun j hj => (he t m j hj).2) (g.row t m).2.2) (by decide)
    rw [is_pt, qs_zero] at z
    have := g.len
    unfold pbound
    omega
  have s2 := qs_vp (B := 80) (x := x) (p := p) fun t m => Nat.le_trans (qs_term (k := 5) (E := 3) (n := 4) (m := 5) hx (by omega) (fun j hj => (he t m j hj).2) (g.row t m).2.2) (by decide)
  have lp := g.len
  have si : is (pbound dom p) = max (qs (pbound dom p).1) (qs (pbound dom p).2) := rfl
  show xss _ _ b__law_bounds [some (pl p), some (.tup (dom.map ivv)), some (.lst (x.map fr)), none, none, none, none, none, none] _ = _
  unfold b__law_bounds
  rw [xss_step e3, xss_step e2]
  have q1 := cq_le.mpr hb.1
  have q2 := cq_le.mpr hb.2
  simp (disch := first | omega | (simp; done) | fail) [st__law_bounds_2, st__law_bounds_3, val, bd, q1, q2]
end
end K06
end
section
set_option Elab.async false
set_option linter.all false
set_option maxRecDepth 100000
set_option maxHeartbeats 1000000
namespace K06
open PySem MP
section
variable {d : Nat} {S : Sto} {s : DS} {tl : List Cell}
theorem rpow_add (a : Rat) (m : Nat) : ∀ n : Nat, a ^ (m + n) = a ^ m * a ^ n
  | 0 => by rw [Nat.add_zero, Rat.pow_zero, Rat.mul_one]
  | n + 1 => by rw [← Nat.add_assoc, Rat.pow_succ, Rat.pow_succ, rpow_add a m n, Rat.mul_assoc]
theorem mon_add : ∀ {x : List Rat} {a b : List Int}, a.length = b.length → (∀ i ∈ a, 0 ≤ i) → (∀ i ∈ b, 0 ≤ i) → mon x (rowAdd a b) = mon x a * mon x b
  | [], a, b, _, _, _ => by cases a <;> cases b <;> simp [mon, Rat.mul_one]
  | y :: x, [], [], _, _, _ => by simp [rowAdd, mon, Rat.mul_one]
  | _ :: _, [], _ :: _, h, _, _ => by simp at h
  | _ :: _, _ :: _, [], h, _, _ => by simp at h
  | y :: x, i :: a, j :: b, h, h1, h2 => by
    have i0 := h1 i List.mem_cons_self
    have j0 := h2 j List.mem_cons_self
    show y ^ (i + j).toNat * mon x (rowAdd a b) = y ^ i.toNat * mon x a * (y ^ j.toNat * mon x b)
    rw [mon_add (by simpa using h) (fun k m => h1 k (List.mem_cons_of_mem _ m)) (fun k m => h2 k (List.mem_cons_of_mem _ m)), show (i + j).toNat = i.toNat + j.toNat by omega, rpow_add]
    grind
theorem vp_map_mul {x : List Rat} {a : Tm} : ∀ {q : List Tm}, (∀ b ∈ q, a.1.length = b.1.length ∧ (∀ i ∈ b.1, 0 ≤ i)) → (∀ i ∈ a.1, 0 ≤ i) → vp x (q.map fun b => (rowAdd a.1 b.1, a.2 * b.2)) = a.2 * mon x a.1 * vp x q
  | [], _, _ => by show (0 : Rat) = _ * 0; rw [Rat.mul_zero]
  | b :: q, h, h1 => by
    obtain ⟨h2, h3⟩ := h b List.mem_cons_self
    show a.2 * b.2 * mon x (rowAdd a.1 b.1) + vp x (q.map _) = a.2 * mon x a.1 * (b.2 * mon x b.1 + vp x q)
    rw [vp_map_mul (fun c m => h c (List.mem_cons_of_mem _ m)) h1, mon_add h2 h1 h3]
    grind
theorem vp_prods {x : List Rat} {q : List Tm} : ∀ {p : List Tm}, (∀ a ∈ p, (∀ i ∈ a.1, 0 ≤ i) ∧ ∀ b ∈ q, a.1.length = b.1.length ∧ (∀ i ∈ b.1, 0 ≤ i)) → vp x (prods p q) = vp x p * vp x q
  | [], _ => by show (0 : Rat) = 0 * _; rw [Rat.zero_mul]
  | a :: p, h => by
    obtain ⟨h1, h2⟩ := h a List.mem_cons_self
    show vp x (q.map (fun b => (rowAdd a.1 b.1, a.2 * b.2)) ++ prods p q) = (a.2 * mon x a.1 + vp x p) * vp x q
    rw [vp_app, vp_map_mul h2 h1, vp_prods fun c m => h c (List.mem_cons_of_mem _ m)]
    grind
theorem vp_neg {x : List Rat} : ∀ {p : List Tm}, vp x (pneg p) = -vp x p
  | [] => by show (0 : Rat) = -0; decide
  | t :: p => by
    show -t.2 * mon x t.1 + vp x (pneg p) = -(t.2 * mon x t.1 + vp x p)
    rw [vp_neg]
    grind
theorem cs_neg {e : List Int} : ∀ {p : List Tm}, cs (pneg p) e = -cs p e
  | [] => by show (0 : Rat) = -0; decide
  | t :: p => by
    show (if t.1 = e then -t.2 else 0) + cs (pneg p) e = -((if t.1 = e then t.2 else 0) + cs p e)
    rw [cs_neg]
    split <;> grind
theorem sub_self {p : List Tm} : nf (p ++ pneg p) = [] := nf_zero fun e => by rw [cs_app, cs_neg]; grind
theorem vp_scale {x : List Rat} {a : Rat} {p : List Tm} : vp x (pscale p a) = a * vp x p := by
  unfold pscale
  split
  · rename_i h
    subst h
    show (0 : Rat) = 0 * _
    rw [Rat.zero_mul]
  · induction p with
    | nil => show (0 : Rat) = _ * 0; rw [Rat.mul_zero]
    | cons t p ih =>
      show t.2 * a * mon x t.1 + vp x (p.map _) = a * (t.2 * mon x t.1 + vp x p)
      rw [ih]
      grind
theorem mon_rep : ∀ {x : List Rat} {n : Nat}, mon x (List.replicate n 0) = 1
  | [], n => by cases n <;> rfl
  | _ :: _, 0 => rfl
  | a :: x, n + 1 => by
    show a ^ (0 : Int).toNat * mon x (List.replicate n 0) = 1
    rw [mon_rep, show (0 : Int).toNat = 0 from rfl, Rat.pow_zero, Rat.one_mul]
theorem mon_unit : ∀ {x : List Rat} {n i : Nat} (h : i < x.length), i < n → mon x ((List.range n).map fun k => if k = i then 1 else 0) = x[i]
  | [], _, _, h, _ => by simp at h
  | _ :: _, 0, _, _, h => by omega
  | a :: x, n + 1, i, h, hn => by
    rw [List.range_succ_eq_map, List.map_cons, List.map_map]
    show a ^ (if 0 = i then (1 : Int) else 0).toNat * mon x _ = _
    cases i with
    | zero =>
      have e : ((fun k => if k = 0 then (1 : Int) else 0) ∘ Nat.succ) = fun _ => 0 := by funext k; simp
      rw [e, List.map_const', mon_rep]
      show a ^ 1 * 1 = a
      rw [Rat.mul_one, show (1 : Nat) = 0 + 1 from rfl, Rat.pow_succ, Rat.pow_zero, Rat.one_mul]
    | succ i =>
      have e : ((fun k => if k = i + 1 then (1 : Int) else 0) ∘ Nat.succ) = fun k => if k = i then (1 : Int) else 0 := by funext k; simp
      rw [e, mon_unit (by simpa using h) (by omega)]
      show a ^ (0 : Int).toNat * _ = _
      rw [show (0 : Int).toNat = 0 from rfl, Rat.pow_zero, Rat.one_mul]
      simp
theorem nf_pw {n K : Nat} {l : List Tm} (h : PS K l) (hl : l.length ≤ 100) (hr : ∀ t ∈ l, t.1.length = n + 1 ∧ ∀ i ∈ t.1, 0 ≤ i ∧ i.toNat ≤ 8) : PW n K (nf l) := by
  refine ⟨shp_nf _, Nat.le_trans (nf_len _) hl, fun t m => ?_⟩
  obtain ⟨v, mv, e⟩ := List.mem_map.mp (nf_mem m).1
  have e : v.1 = t.1 := e
  rw [← e]
  exact ⟨(hr v mv).1, (hr v mv).2, h.nf t m⟩
theorem PG.nn {n : Nat} {p : List Tm} (g : PG n p) : ∀ t ∈ p, ∀ i ∈ t.1, 0 ≤ i := fun t m i hi => ((g.row t m).2.1 i hi).1
theorem PG.ne {n : Nat} {p : List Tm} (g : PG n p) : ∀ t ∈ p, t.1 ≠ [] := fun t m z => by have := (g.row t m).1; rw [z] at this; simp at this
theorem rowAdd_len {a b : List Int} {n : Nat} (h : a.length = n) (h' : b.length = n) : (rowAdd a b).length = n := by
  unfold rowAdd
  simp [h, h']
theorem rowAdd_in {a b : List Int} (h : ∀ i ∈ a, 0 ≤ i ∧ i.toNat ≤ 3) (h' : ∀ i ∈ b, 0 ≤ i ∧ i.toNat ≤ 3) : ∀ i ∈ rowAdd a b, 0 ≤ i ∧ i.toNat ≤ 8 := by
  intro i hi
  unfold rowAdd at hi
  obtain ⟨r, hr, rfl⟩ := List.mem_map.mp hi
  have h1 := h _ (List.of_mem_zip hr).1
  have h2 := h' _ (List.of_mem_zip hr).2
  omega
/-! ### the operations, as the law asks them -/
variable {n : Nat} {p q : List Tm} {x : List Rat} {a : Rat}
theorem q_add (g : PG n p) (g' : PG n q) : callN F (d + 3) n_poly_add [pl p, pl q] S = .ok (pl (nf (p ++ q))) S ∧ PW n 61 (nf (p ++ q)) := by
  have ps : PS 61 (p ++ q) := PS.of (k := 5) (n := 10) (fun t m => (List.mem_append.mp m).elim (fun m => (g.row t m).2.2) fun m => (g'.row t m).2.2) (by rw [List.length_append]; have := g.len; have := g'.len; omega)
  have l1 := g.len
  have l2 := g'.len
  exact ⟨x_poly_add ps (by decide) (fun t m => (List.mem_append.mp m).elim (g.ne t) (g'.ne t)) (by omega), nf_pw ps (by rw [List.length_append]; omega) fun t m => (List.mem_append.mp m).elim (fun m => ⟨(g.pw.row t m).1, (g.pw.row t m).2.1⟩) fun m => ⟨(g'.pw.row t m).1, (g'.pw.row t m).2.1⟩⟩
theorem PG.neg (g : PG n p) : PG n (pneg p) := by
  have k : keys (pneg p) = keys p := by unfold keys pneg; rw [List.map_map]; rfl
  refine ⟨⟨by rw [k]; exact g.shp.1, fun t m => ?_⟩, by unfold pneg; rw [List.length_map]; exact g.len, fun t m => ?_⟩
  · obtain ⟨u, mu, rfl⟩ := List.mem_map.mp m
    have := g.shp.2 u mu
    show -u.2 ≠ 0
    grind
  · obtain ⟨u, mu, rfl⟩ := List.mem_map.mp m
    obtain ⟨h1, h2, h3⟩ := g.row u mu
    exact ⟨h1, h2, by show qs (-u.2) ≤ 5; rw [qs_neg]; exact h3⟩
theorem q_sub (g : PG n p) (g' : PG n q) : callN F (d + 4) n_poly_sub [pl p, pl q] S = .ok (pl (nf (p ++ pneg q))) S ∧ PW n 61 (nf (p ++ pneg q)) := by
  have z := (q_add (d := d) (S := S) g g'.neg).2
  have ps : PS 61 (p ++ pneg q) := PS.of (k := 5) (n := 10) (fun t m => (List.mem_append.mp m).elim (fun m => (g.row t m).2.2) fun m => (g'.neg.row t m).2.2) (by rw [List.length_append]; have := g.len; have := g'.neg.len; omega)
  have l1 := g.len
  have l2 := g'.len
  exact ⟨x_poly_sub ps (by decide) (fun t m => (List.mem_append.mp m).elim (g.ne t) (g'.ne t)) (by omega), z⟩
theorem q_mul (g : PG n p) (g' : PG n q) (hn : n ≤ 3) : callN F (d + 3) n_poly_mul [pl p, pl q] S = .ok (pl (nf (prods p q))) S ∧ PW n 276 (nf (prods p q)) := by
  have l1 := g.len
  have l2 := g'.len
  have l3 : p.length * q.length ≤ 5 * 5 := Nat.mul_le_mul l1 l2
  have ps : PS 276 (prods p q) := PS.of (k := 10) (n := 25) (fun t m => by
    obtain ⟨u, mu, m⟩ := List.mem_flatMap.mp m
    obtain ⟨v, mv, rfl⟩ := List.mem_map.mp m
    have := qs_mul u.2 v.2
    have := (g.row u mu).2.2
    have := (g'.row v mv).2.2
    show qs (u.2 * v.2) ≤ 10
    omega) (by rw [prods_len]; omega)
  have lim : LIM = 134217728 := rfl
  refine ⟨x_poly_mul ps (by decide) (fun u mu v mv => by have := (g.row u mu).2.2; have := (g'.row v mv).2.2; omega) (fun u mu v mv z => ?_) (fun u mu => by rw [(g.row u mu).1]; omega) (by omega) (by omega), nf_pw ps (by rw [prods_len]; omega) fun t m => ?_⟩
  · have := rowAdd_len (g.row u mu).1 (g'.row v mv).1
    rw [z] at this
    simp at this
  · obtain ⟨u, mu, m⟩ := List.mem_flatMap.mp m
    obtain ⟨v, mv, rfl⟩ := List.mem_map.mp m
    exact ⟨rowAdd_len (g.row u mu).1 (g'.row v mv).1, rowAdd_in (g.row u mu).2.1 (g'.row v mv).2.1⟩
theorem q_scaled (g : PG n p) (ha : qs a ≤ 5) : callN F (d + 3) n_poly_scaled [pl p, fr a] S = .ok (pl (pscale p a)) S ∧ PW n 10 (pscale p a) := by
  have l1 := g.len
  have lim : LIM = 134217728 := rfl
  refine ⟨x_poly_scaled (fun t m => by have := (g.row t m).2.2; omega) (by omega), ?_⟩
  unfold pscale
  split
  · exact ⟨shp_nil, by simp, fun t m => by cases m⟩
  · rename_i h
    have k : keys (p.map fun t => (t.1, t.2 * a)) = keys p := by unfold keys; rw [List.map_map]; rfl
    refine ⟨⟨by rw [k]; exact g.shp.1, fun t m => ?_⟩, by rw [List.length_map]; omega, fun t m => ?_⟩
    · obtain ⟨u, mu, rfl⟩ := List.mem_map.mp m
      have := g.shp.2 u mu
      intro z
      rcases Rat.mul_eq_zero.mp z with z | z
      · exact this z
      · exact h z
    · obtain ⟨u, mu, rfl⟩ := List.mem_map.mp m
      have := qs_mul u.2 a
      have := (g.row u mu).2.2
      exact ⟨(g.pw.row u mu).1, (g.pw.row u mu).2.1, by show qs (u.2 * a) ≤ 10; omega⟩
theorem q_number (ha : qs a ≤ 5) (h1 : 1 ≤ n) (h2 : n ≤ 3) : callN F (d + 1) n_poly_number [.int n, fr a] S = .ok (pl (pnum n a)) S ∧ PW n 10 (pnum n a) := by
  refine ⟨x_poly_number h1 (by omega), ?_⟩
  unfold pnum
  split
  · exact ⟨shp_nil, by simp, fun t m => by cases m⟩
  · rename_i h
    refine ⟨⟨List.pairwise_singleton _ _, fun t m => by rw [List.mem_singleton.mp m]; exact h⟩, by simp, fun t m => ?_⟩
    rw [List.mem_singleton.mp m]
    exact ⟨by simp, fun i hi => by rw [(List.mem_replicate.mp hi).2]; exact ⟨Int.le_refl 0, by simp⟩, by show qs a ≤ 10; omega⟩
theorem pw_par {i : Nat} : PW n 10 (ppar n i) := by
  unfold ppar
  refine ⟨⟨List.pairwise_singleton _ _, fun t m => by rw [List.mem_singleton.mp m]; show (1 : Rat) ≠ 0; decide⟩, by simp, fun t m => ?_⟩
  rw [List.mem_singleton.mp m]
  refine ⟨by simp [unitE], fun j hj => ?_, by show qs 1 ≤ 10; rw [qs_one]; omega⟩
  obtain ⟨k, _, rfl⟩ := List.mem_map.mp hj
  split <;> omega
/-! ### the whole law -/
abbrev V (sc : PV) (n : Nat) (p q : List Tm) (x : List Rat) (o6 o7 o8 o9 o10 o11 o12 : Option PV) : MP.Env := [some sc, some (.ref 0), some (.int ((n : Nat) : Int)), some (pl p), some (pl q), some (.lst (x.map fr)), o6, o7, o8, o9, o10, o11, o12]
theorem app_sto {s : DS} {xs : List PV} {v : PV} : Sto.wr (s.sto [.lst xs]) 0 1 (.lst (xs ++ [v])) v.pure = s.sto [.lst (xs ++ [v])] := by
  unfold Sto.wr
  simp [DS.sto, G]
theorem main (ns : List Int) : ∃ S', callN F (d + 10) lawNo [.lst (ns.map .int)] ⟨[], false⟩ = .ok (.bl true) S' := by
  let sc : PV := .lst (ns.map .int)
  rw [callN_of (fd := ⟨1, 13, b_law⟩) rfl rfl]
  have st := x_state (d := d + 8) (ns := ns)
  generalize DS.init ns = s at st
  have h3 := s.drw_lt (m := 3) (by decide)
  obtain ⟨n, hn⟩ : ∃ n, n = 1 + s.drw 3 := ⟨_, rfl⟩
  have n1 : 1 ≤ n := by omega
  have n3 : n ≤ 3 := by omega
  obtain ⟨p, s1, ep, gp⟩ := x_law_poly (d := d + 4) (s := s.nxt 3) (tl := []) (n := n) (by omega)
  obtain ⟨q, s2, eq, gq⟩ := x_law_poly (d := d + 4) (s := s1) (tl := []) (n := n) (by omega)
  obtain ⟨x, hx⟩ : ∃ x, x = (DS.seq pairF (n + 1) s2).1 := ⟨_, rfl⟩
  obtain ⟨s3, hs3⟩ : ∃ s3, s3 = (DS.seq pairF (n + 1) s2).2 := ⟨_, rfl⟩
  have xl : x.length = n + 1 := by rw [hx, DS.seq_len]
  have xq : ∀ b ∈ x, qs b ≤ 5 := by rw [hx]; exact DS.seq_all (P := fun b => qs b ≤ 5) pairF_sz
  obtain ⟨a, ha⟩ : ∃ a, a = (pairF s3).1 := ⟨_, rfl⟩
  obtain ⟨s4, hs4⟩ : ∃ s4, s4 = (pairF s3).2 := ⟨_, rfl⟩
  have aq : qs a ≤ 5 := by rw [ha]; exact pairF_sz s3
  have pa := x_pair (d := d + 5) (s := s3) (tl := [])
  rw [← ha, ← hs4] at pa
  obtain ⟨b, hb⟩ : ∃ b, b = vp x p := ⟨_, rfl⟩
  obtain ⟨c, hc⟩ : ∃ c, c = vp x q := ⟨_, rfl⟩
  have lim : LIM = 134217728 := rfl
  have lp := gp.len
  have lq := gq.len
  have bq : qs b ≤ 500 := by
    have z := qs_vp (B := 80) (x := x) (p := p) fun t m => Nat.le_trans (qs_term (k := 5) (E := 3) (n := 4) (m := 5) xq (by omega) (fun j hj => ((gp.row t m).2.1 j hj).2) (gp.row t m).2.2) (by decide)
    rw [← hb] at z
    omega
  have cq : qs c ≤ 500 := by
    have z := qs_vp (B := 80) (x := x) (p := q) fun t m => Nat.le_trans (qs_term (k := 5) (E := 3) (n := 4) (m := 5) xq (by omega) (fun j hj => ((gq.row t m).2.1 j hj).2) (gq.row t m).2.2) (by decide)
    rw [← hc] at z
    omega
  have vb : ∀ S, callN F (d + 9) n__law_value [pl p, .lst (x.map fr)] S = .ok (fr b) S := fun S => by rw [hb]; exact x_val (d := d + 7) gp.pw xq xl n3 (by decide)
  have vc : ∀ S, callN F (d + 9) n__law_value [pl q, .lst (x.map fr)] S = .ok (fr c) S := fun S => by rw [hc]; exact x_val (d := d + 7) gq.pw xq xl n3 (by decide)
  have is : ∀ {m : Nat} {r : List Tm} {v : Rat} (S : Sto), PW n m r → m ≤ 10000 → vp x r = v → callN F (d + 9) n__law_is [pl r, .int n, .lst (x.map fr), fr v] S = .ok (.bl true) S := fun S g h e => x_law_is (d := d + 4) g xq xl n3 h e
  have place : ev (callN F (d + 9)) 0 (.lc (.name 6) [6] (.rng1 (.bin .add (.var 2) (.cst (.int 1)))) .none (.call n__law_pair (.cons (.var 1) .nil))) [some sc, some (.ref 0), some (.int ((n : Nat) : Int)), some (pl p), some (pl q), none, none, none, none, none, none, none, none] (s2.sto []) = .ok (.lst (x.map fr)) (s3.sto []) := by
    have z := ev_lcd (C := callN F (d + 9)) (b := 0) (σ := [some sc, some (.ref 0), some (.int ((n : Nat) : Int)), some (pl p), some (pl q), none, none, none, none, none, none, none, none]) (j := 6) (ne := .bin .add (.var 2) (.cst (.int 1))) (e := .call n__law_pair (.cons (.var 1) .nil)) (s := s2) (tl := []) (n := n + 1) fr pairF (by simp) (by omega) fun k s => by
      have z := x_pair (d := d + 5) (s := s) (tl := [])
      simp [z]
    rw [← hx, ← hs3] at z
    exact z
  -- the rows of the law
  have t0 : xst (callN F (d + 9)) 0 st_law_0 [some sc, none, none, none, none, none, none, none, none, none, none, none, none] ⟨[], false⟩ = .next [some sc, some (.ref 0), none, none, none, none, none, none, none, none, none, none, none] (s.sto []) := by simp [st_law_0, sc, st]
  have t1 : xst (callN F (d + 9)) 0 st_law_1 [some sc, some (.ref 0), none, none, none, none, none, none, none, none, none, none, none] (s.sto []) = .next [some sc, some (.ref 0), some (.int ((n : Nat) : Int)), none, none, none, none, none, none, none, none, none, none] ((s.nxt 3).sto []) := by simp [st_law_1, hn]
  have t2 : xst (callN F (d + 9)) 0 st_law_2 [some sc, some (.ref 0), some (.int ((n : Nat) : Int)), none, none, none, none, none, none, none, none, none, none] ((s.nxt 3).sto []) = .next [some sc, some (.ref 0), some (.int ((n : Nat) : Int)), some (pl p), none, none, none, none, none, none, none, none, none] (s1.sto []) := by simp [st_law_2, ep]
  have t3 : xst (callN F (d + 9)) 0 st_law_3 [some sc, some (.ref 0), some (.int ((n : Nat) : Int)), some (pl p), none, none, none, none, none, none, none, none, none] (s1.sto []) = .next [some sc, some (.ref 0), some (.int ((n : Nat) : Int)), some (pl p), some (pl q), none, none, none, none, none, none, none, none] (s2.sto []) := by simp [st_law_3, eq]
  have t4 : xst (callN F (d + 9)) 0 st_law_4 [some sc, some (.ref 0), some (.int ((n : Nat) : Int)), some (pl p), some (pl q), none, none, none, none, none, none, none, none] (s2.sto []) = .next (V sc n p q x none none none none none none none) (s3.sto []) := by
    unfold st_law_4
    rw [xst_asg, place]
    simp
  have t5 : xst (callN F (d + 9)) 0 st_law_5 (V sc n p q x none none none none none none none) (s3.sto []) = .next (V sc n p q x none (some (fr a)) none none none none none) (s4.sto []) := by simp [st_law_5, V, pa]
  have t6 : xst (callN F (d + 9)) 0 st_law_6 (V sc n p q x none (some (fr a)) none none none none none) (s4.sto []) = .next (V sc n p q x none (some (fr a)) (some (fr b)) (some (fr c)) none none none) (s4.sto []) := by simp [st_law_6, V, vb, vc]
  obtain ⟨ad, adw⟩ := q_add (d := d + 6) (S := s4.sto []) gp gq
  obtain ⟨ml, mlw⟩ := q_mul (d := d + 6) (S := s4.sto []) gp gq n3
  obtain ⟨sb, sbw⟩ := q_sub (d := d + 5) (S := s4.sto []) gp gq
  obtain ⟨ss, _⟩ := q_sub (d := d + 5) (S := s4.sto []) gp gp
  obtain ⟨sl, slw⟩ := q_scaled (d := d + 6) (S := s4.sto []) (a := a) gp aq
  have sl0 := (q_scaled (d := d + 6) (S := s4.sto []) (a := 0) gp (by rw [qs_zero]; omega)).1
  have nrs : ∀ a ∈ p, (∀ i ∈ a.1, 0 ≤ i) ∧ ∀ b ∈ q, a.1.length = b.1.length ∧ (∀ i ∈ b.1, 0 ≤ i) := fun u mu => ⟨gp.nn u mu, fun v mv => ⟨by rw [(gp.row u mu).1, (gq.row v mv).1], gq.nn v mv⟩⟩
  have i1 := is (s4.sto []) adw (by decide) (show vp x (nf (p ++ q)) = b + c by rw [vp_nf, vp_app, hb, hc])
  have i2 := is (s4.sto []) mlw (by decide) (show vp x (nf (prods p q)) = b * c by rw [vp_nf, vp_prods nrs, hb, hc])
  have i3 := is (s4.sto []) sbw (by decide) (show vp x (nf (p ++ pneg q)) = b + -c by rw [vp_nf, vp_app, vp_neg, hb, hc])
  have i4 := is (s4.sto []) slw (by decide) (show vp x (pscale p a) = a * b by rw [vp_scale, hb])
  have adbc := x_add (d := d + 7) (S := s4.sto []) (a := b) (b := c) (by omega)
  have mlbc := x_mul (d := d + 7) (S := s4.sto []) (a := b) (b := c) (by omega)
  have mlab := x_mul (d := d + 7) (S := s4.sto []) (a := a) (b := b) (by omega)
  have mkc : callN F (d + 9) n_make [.int (0 - c.num), .int c.den] (s4.sto []) = .ok (fr (-c)) (s4.sto []) := by
    rw [x_make (den_ne c)]
    have e : Rat.divInt (0 - c.num) c.den = -c := by
      rw [Int.zero_sub, Rat.divInt_eq_div, Rat.intCast_neg]
      have z := Rat.num_divInt_den c
      rw [Rat.divInt_eq_div] at z
      rw [Rat.div_def, Rat.neg_mul, ← Rat.div_def, z]
    rw [e]
  have qn := qs_neg c
  have adbn := x_add (d := d + 7) (S := s4.sto []) (a := b) (b := -c) (by omega)
  rw [sub_self] at ss
  have en : ∀ S : Sto, eqV S (pl []) (.tup []) = some true := fun S => eqV_pl (p := []) (q := [])
  have sz0 : pscale p 0 = [] := by unfold pscale; simp
  rw [sz0] at sl0
  have t7 : xst (callN F (d + 9)) 0 st_law_7 (V sc n p q x none (some (fr a)) (some (fr b)) (some (fr c)) none none none) (s4.sto []) = .next (V sc n p q x none (some (fr a)) (some (fr b)) (some (fr c)) none none none) (s4.sto []) := by simp [st_law_7, V, ad, ml, i1, i2, adbc, mlbc]
  have t8 : xst (callN F (d + 9)) 0 st_law_8 (V sc n p q x none (some (fr a)) (some (fr b)) (some (fr c)) none none none) (s4.sto []) = .next (V sc n p q x none (some (fr a)) (some (fr b)) (some (fr c)) none none none) (s4.sto []) := by
    have mkc' : callN F (d + 9) n_make [.int (-c.num), .int c.den] (s4.sto []) = .ok (fr (-c)) (s4.sto []) := by rw [Int.zero_sub] at mkc; exact mkc
    simp [st_law_8, V, sb, ss, i3, mkc', adbn, en]
  have t9 : xst (callN F (d + 9)) 0 st_law_9 (V sc n p q x none (some (fr a)) (some (fr b)) (some (fr c)) none none none) (s4.sto []) = .next (V sc n p q x none (some (fr a)) (some (fr b)) (some (fr c)) none none none) (s4.sto []) := by simp [st_law_9, V, sl, sl0, i4, mlab, en]
  -- the index
  have hk := s4.drw_lt (m := (n : Int)) (by omega)
  obtain ⟨k, ek⟩ : ∃ k, k = s4.drw n := ⟨_, rfl⟩
  obtain ⟨s5, es5⟩ : ∃ s5, s5 = s4.nxt n := ⟨_, rfl⟩
  have kn : k < n := by omega
  have dk := x_draw (d := d + 6) (s := s4) (m := (n : Int)) (tl := []) (by omega)
  rw [← ek, ← es5] at dk
  have t10 : xst (callN F (d + 9)) 0 st_law_10 (V sc n p q x none (some (fr a)) (some (fr b)) (some (fr c)) none none none) (s4.sto []) = .next (V sc n p q x none (some (fr a)) (some (fr b)) (some (fr c)) (some (.int k)) none none) (s5.sto []) := by simp [st_law_10, V, dk]
  obtain ⟨nm, nmw⟩ := q_number (d := d + 8) (S := s5.sto []) (a := a) aq n1 n3
  have nm0 := (q_number (d := d + 8) (S := s5.sto []) (n := n) (a := 0) (by rw [qs_zero]; omega) n1 n3).1
  have nz0 : pnum n 0 = [] := by unfold pnum; simp
  rw [nz0] at nm0
  have vn : vp x (pnum n a) = a := by
    unfold pnum
    split
    · rename_i h; rw [h]; rfl
    · show a * mon x (List.replicate (n + 1) 0) + 0 = a
      rw [mon_rep, Rat.mul_one, Rat.add_zero]
  have vpar : ∀ i (h : i < x.length), i < n + 1 → vp x (ppar n i) = x[i] := fun i h hi => by
    show 1 * mon x (unitE n i) + 0 = _
    unfold unitE
    rw [Rat.one_mul, Rat.add_zero, mon_unit h hi]
  have i5 := is (s5.sto []) nmw (by decide) vn
  have i6 := is (s5.sto []) (pw_par (i := k)) (by decide) (vpar k (by omega) (by omega))
  have i7 := is (s5.sto []) (pw_par (i := n)) (by decide) (vpar n (by omega) (by omega))
  have pk := x_poly_parameter (d := d + 8) (S := s5.sto []) (n := n) (i := k) (by omega)
  have ptm := x_poly_time (d := d + 7) (S := s5.sto []) (n := n) (by omega)
  have ixk : ∀ S : Sto, ixV S (.lst (x.map fr)) (.int (k : Int)) = some (fr (x[k]'(by omega))) := fun S => by rw [zix_lst, itemAt_nat]; simp [show k < x.length by omega]
  have ixl : ∀ S : Sto, ixV S (.lst (x.map fr)) (.int (-1)) = some (fr (x[n]'(by omega))) := fun S => by
    rw [zix_lst, itemAt_last (by intro z; rw [List.map_eq_nil_iff] at z; rw [z] at xl; simp at xl), List.getLast?_eq_getElem?]
    simp [xl]
  have ge : PG n [] := ⟨shp_nil, by simp, fun t m => by cases m⟩
  have ade : callN F (d + 9) n_poly_add [pl p, .tup []] (s5.sto []) = .ok (pl p) (s5.sto []) := by
    have z := (q_add (d := d + 6) (S := s5.sto []) gp ge).1
    rw [List.append_nil, nf_id gp.shp] at z
    exact z
  have mle : callN F (d + 9) n_poly_mul [pl p, .tup []] (s5.sto []) = .ok (pl []) (s5.sto []) := by
    have z := (q_mul (d := d + 6) (S := s5.sto []) gp ge n3).1
    have e : nf (prods p []) = [] := by
      have : prods p [] = [] := by unfold prods; simp
      rw [this]
      exact nf_id shp_nil
    rw [e] at z
    exact z
  have fx := x_law_fixed (d := d + 3) (S := s5.sto []) (i := k) gp xq xl n3 kn aq
  have ig := x_law_integral (d := d + 4) (S := s5.sto []) gq xq xl n3
  have t11 : xst (callN F (d + 9)) 0 st_law_11 (V sc n p q x none (some (fr a)) (some (fr b)) (some (fr c)) (some (.int k)) none none) (s5.sto []) = .next (V sc n p q x none (some (fr a)) (some (fr b)) (some (fr c)) (some (.int k)) none none) (s5.sto []) := by simp [st_law_11, V, nm, nm0, i5, en]
  have t12 : xst (callN F (d + 9)) 0 st_law_12 (V sc n p q x none (some (fr a)) (some (fr b)) (some (fr c)) (some (.int k)) none none) (s5.sto []) = .next (V sc n p q x none (some (fr a)) (some (fr b)) (some (fr c)) (some (.int k)) none none) (s5.sto []) := by simp [st_law_12, V, pk, i6, ixk]
  have t13 : xst (callN F (d + 9)) 0 st_law_13 (V sc n p q x none (some (fr a)) (some (fr b)) (some (fr c)) (some (.int k)) none none) (s5.sto []) = .next (V sc n p q x none (some (fr a)) (some (fr b)) (some (fr c)) (some (.int k)) none none) (s5.sto []) := by simp [st_law_13, V, ptm, i7, ixl, ade, mle, en]
  have t14 : xst (callN F (d + 9)) 0 st_law_14 (V sc n p q x none (some (fr a)) (some (fr b)) (some (fr c)) (some (.int k)) none none) (s5.sto []) = .next (V sc n p q x none (some (fr a)) (some (fr b)) (some (fr c)) (some (.int k)) none none) (s5.sto []) := by simp [st_law_14, V, fx, ig]
  have t15 : xst (callN F (d + 9)) 0 st_law_15 (V sc n p q x none (some (fr a)) (some (fr b)) (some (fr c)) (some (.int k)) none none) (s5.sto []) = .next (V sc n p q x none (some (fr a)) (some (fr b)) (some (fr c)) (some (.int k)) (some (.ref 1)) none) (s5.sto [.lst ([].map ivv)]) := by simp [st_law_15, V]
  -- the domain
  have e0 := xst_for (C := callN F (d + 9)) (b := 0) (t := .name 6) (it := .rng1 (.bin .add (.var 2) (.cst (.int 1)))) (p := bk_law_0) (σ := V sc n p q x none (some (fr a)) (some (fr b)) (some (fr c)) (some (.int k)) (some (.ref 1)) none) (S := s5.sto [.lst ([].map ivv)]) (evi_rngN (C := callN F (d + 9)) (b := 0) (e := .bin .add (.var 2) (.cst (.int 1))) (σ := V sc n p q x none (some (fr a)) (some (fr b)) (some (fr c)) (some (.int k)) (some (.ref 1)) none) (S := s5.sto [.lst ([].map ivv)]) (n := n + 1) (by simp [V]) (by omega))
  obtain ⟨σ', S', e1, ⟨dom, s6, o6, o12, rfl, rfl, dl, dq, dh⟩, hj⟩ := for_fold (g := fun S => stands S []) (bind := bindT (.name 6)) (body := xss (callN F (d + 9)) 0 bk_law_0) (fun (i : Nat) => PV.int (i : Int))
    (fun (j : Nat) σ S' => ∃ (dom : List Iv) (s6 : DS) (o6 o12 : Option PV), σ = V sc n p q x o6 (some (fr a)) (some (fr b)) (some (fr c)) (some (.int k)) (some (.ref 1)) o12 ∧ S' = s6.sto [.lst (dom.map ivv)] ∧ dom.length = j ∧ (∀ y ∈ dom, MP.is y ≤ 5) ∧ ∀ i (h : i < dom.length) (h' : i < x.length), dom[i].has x[i]) (fun c _ => c + 1) (fun i c => c = i) (fun _ _ _ h => by obtain ⟨_, _, _, _, _, rfl, _⟩ := h; rfl) (List.range (n + 1)) 0 0 _ _ ⟨[], s5, none, none, rfl, rfl, rfl, (fun y m => by cases m), (fun i h => by simp at h)⟩ rfl fun i y j σ S' hi hp ⟨dom, s6, o6, o12, e1, e2, dl, dq, dh⟩ => by
      subst e1 e2
      rw [Nat.zero_add] at hp
      subst hp
      have il := (List.getElem?_eq_some_iff.mp hi).1
      have ey := (List.getElem?_eq_some_iff.mp hi).2
      rw [List.length_range] at il
      rw [List.getElem_range] at ey
      subst ey
      have jx : j < x.length := by omega
      have pr := x_pair (d := d + 5) (s := s6) (tl := [.lst (dom.map ivv)])
      obtain ⟨u, hu⟩ : ∃ u, u = (pairF s6).1 := ⟨_, rfl⟩
      have uq : qs u ≤ 5 := by rw [hu]; exact pairF_sz s6
      rw [← hu] at pr
      have xj := xq x[j] (List.getElem_mem jx)
      have ixj : ∀ S : Sto, ixV S (.lst (x.map fr)) (.int (j : Int)) = some (fr x[j]) := fun S => by rw [zix_lst, itemAt_nat]; simp [jx]
      have cmp := fun S => x_compare (d := d + 8) (S := S) (a := x[j]) (b := u) (by omega)
      obtain ⟨v, hv⟩ : ∃ v : Iv, v = if x[j] ≤ u then (x[j], u) else (u, x[j]) := ⟨_, rfl⟩
      have vq : MP.is v ≤ 5 := by rw [hv]; unfold MP.is; split <;> dsimp only <;> omega
      have vh : v.has x[j] := by
        rw [hv]
        unfold Iv.has
        split
        · dsimp only; exact ⟨Rat.le_refl, by assumption⟩
        · dsimp only; exact ⟨by grind, Rat.le_refl⟩
      have cl : dom.length < lenMax := by have : lenMax = 16777216 := rfl; omega
      have cell1 : ∀ (s : DS) (xs : List PV), (s.sto [.lst xs]).cells[1]? = some (.lst xs) := fun s xs => by simp [cells_sto]
      refine ⟨V sc n p q x (some (.int j)) (some (fr a)) (some (fr b)) (some (fr c)) (some (.int k)) (some (.ref 1)) o12, V sc n p q x (some (.int j)) (some (fr a)) (some (fr b)) (some (fr c)) (some (.int k)) (some (.ref 1)) (some (fr u)), (pairF s6).2.sto [.lst ((dom ++ [v]).map ivv)], by simp [V], .inl ?_, ⟨dom ++ [v], _, _, _, rfl, rfl, by simp [dl], ?_, ?_⟩, by omega⟩
      · have ap : Sto.wr ((pairF s6).2.sto [.lst (dom.map ivv)]) 0 1 (.lst (dom.map ivv ++ [ivv v])) true = (pairF s6).2.sto [.lst (dom.map ivv ++ [ivv v])] := app_sto (v := ivv v)
        by_cases h : x[j] ≤ u
        · rw [if_pos h] at hv
          have h' := cq_le.mpr h
          subst hv
          simp [bk_law_0, V, pr, cell1, ixj, cmp, h', cl, ap]
        · rw [if_neg h] at hv
          have h' : ¬ MP.cq x[j] u ≤ 0 := fun z => h (cq_le.mp z)
          subst hv
          simp [bk_law_0, V, pr, cell1, ixj, cmp, h', cl, ap]
      · intro w mw
        rcases List.mem_append.mp mw with mw | mw
        · exact dq w mw
        · rw [List.mem_singleton.mp mw]; exact vq
      · intro i hi hx'
        by_cases h : i < dom.length
        · rw [List.getElem_append_left h]
          exact dh i h hx'
        · have ei : i = j := by simp at hi; omega
          subst ei
          rw [List.getElem_append_right (by omega)]
          simp [dl]
          exact vh
  have hj : (List.range (n + 1)).foldl (fun c _ => c + 1) 0 = n + 1 := by simpa using hj
  rw [hj] at dl
  have t16 : xst (callN F (d + 9)) 0 st_law_16 (V sc n p q x none (some (fr a)) (some (fr b)) (some (fr c)) (some (.int k)) (some (.ref 1)) none) (s5.sto [.lst ([].map ivv)]) = .next (V sc n p q x o6 (some (fr a)) (some (fr b)) (some (fr c)) (some (.int k)) (some (.ref 1)) o12) (s6.sto [.lst (dom.map ivv)]) := e0.trans e1
  have din : ∀ r ∈ dom.zip x, r.1.has r.2 := fun r hr => by
    obtain ⟨i, hi, e⟩ := List.mem_iff_getElem.mp hr
    rw [List.length_zip] at hi
    rw [List.getElem_zip] at e
    subst e
    exact dh i (by omega) (by omega)
  have b1 := x_law_bounds (d := d + 2) (S := s6.sto [.lst (dom.map ivv)]) gp xq xl n3 dq dl din
  have b2 := x_law_bounds (d := d + 2) (S := s6.sto [.lst (dom.map ivv)]) gq xq xl n3 dq dl din
  have tup : ∀ S : Sto, S = s6.sto [.lst (dom.map ivv)] → biV S .tuple [.ref 1] = some (.tup (dom.map ivv)) := fun S e => by
    subst e
    simp [Sto.lst?, cells_sto]
  have tup := tup _ rfl
  have t17 : xst (callN F (d + 9)) 0 st_law_17 (V sc n p q x o6 (some (fr a)) (some (fr b)) (some (fr c)) (some (.int k)) (some (.ref 1)) o12) (s6.sto [.lst (dom.map ivv)]) = .ret (.bl true) (s6.sto [.lst (dom.map ivv)]) := by
    simp only [st_law_17, V, xst_ret, ev_and, ev_call, ev_bi, evs_cons, evs_nil, ev_var, List.getElem?_cons_succ, List.getElem?_cons_zero, xbd_ok, tup, xopt_some, b1, b2, boolK_bl, if_true, xst_ok]
  refine run_main (fd := ⟨1, 13, b_law⟩) (S' := s6.sto [.lst (dom.map ivv)]) ?_
  show xss (callN F (d + 9)) 0 b_law [some sc, none, none, none, none, none, none, none, none, none, none, none, none] _ = _
  unfold b_law
  rw [xss_step t0, xss_step t1, xss_step t2, xss_step t3, xss_step t4, xss_step t5, xss_step t6, xss_step t7, xss_step t8, xss_step t9, xss_step t10, xss_step t11, xss_step t12, xss_step t13, xss_step t14, xss_step t15, xss_step t16, xss_cons, t17, seq_ret]
end
abbrev depth : Nat := 30
theorem main_all (ns : List Int) (_ : ns.length ≤ 63) : ∃ S', callN F depth lawNo [.lst (ns.map .int)] ⟨[], false⟩ = .ok (.bl true) S' := main (d := 20) ns
end K06
end
set_option Elab.async false
set_option linter.all false
set_option maxRecDepth 100000
set_option maxHeartbeats 4000000
open PySem PySem.W PySem.Calls PyProof.Rows
theorem PySem.Challenge.cw_motionsheld_k06_polynomials_holds : PySem.Challenge.rw_motionsheld_k06_polynomials.Holds := by
  w_on; o_law
  refine HandSHeadRun.head_imp (r := K06.R) (q := view K06.R.prog K06.view) (H := K06.hk) (ob := K06.ob) (M := 40000) (loose := K06.loose) (d := HandSHeadRun.topDef K06.R.prog K06.lawAt) (kwd := []) K06.ob_eq K06.run
    (by kernel_rfl) (by kernel_rfl) (by kernel_rfl) (by rfl) (by first | assumption | decide +kernel) (by decide +kernel) ⟨rfl, rfl, rfl, rfl, rfl, by decide +kernel⟩ ?hw ?hc
  case hw => w_witness2
  case hc =>
    exact MP.law_walk (l := PySem.Challenge.rw_motionsheld_k06_polynomials) (T := K06.T) (D := K06.D) (XD := K06.XD) (n := 5) (li := K06.lawNo) (dd := K06.depth) (tl := K06.t_law) rfl (by kernel_rfl) ⟨rfl, by decide, by decide⟩ rfl K06.looks rfl rfl rfl (by decide +kernel) (by kernel_rfl) K06.bds K06.xins K06.bxs rfl rfl (by kernel_rfl) fun ns hl => K06.main_all ns hl

