import PyProof.Rows.All
import PySem.Str
import PySem.PyData
import PyProof.P3Statements
import HandS.Text
import HandS.ForMost
import HandS.Exc
import HandS.ExcOwn
import HandS.TryOnly
import HandS.WordsExc
import HandS.Walk
import HandS.Zip
import HandS.Wide
import HandS.WideBits
import HandS.Gcd
import HandS.IsInst
import HandS.Style
import HandS.Flow
import HandS.Defaults
import HandS.More
import HandS.DictTup
import HandS.SetKeys
import HandS.SortInts
import HandS.TupAny
import HandS.TupMul
import HandS.TryMany
import HandS.FStr
import HandS.TupLe
import HandS.Deep
import PyProof.Rows.SeqMore
import HandS.Conv
import HandS.SortOrd
import KE.KDictSum
import HandS.DictSub
import PyProof.WalksMore
import HandS.ExcIs
import HandS.Codes
import HandS.NoneIn
import HandS.Small
import HandS.HeadHook2
import HandS.HeadEnd
import HandS.Head3
import PyProof.EqLayable
import PySem.Challenge.RW_motionsheld_k04_trees
section
set_option linter.all false
/-! MP: a small language of pure values. Its runs are total functions; MPSound shows that the model's runs of the same text go alike. -/
namespace MP
open PySem (Str PyData)
/-- a value: a tuple is its parts; what may change is a number of the store -/
inductive PV where
  | non | bl (b : Bool) | int (i : Int) | str (x : Str) | tup (xs : List PV) | lst (xs : List PV) | obj (c : Nat) (fs : List PV) | ref (k : Nat)
mutual
def PV.beq : PV → PV → Bool
  | .non, .non => true
  | .bl a, .bl b => a == b
  | .int a, .int b => a == b
  | .str a, .str b => decide (a = b)
  | .tup a, .tup b => PV.beqs a b
  | .lst a, .lst b => PV.beqs a b
  | .obj c a, .obj d b => c == d && PV.beqs a b
  | .ref a, .ref b => a == b
  | _, _ => false
def PV.beqs : List PV → List PV → Bool
  | [], [] => true
  | a :: as, b :: bs => PV.beq a b && PV.beqs as bs
  | _, _ => false
end
mutual
theorem PV.beq_eq : ∀ {a b : PV}, PV.beq a b = true → a = b
  | .non, b, h => by cases b <;> simp_all [PV.beq]
  | .bl _, b, h => by cases b <;> simp_all [PV.beq]
  | .int _, b, h => by cases b <;> simp_all [PV.beq]
  | .str _, b, h => by cases b <;> simp_all [PV.beq]
  | .tup xs, b, h => by
    cases b with
    | tup ys => rw [PV.beqs_eq (show PV.beqs xs ys = true by simpa [PV.beq] using h)]
    | _ => simp [PV.beq] at h
  | .lst xs, b, h => by
    cases b with
    | lst ys => rw [PV.beqs_eq (show PV.beqs xs ys = true by simpa [PV.beq] using h)]
    | _ => simp [PV.beq] at h
  | .obj c xs, b, h => by
    cases b with
    | obj d ys =>
      have h' : c = d ∧ PV.beqs xs ys = true := by simpa [PV.beq] using h
      rw [PV.beqs_eq h'.2, h'.1]
    | _ => simp [PV.beq] at h
  | .ref _, b, h => by cases b <;> simp_all [PV.beq]
theorem PV.beqs_eq : ∀ {a b : List PV}, PV.beqs a b = true → a = b
  | [], [], _ => rfl
  | [], _ :: _, h => by simp [PV.beqs] at h
  | _ :: _, [], h => by simp [PV.beqs] at h
  | x :: xs, y :: ys, h => by
    have h' : PV.beq x y = true ∧ PV.beqs xs ys = true := by simpa [PV.beqs] using h
    rw [PV.beq_eq h'.1, PV.beqs_eq h'.2]
end
mutual
theorem PV.beq_refl : ∀ a : PV, PV.beq a a = true
  | .non => rfl
  | .bl _ => by simp [PV.beq]
  | .int _ => by simp [PV.beq]
  | .str _ => by simp [PV.beq]
  | .tup xs => by simp [PV.beq, PV.beqs_refl xs]
  | .lst xs => by simp [PV.beq, PV.beqs_refl xs]
  | .obj _ xs => by simp [PV.beq, PV.beqs_refl xs]
  | .ref _ => by simp [PV.beq]
theorem PV.beqs_refl : ∀ a : List PV, PV.beqs a a = true
  | [] => rfl
  | x :: xs => by simp [PV.beqs, PV.beq_refl x, PV.beqs_refl xs]
end
instance : DecidableEq PV := fun a b =>
  if h : PV.beq a b = true then .isTrue (PV.beq_eq h) else .isFalse fun e => h (e ▸ PV.beq_refl a)
abbrev Key := Sum Int Str
/-- a thing that may change (ro: a list that is only read) -/
inductive Cell where
  | lst (xs : List PV) | ro (xs : List PV) | dT (kvs : List (List Int × PV)) | dK (kvs : List (Key × PV)) | ins (c : Nat) (fs : List PV)
  deriving DecidableEq
mutual
def PV.pure : PV → Bool
  | .ref _ => false
  | .tup xs => PV.pures xs
  | .lst xs => PV.pures xs
  | .obj _ xs => PV.pures xs
  | _ => true
def PV.pures : List PV → Bool
  | [] => true
  | x :: xs => x.pure && PV.pures xs
end
mutual
def PV.und (n : Nat) : PV → Bool
  | .ref k => decide (k < n)
  | .tup xs => PV.unds n xs
  | .lst xs => PV.unds n xs
  | .obj _ xs => PV.unds n xs
  | _ => true
def PV.unds (n : Nat) : List PV → Bool
  | [] => true
  | x :: xs => x.und n && PV.unds n xs
end
def Cell.und (n : Nat) : Cell → Bool
  | .lst xs => PV.unds n xs
  | .ro xs => PV.unds n xs
  | .dT kvs => PV.unds n (kvs.map (·.2))
  | .dK kvs => PV.unds n (kvs.map (·.2))
  | .ins _ fs => PV.unds n fs
structure Sto where
  cells : List Cell
  dirty : Bool
def Sto.push (S : Sto) (c : Cell) : Sto := ⟨S.cells ++ [c], S.dirty⟩
/-- the cell k is written with a value (p: it is pure); b: what stood at the def's entry -/
def Sto.wr (S : Sto) (b k : Nat) (c : Cell) (p : Bool) : Sto := ⟨S.cells.set k c, S.dirty || (decide (k < b) && !p)⟩
def Sto.lst? (S : Sto) (k : Nat) : Option (List PV) := match S.cells[k]? with
  | some (.lst xs) => some xs
  | some (.ro xs) => some xs
  | _ => none
def Sto.len (S : Sto) : Nat := S.cells.length
inductive R (α : Type) where
  | ok (a : α) (S : Sto) | exc (c : Nat) (as : List PV) (S : Sto) | bad
def R.bd {α β : Type} (r : R α) (f : α → Sto → R β) : R β := match r with
  | .ok a S => f a S
  | .exc c as S => .exc c as S
  | .bad => .bad
abbrev Env := List (Option PV)
inductive RS where
  | next (σ : Env) (S : Sto) | ret (v : PV) (S : Sto) | brk (σ : Env) (S : Sto) | cont (σ : Env) (S : Sto) | exc (c : Nat) (as : List PV) (σ : Env) (S : Sto) | bad
/-- an expression's run within a statement -/
def R.st {α : Type} (r : R α) (σ : Env) (f : α → Sto → RS) : RS := match r with
  | .ok a S => f a S
  | .exc c as S => .exc c as σ S
  | .bad => .bad
/-! ### the text -/
inductive Op where | add | sub | mul | fdiv | mod | pow | shl
inductive Cm where | eq | ne | lt | le | gt | ge | isn | nisn | inn | nin
/-- built-in functions -/
inductive Bi where | abs | int | len | list | tuple | gcd | max2 | min2 | str | sum | sorted | all | any | bool | maxL | minL
/-- built-in types, for isinstance -/
inductive Ty where | int | bool | str | tup
mutual
/-- a target of names -/
inductive Tg where
  | name (i : Nat) | tup (ts : Tgs)
inductive Tgs where
  | nil | cons (t : Tg) (ts : Tgs)
end
mutual
inductive E where
  | var (i : Nat)
  | cst (v : PV)
  | tup (es : Es)
  | lst (es : Es)
  | bin (o : Op) (a b : E)
  | neg (a : E)
  | not (a : E)
  | and (a b : E)
  | or (a b : E)
  | cmp (o : Cm) (a b : E)
  | chain (o o' : Cm) (a b c : E)
  | ife (c a b : E)
  | ix (a b : E)
  | slc (a : E) (lo hi : Eo)
  | call (f : Nat) (es : Es)
  | bi (f : Bi) (es : Es)
  | isi (a : E) (t : Ty)
  | eat (i j : Nat)
  | eisi (i : Nat)
  | lc (t : Tg) (own : List Nat) (it : It) (c : Eo) (e : E)
  /-- a list that is made here and may be changed -/
  | new (e : E)
  /-- a list that is no longer changed -/
  | frz (e : E)
  /-- an attribute, by the classes that have it and its places there -/
  | att (e : E) (ps : List (Nat × Nat))
  /-- a method, by its def's number, of the classes cs -/
  | meth (f : Nat) (cs : List Nat) (e : E) (es : Es)
  /-- a new instance of the class c, f its __init__; fr: it does not change afterwards -/
  | mk (f c : Nat) (fr : Bool) (es : Es)
  | isr (e : E) (c : Nat)
  | dnew (t : Bool)
  | dget (d k x : E)
  | sdef (d k x : E)
  | disp (ks : List PV) (es : Es)
  | fstr (es : Es)
  | maxD (e d : E)
inductive Eo where
  | none | some (e : E)
inductive Es where
  | nil | cons (e : E) (es : Es)
/-- what a for walks -/
inductive It where
  | seq (e : E) | rng1 (e : E) | rng2 (a b : E) | rng3 (a b : E) | zip (a b : E) | enum (e : E)
end
/-- a target -/
inductive Tt where
  | of (t : Tg) | sub (a i : E) | att (a : E) (ps : List (Nat × Nat))
mutual
inductive St where
  | asg (t : Tt) (e : E)
  | par (i j : Nat) (a b : E)
  | aug (i : Nat) (o : Op) (e : E)
  | augA (a : E) (ps : List (Nat × Nat)) (e : E)
  | expr (e : E)
  | append (a e : E)
  | ifs (c : E) (a b : Ss)
  | fors (t : Tg) (it : It) (b : Ss)
  | whiles (c : E) (b : Ss)
  | ret (e : E)
  | retN
  | raise (c : Nat) (es : Es)
  | tryo (b : Ss) (c : Nat) (i : Option Nat) (h : Ss)
  | pass | brk | cont
inductive Ss where
  | nil | cons (s : St) (ss : Ss)
end
/-! ### operators -/
def lenMax : Nat := 16777216
/-- a product's size -/
def mulOk (a b : Int) : Bool := decide (a.natAbs < 2 ^ 64) || decide (b.natAbs < 2 ^ 64) || decide (a.natAbs.log2 + b.natAbs.log2 + 2 ≤ 134217728)
def shlOk (a b : Int) : Bool := decide (0 ≤ b) && decide ((a.natAbs.log2 : Int) + 1 + b ≤ 134217728)
def powOk (a b : Int) : Bool := decide (0 ≤ b) && decide (b ≤ 1000000) && decide (a.natAbs < 2 ^ 64)
def divOk (b : Int) : Bool := decide (b ≠ 0)
/-- the items of a list or tuple that stays or stands in the store -/
def seqOf (S : Sto) : PV → Option (List PV)
  | .tup xs => some xs
  | .lst xs => some xs
  | .ref k => S.lst? k
  | _ => none
def lstOf (S : Sto) : PV → Option (List PV)
  | .lst xs => some xs
  | .ref k => S.lst? k
  | _ => none
/-- an operator on values -/
def opV (S : Sto) (o : Op) (x y : PV) : Option PV := match o, x, y with
  | .add, .int a, .int b => some (.int (a + b))
  | .sub, .int a, .int b => some (.int (a - b))
  | .mul, .int a, .int b => if mulOk a b then some (.int (a * b)) else none
  | .fdiv, .int a, .int b => if divOk b then some (.int (a.fdiv b)) else none
  | .mod, .int a, .int b => if b = 0 then none else some (.int (a.fmod b))
  | .pow, .int a, .int b => if powOk a b then some (.int (a ^ b.toNat)) else none
  | .shl, .int a, .int b => if shlOk a b then some (.int (a * 2 ^ b.toNat)) else none
  | .add, .str a, .str b => if a.length + b.length ≤ lenMax then some (.str (a ++ b)) else none
  | .add, .tup a, .tup b => if a.length + b.length ≤ lenMax then some (.tup (a ++ b)) else none
  | .mul, .tup a, .int k => if !a.isEmpty && decide (2 ≤ k) && decide (k ≤ 1000) && decide (a.length ≤ 1000) then some (.tup (List.replicate k.toNat a).flatten) else none
  | .add, a, b => match lstOf S a, lstOf S b with
    | some xs, some ys => if xs.length + ys.length ≤ lenMax then some (.lst (xs ++ ys)) else none
    | _, _ => none
  | _, _, _ => none
mutual
def PV.toD : PV → Option PyData
  | .non => some .none
  | .bl b => some (.bool b)
  | .int i => some (.int i)
  | .str x => some (.str x)
  | .tup xs => (PV.toDs xs).map .tuple
  | .lst xs => (PV.toDs xs).map .list
  | .obj _ _ => none
  | .ref _ => none
def PV.toDs : List PV → Option (List PyData)
  | [] => some []
  | x :: xs => match x.toD, PV.toDs xs with
    | some d, some ds => some (d :: ds)
    | _, _ => none
end
def toDS (S : Sto) : PV → Option PyData
  | .ref k => match S.lst? k with
    | some xs => (PV.toDs xs).map .list
    | none => none
  | v => v.toD
def shaped (d : PyData) : Bool := d.canLay0 && decide (d.depth ≤ 64)
def eqV (S : Sto) (x y : PV) : Option Bool := match toDS S x, toDS S y with
  | some d, some e => if shaped d && shaped e then some (d.eqv e) else none
  | _, _ => none
/-- a flat value: neither a tuple nor a number of the store -/
def PV.flat : PV → Bool
  | .ref _ => false
  | .tup _ => false
  | .lst _ => false
  | .obj _ _ => false
  | _ => true
def PV.eqF : PV → PV → Bool
  | .non, .non => true
  | .bl a, .bl b => a == b
  | .bl a, .int b => (if a then 1 else 0) == b
  | .int a, .bl b => a == (if b then 1 else 0)
  | .int a, .int b => a == b
  | .str a, .str b => a == b
  | _, _ => false
/-- `in` over a list of data of any depth -/
def inDeep (S : Sto) (x y : PV) : Option Bool := match toDS S x, toDS S y with
  | some d, some (.list ds) => if shaped d && shaped (.list ds) then some (ds.any fun z => z.eqv d) else none
  | _, _ => none
def inSeq (S : Sto) (x y : PV) : Option Bool := match y with
  | .str z => match x with
    | .str z1 => match z1.cps.toList with
      | [c] => some (decide (c ∈ z.cps.toList))
      | _ => none
    | _ => none
  | _ => match seqOf S y with
    | some xs => if x.flat && xs.all PV.flat then some (xs.any fun z => z.eqF x) else inDeep S x y
    | none => none
def intsOf : List PV → Option (List Int)
  | [] => some []
  | .int i :: xs => (intsOf xs).map (i :: ·)
  | _ => none
def blsOf : List PV → Option (List Bool)
  | [] => some []
  | .bl i :: xs => (blsOf xs).map (i :: ·)
  | _ => none
/-- the order of rows of ints -/
def lexI : List Int → List Int → Bool
  | [], [] => false
  | [], _ :: _ => true
  | _ :: _, [] => false
  | a :: as, b :: bs => if a = b then lexI as bs else decide (a < b)
def cmI (f : Int → Int → Bool) : PV → PV → Option Bool
  | .int a, .int b => some (f a b)
  | _, _ => none
def cmL : PV → PV → Option Bool
  | .int a, .int b => some (decide (a < b))
  | .tup xs, .tup ys => match intsOf xs, intsOf ys with
    | some as, some bs => some (lexI as bs)
    | _, _ => none
  | _, _ => none
def isV (x y : PV) : Option Bool := match y with
  | .non => some (decide (x = .non))
  | .bl d => match x with
    | .bl c => some (decide (c = d))
    | _ => none
  | _ => none
def cmV (S : Sto) (o : Cm) (x y : PV) : Option Bool := match o with
  | .eq => eqV S x y
  | .ne => (eqV S x y).map (!·)
  | .lt => cmL x y
  | .le => cmI (fun a b => decide (a ≤ b)) x y
  | .gt => cmI (fun a b => decide (b < a)) x y
  | .ge => cmI (fun a b => decide (b ≤ a)) x y
  | .isn => isV x y
  | .nisn => (isV x y).map (!·)
  | .inn => inSeq S x y
  | .nin => (inSeq S x y).map (!·)
def truV (S : Sto) : PV → Option Bool
  | .non => some false
  | .bl b => some b
  | .int i => some (i != 0)
  | .str x => if x.length ≤ lenMax then some (x.length != 0) else none
  | .tup xs => some (!xs.isEmpty)
  | .lst xs => some (!xs.isEmpty)
  | .obj _ _ => none
  | .ref k => match S.cells[k]? with
    | some (.lst xs) => some (!xs.isEmpty)
    | some (.ro xs) => some (!xs.isEmpty)
    | _ => none
/-- the place that an index tells in a row of so many things -/
def placeOf (len : Nat) (i : Int) : Option Nat :=
  if 0 ≤ i then (if i < len then some i.toNat else none) else if -(len : Int) ≤ i then some (i + len).toNat else none
def itemAt {α : Type} (xs : List α) (i : Int) : Option α := (placeOf xs.length i).bind fun j => xs[j]?
/-- a key of a dict -/
def keyOf : PV → Option Key
  | .int i => some (.inl i)
  | .str x => some (.inr x)
  | _ => none
def valK {κ : Type} [DecidableEq κ] (kvs : List (κ × PV)) (k : κ) : Option PV := (kvs.find? fun kv => decide (kv.1 = k)).map (·.2)
/-- in its place, or at the end -/
def putK {κ : Type} [DecidableEq κ] (kvs : List (κ × PV)) (k : κ) (v : PV) : List (κ × PV) :=
  if (kvs.any fun kv => decide (kv.1 = k)) = true then kvs.map (fun kv => if kv.1 = k then (kv.1, v) else kv) else kvs ++ [(k, v)]
/-- what a dict holds: none if it cannot be asked -/
def dAsk (S : Sto) (k : Nat) (y : PV) : Option (Option PV) := match S.cells[k]? with
  | some (.dK kvs) => (keyOf y).map fun q => valK kvs q
  | some (.dT kvs) => match y with
    | .tup ys => (intsOf ys).map fun q => valK kvs q
    | _ => none
  | _ => none
def dPut (S : Sto) (k : Nat) (y v : PV) : Option Cell := match S.cells[k]? with
  | some (.dK kvs) => if kvs.length < lenMax then (keyOf y).map fun q => .dK (putK kvs q v) else none
  | some (.dT kvs) => match y with
    | .tup ys => if kvs.length < lenMax then (intsOf ys).map fun q => .dT (putK kvs q v) else none
    | _ => none
  | _ => none
def ixV (S : Sto) (x y : PV) : Option PV := match x, y with
  | .tup xs, .int i => itemAt xs i
  | .lst xs, .int i => itemAt xs i
  | .str z, .int i => if z.length ≤ lenMax then (itemAt z.cps.toList i).map fun c => .str ⟨#[c]⟩ else none
  | .ref k, y => match S.lst? k, y with
    | some xs, .int i => itemAt xs i
    | none, y => (dAsk S k y).bind id
    | _, _ => none
  | _, _ => none
/-- where a slice begins or ends -/
def edge (len d : Nat) : Option Int → Nat
  | none => d
  | some v => if v < 0 then (v + (len : Int)).toNat else min v.toNat len
def cut {α : Type} (xs : List α) (lo hi : Option Int) : List α := (xs.drop (edge xs.length 0 lo)).take (edge xs.length xs.length hi - edge xs.length 0 lo)
def slV (S : Sto) (x : PV) (lo hi : Option Int) : Option PV := match x with
  | .tup xs => some (.tup (cut xs lo hi))
  | .lst xs => some (.lst (cut xs lo hi))
  | .ref k => (S.lst? k).map fun xs => .lst (cut xs lo hi)
  | .str z => if z.length ≤ lenMax then some (.str ⟨(cut z.cps.toList lo hi).toArray⟩) else none
  | _ => none
def isTy : PV → Ty → Option Bool
  | .non, _ => some false
  | .bl _, .bool => some true
  | .bl _, .int => some true
  | .bl _, _ => some false
  | .int _, .int => some true
  | .int _, _ => some false
  | .str _, .str => some true
  | .str _, _ => some false
  | .tup _, .tup => some true
  | .tup _, _ => some false
  | _, _ => none
/-- rows of ints, none of them empty -/
def rowsOf : List PV → Option (List (List Int))
  | [] => some []
  | .tup ys :: xs => match intsOf ys, rowsOf xs with
    | some y, some r => if y.isEmpty then none else some (y :: r)
    | _, _ => none
  | _ => none
/-- x put behind what is not above it -/
def insL {α : Type} (lt : α → α → Bool) (x : α) : List α → List α
  | [] => [x]
  | y :: ys => if lt x y then x :: y :: ys else y :: insL lt x ys
def sortL {α : Type} (lt : α → α → Bool) (xs : List α) : List α := xs.foldl (fun acc x => insL lt x acc) []
def rowPV (r : List Int) : PV := .tup (r.map .int)
/-- sorted: rows of ints, or ints -/
def sortV (xs : List PV) : Option (List PV) := match intsOf xs with
  | some ns => some ((sortL (fun a b => decide (a < b)) ns).map .int)
  | none => (rowsOf xs).map fun rs => (sortL lexI rs).map rowPV
def biV (S : Sto) (f : Bi) (xs : List PV) : Option PV := match f, xs with
  | .abs, [.int i] => some (.int (if i < 0 then -i else i))
  | .int, [.int i] => some (.int i)
  | .int, [.bl b] => some (.int (if b then 1 else 0))
  | .int, [.str z] => if z.length ≤ 640 then (PySem.intText? z).map .int else none
  | .len, [.tup ys] => some (.int ys.length)
  | .len, [.str z] => if z.length ≤ lenMax then some (.int z.length) else none
  | .len, [v] => (lstOf S v).map fun ys => .int ys.length
  | .list, [.ref k] => match S.cells[k]? with
    | some (.lst ys) => some (.lst ys)
    | some (.ro ys) => some (.lst ys)
    | some (.dT kvs) => some (.lst (kvs.map fun p => rowPV p.1))
    | _ => none
  | .list, [v] => (seqOf S v).map .lst
  | .tuple, [v] => (seqOf S v).map .tup
  | .gcd, [.int a, .int b] => some (.int ((Nat.gcd a.natAbs b.natAbs : Nat) : Int))
  | .max2, [.int a, .int b] => some (.int (if b > a then b else a))
  | .min2, [.int a, .int b] => some (.int (if b < a then b else a))
  | .str, [.int a] => if a.natAbs.log2 < 1920 then some (.str (toString a)) else none
  | .sum, [v] => ((seqOf S v).bind intsOf).map fun ns => .int ns.sum
  | .all, [v] => ((lstOf S v).bind blsOf).map fun ns => .bl (ns.all id)
  | .any, [v] => ((lstOf S v).bind blsOf).map fun ns => .bl (ns.any id)
  | .sorted, [.ref k] => match S.cells[k]? with
    | some (.dT kvs) => if (kvs.map (·.1)).any (·.isEmpty) then none else some (.lst ((sortL lexI (kvs.map (·.1))).map rowPV))
    | some (.lst ys) => (sortV ys).map .lst
    | some (.ro ys) => (sortV ys).map .lst
    | _ => none
  | .sorted, [.lst ys] => (sortV ys).map .lst
  | _, _ => none
/-- max(dict with int keys, default=..) -/
def maxDV (S : Sto) (x d : PV) : Option PV := match x with
  | .ref k => match S.cells[k]? with
    | some (.dK kvs) => match intsOf (kvs.map fun p => match p.1 with
        | .inl i => PV.int i
        | .inr z => PV.str z) with
      | some [] => some d
      | some (i :: is) => some (.int (is.foldl max i))
      | none => none
    | _ => none
  | .lst xs => match intsOf xs with
    | some [] => some d
    | some (i :: is) => some (.int (is.foldl max i))
    | none => none
  | _ => none
def attV (S : Sto) (v : PV) (ps : List (Nat × Nat)) : Option PV := match v with
  | .obj c fs => (ps.lookup c).bind fun p => fs[p]?
  | .ref k => match S.cells[k]? with
    | some (.ins c fs) => (ps.lookup c).bind fun p => fs[p]?
    | _ => none
  | _ => none
/-- an instance's class -/
def clsV (S : Sto) (v : PV) : Option Nat := match v with
  | .obj c _ => some c
  | .ref k => match S.cells[k]? with
    | some (.ins c _) => some c
    | _ => none
  | _ => none
/-- an attribute is stored: in its place, or as the next one -/
def putA (fs : List PV) (p : Nat) (v : PV) : Option (List PV) := if p < fs.length then some (fs.set p v) else if p = fs.length then some (fs ++ [v]) else none
/-- what is walked: the items; the lists that must stand as they are meanwhile -/
abbrev Walk := List PV × List (Nat × List PV)
def stands (S : Sto) (g : List (Nat × List PV)) : Bool := g.all fun p => decide (S.lst? p.1 = some p.2)
def walkV (S : Sto) (v : PV) : Option Walk := match v with
  | .tup xs => some (xs, [])
  | .lst xs => some (xs, [])
  | .ref k => (S.lst? k).map fun xs => (xs, [(k, xs)])
  | _ => none
def small (i : Int) : Bool := decide (-(2 ^ 62) ≤ i) && decide (i < 2 ^ 62)
def rngL (a : Int) (n : Nat) : List PV := (List.range n).map fun (i : Nat) => .int (a + (i : Int))
def rngD (a : Int) (n : Nat) : List PV := (List.range n).map fun (i : Nat) => .int (a - (i : Int))
def enumL : Nat → List PV → List PV
  | _, [] => []
  | i, x :: xs => .tup [.int (i : Int), x] :: enumL (i + 1) xs
def pairs (xs ys : List PV) : List PV := (xs.zip ys).map fun r => .tup [r.1, r.2]
def isTup : PV → Bool
  | .tup _ => true
  | _ => false
def zipV (S : Sto) (v u : PV) : Option Walk := match isTup v, isTup u with
  | true, true => match walkV S v, walkV S u with
    | some w, some w' => some (pairs w.1 w'.1, w.2 ++ w'.2)
    | _, _ => none
  | false, false => match walkV S v, walkV S u with
    | some w, some w' => some (pairs w.1 w'.1, w.2 ++ w'.2)
    | _, _ => none
  | _, _ => none
def enumV (S : Sto) (v : PV) : Option Walk := match isTup v, walkV S v with
  | false, some w => some (enumL 0 w.1, w.2)
  | _, _ => none
mutual
def bindT : Tg → PV → Env → Option Env
  | .name i, v, σ => some (σ.set i (some v))
  | .tup ts, .tup xs, σ => bindTs ts xs σ
  | .tup ts, .lst xs, σ => bindTs ts xs σ
  | .tup _, _, _ => none
def bindTs : Tgs → List PV → Env → Option Env
  | .nil, [], σ => some σ
  | .cons t ts, x :: xs, σ => match bindT t x σ with
    | some σ' => bindTs ts xs σ'
    | none => none
  | _, _, _ => none
end
def wipe (σ : Env) : List Nat → Env
  | [] => σ
  | v :: vs => (wipe σ vs).set v none
def opt {α : Type} (o : Option α) (S : Sto) : R α := match o with
  | some a => .ok a S
  | none => .bad
/-- a list comprehension's turns -/
def lcLoop (g : Sto → Bool) (bind : PV → Option Env) (test : Env → Sto → R Bool) (elt : Env → Sto → R PV) : List PV → List PV → Sto → R (List PV)
  | [], acc, S => if g S then .ok acc S else .bad
  | x :: xs, acc, S => if g S then (match bind x with
    | none => .bad
    | some σ => (test σ S).bd fun c S1 => match c with
      | true => (elt σ S1).bd fun y S2 => if acc.length < lenMax then lcLoop g bind test elt xs (acc ++ [y]) S2 else .bad
      | false => lcLoop g bind test elt xs acc S1) else .bad
def noExc {α : Type} (r : R α) : R α := match r with
  | .exc _ _ _ => .bad
  | r => r
/-- the parts of an f-string -/
def fparts : List PV → Option Str
  | [] => some Str.empty
  | .str x :: r => (fparts r).map (x ++ ·)
  | .int i :: r => if i.natAbs.log2 < 1920 then (fparts r).map (Str.ofString (toString i) ++ ·) else none
  | _ => none
def dispK : List PV → List PV → Option (List (Key × PV))
  | [], [] => some []
  | k :: ks, v :: vs => match keyOf k, dispK ks vs with
    | some q, some r => if r.all fun p => decide (p.1 ≠ q) then some ((q, v) :: r) else none
    | _, _ => none
  | _, _ => none
def thaw (v : PV) (S : Sto) : R PV := match v with
  | .lst xs => .ok (.ref S.len) (S.push (.lst xs))
  | _ => .bad
def freeze (v : PV) (S : Sto) : R PV := match v with
  | .ref k => match S.cells[k]? with
    | some (.lst xs) => .ok (.lst xs) ⟨S.cells.set k (.ro xs), S.dirty⟩
    | _ => .bad
  | _ => .bad
/-- behind __init__: k the instance's number -/
def made (k : Nat) (fr : Bool) (v : PV) (S : Sto) : R PV := match v with
  | .non => if fr then (match S.cells[k]? with
      | some (.ins c fs) => if PV.pures fs && !S.dirty && decide (S.cells.length = k + 1) then .ok (.obj c fs) ⟨S.cells.take k, S.dirty⟩ else .bad
      | _ => .bad) else .ok (.ref k) S
  | _ => .bad
def sdefR (S : Sto) (b : Nat) (d k x : PV) : R PV := match d with
  | .ref j => match dAsk S j k with
    | some (some v) => .ok v S
    | some none => match dPut S j k x with
      | some c => .ok x (S.wr b j c x.pure)
      | none => .bad
    | none => .bad
  | _ => .bad
section
variable (C : Nat → List PV → Sto → R PV) (b : Nat)
mutual
def ev : E → Env → Sto → R PV
  | .var i, σ, S => match σ[i]? with
    | some (some v) => .ok v S
    | _ => .bad
  | .cst v, _, S => .ok v S
  | .tup es, σ, S => (evs es σ S).bd fun vs S1 => .ok (.tup vs) S1
  | .lst es, σ, S => (evs es σ S).bd fun vs S1 => .ok (.lst vs) S1
  | .bin o x y, σ, S => (ev x σ S).bd fun v S1 => (ev y σ S1).bd fun u S2 => opt (opV S2 o v u) S2
  | .neg x, σ, S => (ev x σ S).bd fun v S1 => match v with
    | .int i => .ok (.int (-i)) S1
    | _ => .bad
  | .not x, σ, S => (ev x σ S).bd fun v S1 => (opt (truV S1 v) S1).bd fun c S2 => .ok (.bl (!c)) S2
  | .and x y, σ, S => (ev x σ S).bd fun v S1 => match v with
    | .bl true => ev y σ S1
    | .bl false => .ok (.bl false) S1
    | _ => .bad
  | .or x y, σ, S => (ev x σ S).bd fun v S1 => match v with
    | .bl true => .ok (.bl true) S1
    | .bl false => ev y σ S1
    | _ => .bad
  | .cmp o x y, σ, S => (ev x σ S).bd fun v S1 => (ev y σ S1).bd fun u S2 => (opt (cmV S2 o v u) S2).bd fun c S3 => .ok (.bl c) S3
  | .chain o o' x y z, σ, S => (ev x σ S).bd fun v S1 => (ev y σ S1).bd fun u S2 => (opt (cmV S2 o v u) S2).bd fun c S3 => match c with
    | true => (ev z σ S3).bd fun w S4 => (opt (cmV S4 o' u w) S4).bd fun d S5 => .ok (.bl d) S5
    | false => .ok (.bl false) S3
  | .ife c x y, σ, S => (evT c σ S).bd fun d S1 => match d with
    | true => ev x σ S1
    | false => ev y σ S1
  | .ix x y, σ, S => (ev x σ S).bd fun v S1 => (ev y σ S1).bd fun u S2 => opt (ixV S2 v u) S2
  | .slc x lo hi, σ, S => (ev x σ S).bd fun v S1 => (evo lo σ S1).bd fun l S2 => (evo hi σ S2).bd fun h S3 => opt (slV S3 v l h) S3
  | .call f es, σ, S => (evs es σ S).bd fun vs S1 => C f vs S1
  | .bi f es, σ, S => (evs es σ S).bd fun vs S1 => opt (biV S1 f vs) S1
  | .isi x t, σ, S => (ev x σ S).bd fun v S1 => (opt (isTy v t) S1).bd fun c S2 => .ok (.bl c) S2
  | .eat i j, σ, S => match σ[i]? with
    | some (some (.tup (_ :: as))) => opt as[j]? S
    | _ => .bad
  | .eisi i, σ, S => match σ[i]? with
    | some (some (.tup (_ :: _))) => .ok (.bl true) S
    | _ => .bad
  | .lc t own it c e, σ, S => (evi it σ S).bd fun w S1 => noExc ((lcLoop (fun S => stands S w.2) (fun x => bindT t x (wipe σ own)) (evc c) (ev e) w.1 [] S1).bd fun ys S2 => .ok (.lst ys) S2)
  | .new e, σ, S => (ev e σ S).bd thaw
  | .frz e, σ, S => (ev e σ S).bd freeze
  | .att e ps, σ, S => (ev e σ S).bd fun v S1 => opt (attV S1 v ps) S1
  | .meth f cs e es, σ, S => (ev e σ S).bd fun v S1 => if ((clsV S1 v).any fun c => cs.contains c) then (evs es σ S1).bd fun vs S2 => C f (v :: vs) S2 else .bad
  | .mk f c fr es, σ, S => (evs es σ S).bd fun vs S1 => (C f (.ref S1.len :: vs) (S1.push (.ins c []))).bd fun v S2 => made S1.len fr v S2
  | .isr e c, σ, S => (ev e σ S).bd fun v S1 => (opt (clsV S1 v) S1).bd fun d S2 => .ok (.bl (decide (d = c))) S2
  | .dnew t, _, S => .ok (.ref S.len) (S.push (if t then .dT [] else .dK []))
  | .dget d k x, σ, S => (ev d σ S).bd fun v S1 => (ev k σ S1).bd fun y S2 => (ev x σ S2).bd fun z S3 => match v with
    | .ref j => (opt (dAsk S3 j y) S3).bd fun o S4 => .ok (o.getD z) S4
    | _ => .bad
  | .sdef d k x, σ, S => (ev d σ S).bd fun v S1 => (ev k σ S1).bd fun y S2 => (ev x σ S2).bd fun z S3 => sdefR S3 b v y z
  | .disp ks es, σ, S => (evs es σ S).bd fun vs S1 => (opt (dispK ks vs) S1).bd fun kvs S2 => .ok (.ref S2.len) (S2.push (.dK kvs))
  | .fstr es, σ, S => (evs es σ S).bd fun vs S1 => (opt (fparts vs) S1).bd fun z S2 => if z.length ≤ lenMax then .ok (.str z) S2 else .bad
  | .maxD e d, σ, S => (ev e σ S).bd fun v S1 => (ev d σ S1).bd fun u S2 => opt (maxDV S2 v u) S2
def evT : E → Env → Sto → R Bool
  | .not x, σ, S => (evT x σ S).bd fun c S1 => .ok (!c) S1
  | .and x y, σ, S => (evT x σ S).bd fun c S1 => match c with
    | true => evT y σ S1
    | false => .ok false S1
  | .or x y, σ, S => (evT x σ S).bd fun c S1 => match c with
    | true => .ok true S1
    | false => evT y σ S1
  | .cmp o x y, σ, S => (ev x σ S).bd fun v S1 => (ev y σ S1).bd fun u S2 => opt (cmV S2 o v u) S2
  | .chain o o' x y z, σ, S => (ev x σ S).bd fun v S1 => (ev y σ S1).bd fun u S2 => (opt (cmV S2 o v u) S2).bd fun c S3 => match c with
    | true => (ev z σ S3).bd fun w S4 => opt (cmV S4 o' u w) S4
    | false => .ok false S3
  | .var i, σ, S => match σ[i]? with
    | some (some v) => opt (truV S v) S
    | _ => .bad
  | .ix x y, σ, S => (ev x σ S).bd fun v S1 => (ev y σ S1).bd fun u S2 => (opt (ixV S2 v u) S2).bd fun z S3 => opt (truV S3 z) S3
  | .call f es, σ, S => ((evs es σ S).bd fun vs S1 => C f vs S1).bd fun z S3 => opt (truV S3 z) S3
  | .bi f es, σ, S => ((evs es σ S).bd fun vs S1 => opt (biV S1 f vs) S1).bd fun z S3 => opt (truV S3 z) S3
  | .isi x t, σ, S => (ev x σ S).bd fun v S1 => opt (isTy v t) S1
  | .eisi i, σ, S => match σ[i]? with
    | some (some (.tup (_ :: _))) => .ok true S
    | _ => .bad
  | .att e ps, σ, S => ((ev e σ S).bd fun v S1 => opt (attV S1 v ps) S1).bd fun z S3 => opt (truV S3 z) S3
  | .isr e c, σ, S => (ev e σ S).bd fun v S1 => (opt (clsV S1 v) S1).bd fun d S2 => .ok (decide (d = c)) S2
  | .meth f cs e es, σ, S => ((ev e σ S).bd fun v S1 => if ((clsV S1 v).any fun c => cs.contains c) then (evs es σ S1).bd fun vs S2 => C f (v :: vs) S2 else .bad).bd fun z S3 => opt (truV S3 z) S3
  | _, _, _ => .bad
def evs : Es → Env → Sto → R (List PV)
  | .nil, _, S => .ok [] S
  | .cons e es, σ, S => (ev e σ S).bd fun v S1 => (evs es σ S1).bd fun vs S2 => .ok (v :: vs) S2
def evo : Eo → Env → Sto → R (Option Int)
  | .none, _, S => .ok none S
  | .some e, σ, S => (ev e σ S).bd fun v S1 => match v with
    | .int i => .ok (some i) S1
    | _ => .bad
def evc : Eo → Env → Sto → R Bool
  | .none, _, S => .ok true S
  | .some e, σ, S => evT e σ S
def evi : It → Env → Sto → R Walk
  | .seq e, σ, S => (ev e σ S).bd fun v S1 => opt (walkV S1 v) S1
  | .rng1 e, σ, S => (ev e σ S).bd fun v S1 => match v with
    | .int n => if small n then .ok (rngL 0 n.toNat, []) S1 else .bad
    | _ => .bad
  | .rng2 x y, σ, S => (ev x σ S).bd fun v S1 => (ev y σ S1).bd fun u S2 => match v, u with
    | .int a, .int c => if small a && small c then .ok (rngL a (c - a).toNat, []) S2 else .bad
    | _, _ => .bad
  | .rng3 x y, σ, S => (ev x σ S).bd fun v S1 => (ev y σ S1).bd fun u S2 => match v, u with
    | .int a, .int c => if small a && small c then .ok (rngD a (a - c).toNat, []) S2 else .bad
    | _, _ => .bad
  | .zip x y, σ, S => (ev x σ S).bd fun v S1 => (ev y σ S1).bd fun u S2 => opt (zipV S2 v u) S2
  | .enum e, σ, S => (ev e σ S).bd fun v S1 => opt (enumV S1 v) S1
end
/-- a for's turns -/
def forLoop (g : Sto → Bool) (bind : PV → Env → Option Env) (body : Env → Sto → RS) : List PV → Env → Sto → RS
  | [], σ, S => if g S then .next σ S else .bad
  | x :: xs, σ, S => if g S then (match bind x σ with
    | none => .bad
    | some σ1 => match body σ1 S with
      | .next σ2 S2 => forLoop g bind body xs σ2 S2
      | .cont σ2 S2 => forLoop g bind body xs σ2 S2
      | .brk σ2 S2 => .next σ2 S2
      | r => r) else .bad
def whileLoop (test : Env → Sto → R Bool) (body : Env → Sto → RS) : Nat → Env → Sto → RS
  | 0, _, _ => .bad
  | n + 1, σ, S => (test σ S).st σ fun c S1 => match c with
    | false => .next σ S1
    | true => match body σ S1 with
      | .next σ2 S2 => whileLoop test body n σ2 S2
      | .cont σ2 S2 => whileLoop test body n σ2 S2
      | .brk σ2 S2 => .next σ2 S2
      | r => r
def RS.seq (r : RS) (f : Env → Sto → RS) : RS := match r with
  | .next σ S => f σ S
  | r => r
def fuel : Nat := 2 ^ 40
/-- an except clause: the exception's class and what it holds stand in the slot -/
def hold (c : Nat) (as : List PV) (σ : Env) : Option Nat → Env
  | some k => σ.set k (some (.tup (.int (c : Int) :: as)))
  | none => σ
def holdOk (σ : Env) : Option Nat → Bool
  | some k => decide (k < σ.length)
  | none => true
def unhold (σ : Env) : Option Nat → Env
  | some k => σ.set k none
  | none => σ
def unslot (i : Option Nat) : RS → RS
  | .next σ S => .next (unhold σ i) S
  | .ret v S => .ret v S
  | .brk σ S => .brk (unhold σ i) S
  | .cont σ S => .cont (unhold σ i) S
  | _ => .bad
def caught (c : Nat) (i : Option Nat) (h : Env → Sto → RS) : RS → RS
  | .exc d as σ S => if d = c then (if holdOk σ i then unslot i (h (hold c as σ i) S) else .bad) else .exc d as σ S
  | r => r
/-- a[k] = v -/
def subR (σ : Env) (o k v : PV) (S : Sto) : RS := match o with
  | .ref a => match S.cells[a]? with
    | some (.lst xs) => match k with
      | .int n => match placeOf xs.length n with
        | some j => .next σ (S.wr b a (.lst (xs.set j v)) v.pure)
        | none => .bad
      | _ => .bad
    | _ => match dPut S a k v with
      | some c => .next σ (S.wr b a c v.pure)
      | none => .bad
  | _ => .bad
/-- o.f = v -/
def attR (σ : Env) (o : PV) (ps : List (Nat × Nat)) (v : PV) (S : Sto) : RS := match o with
  | .ref a => match S.cells[a]? with
    | some (.ins c fs) => match (ps.lookup c).bind fun p => putA fs p v with
      | some gs => .next σ (S.wr b a (.ins c gs) v.pure)
      | none => .bad
    | _ => .bad
  | _ => .bad
mutual
def xst : St → Env → Sto → RS
  | .asg (.of t) e, σ, S => (ev C b e σ S).st σ fun v S1 => match bindT t v σ with
    | some σ1 => .next σ1 S1
    | none => .bad
  | .asg (.sub x i) e, σ, S => (ev C b e σ S).st σ fun v S1 => (ev C b x σ S1).st σ fun o S2 => (ev C b i σ S2).st σ fun k S3 => subR b σ o k v S3
  | .asg (.att x ps) e, σ, S => (ev C b e σ S).st σ fun v S1 => (ev C b x σ S1).st σ fun o S2 => attR b σ o ps v S2
  | .par i j x y, σ, S => (ev C b x σ S).st σ fun v S1 => (ev C b y σ S1).st σ fun u S2 => .next ((σ.set i (some v)).set j (some u)) S2
  | .aug i o e, σ, S => match σ[i]? with
    | some (some x) => (ev C b e σ S).st σ fun v S1 => match o, x, v with
      | .add, .int a, .int c => .next (σ.set i (some (.int (a + c)))) S1
      | _, _, _ => .bad
    | _ => .bad
  | .augA x ps e, σ, S => (ev C b x σ S).st σ fun o S1 => (opt (attV S1 o ps) S1).st σ fun u S2 => (ev C b e σ S2).st σ fun v S3 => match u, v with
    | .int a, .int c => attR b σ o ps (.int (a + c)) S3
    | _, _ => .bad
  | .expr e, σ, S => (ev C b e σ S).st σ fun _ S1 => .next σ S1
  | .append x e, σ, S => (ev C b x σ S).st σ fun o S1 => match o with
    | .ref a => match S1.cells[a]? with
      | some (.lst _) => (ev C b e σ S1).st σ fun v S2 => match S2.cells[a]? with
        | some (.lst xs) => if xs.length < lenMax then .next σ (S2.wr b a (.lst (xs ++ [v])) v.pure) else .bad
        | _ => .bad
      | _ => .bad
    | _ => .bad
  | .ifs c p q, σ, S => (evT C b c σ S).st σ fun d S1 => match d with
    | true => xss p σ S1
    | false => xss q σ S1
  | .fors t it p, σ, S => (evi C b it σ S).st σ fun w S1 => forLoop (fun S => stands S w.2) (bindT t) (xss p) w.1 σ S1
  | .whiles c p, σ, S => whileLoop (evT C b c) (xss p) fuel σ S
  | .ret e, σ, S => (ev C b e σ S).st σ fun v S1 => .ret v S1
  | .retN, _, S => .ret .non S
  | .raise c es, σ, S => (evs C b es σ S).st σ fun vs S1 => .exc c vs σ S1
  | .tryo p c i h, σ, S => caught c i (xss h) (xss p σ S)
  | .pass, σ, S => .next σ S
  | .brk, σ, S => .brk σ S
  | .cont, σ, S => .cont σ S
def xss : Ss → Env → Sto → RS
  | .nil, σ, S => .next σ S
  | .cons s ss, σ, S => match xst s σ S with
    | .next σ1 S1 => xss ss σ1 S1
    | r => r
end
end
/-- a def: how many parameters, how many names, its body -/
structure FDef where
  np : Nat
  nn : Nat
  body : Ss
/-- leaving a def: what it made is gone, unless it may be told of -/
def fin (S : Sto) (v : PV) (S1 : Sto) : R PV := if v.pure && !S1.dirty then .ok v ⟨S1.cells.take S.cells.length, S.dirty⟩ else .ok v ⟨S1.cells, S.dirty || S1.dirty⟩
def runF (C : Nat → List PV → Sto → R PV) (fd : FDef) (args : List PV) (S : Sto) : R PV :=
  match xss C S.cells.length fd.body (args.map some ++ List.replicate (fd.nn - fd.np) none) ⟨S.cells, false⟩ with
  | .next _ S1 => fin S .non S1
  | .ret v S1 => fin S v S1
  | .exc c as _ S1 => if PV.pures as && !S1.dirty then .exc c as ⟨S1.cells.take S.cells.length, S.dirty⟩ else .bad
  | _ => .bad
def callN (T : List FDef) : Nat → Nat → List PV → Sto → R PV
  | 0, _, _, _ => .bad
  | d + 1, f, args, S => match T[f]? with
    | some fd => if args.length = fd.np then runF (callN T d) fd args S else .bad
    | none => .bad
end MP
end
section
set_option Elab.async false
set_option linter.all false
set_option maxRecDepth 100000
/-! MPSound1: how a value of MP stands in the model's heap; what a run of MP promises. -/
namespace MP
open PySem L2
/-- the text's classes of records: where they stand, the names of their attributes -/
class RT where
  rc : Nat → Addr
  rf : Nat → List Str
variable [RT]
/-- a list that is only read -/
def RoL (K : PySem.W.Frag) (H : Hp) (a : Addr) (vs : List V) : Prop :=
  (∃ o, H a = some (.frz o (.lst vs))) ∨ ∃ (o : Obj) (its : Array Value) (n : Nat), K.lookup a = some o ∧ o.cls = .type "list" ∧ o.dict = none ∧ o.data = .seq its n ∧ its.size ≤ sizeLine ∧ Vals vs its.toList
theorem RoL.sq {K : PySem.W.Frag} {H : Hp} {a : Addr} {vs : List V} (h : RoL K H a vs) : SqL K H a vs := by
  rcases h with h | h
  · exact .inl (.inr h)
  · exact .inr h
/-! ### values in the heap -/
mutual
inductive RelP (K : PySem.W.Frag) (ρ : List Addr) (H : Hp) : PV → V → Prop
  | non : RelP K ρ H .non .non
  | bl (b : Bool) : RelP K ρ H (.bl b) (.bl b)
  | int (i : Int) : RelP K ρ H (.int i) (.int i)
  | str (x : Str) : RelP K ρ H (.str x) (.str x)
  | tup {a : Addr} {xs : List PV} {vs : List V} : SqT K H a vs → RelPs K ρ H xs vs → RelP K ρ H (.tup xs) (.ref a)
  | lst {a : Addr} {xs : List PV} {vs : List V} : RoL K H a vs → RelPs K ρ H xs vs → RelP K ρ H (.lst xs) (.ref a)
  | obj {a dx : Addr} {o : Obj} {c : Nat} {fs : List PV} {vs : List V} : H a = some (.frz o (.ins (RT.rc c) dx ((RT.rf c).zip vs))) → RelPs K ρ H fs vs → RelP K ρ H (.obj c fs) (.ref a)
  | ref {k : Nat} {a : Addr} : ρ[k]? = some a → RelP K ρ H (.ref k) (.ref a)
inductive RelPs (K : PySem.W.Frag) (ρ : List Addr) (H : Hp) : List PV → List V → Prop
  | nil : RelPs K ρ H [] []
  | cons {x : PV} {v : V} {xs : List PV} {vs : List V} : RelP K ρ H x v → RelPs K ρ H xs vs → RelPs K ρ H (x :: xs) (v :: vs)
end
/-- what is never lost -/
structure Keep (H H' : Hp) : Prop where
  tup : ∀ a xs, H a = some (.tup xs) → H' a = some (.tup xs)
  frz : ∀ a o u, H a = some (.frz o u) → H' a = some (.frz o u)
  xd : ∀ a fs, H a = some (.xd fs) → H' a = some (.xd fs)
theorem Keep.refl (H : Hp) : Keep H H := ⟨fun _ _ h => h, fun _ _ _ h => h, fun _ _ h => h⟩
theorem Keep.trans {H H1 H2 : Hp} (a : Keep H H1) (b : Keep H1 H2) : Keep H H2 :=
  ⟨fun x y h => b.tup x y (a.tup x y h), fun x y z h => b.frz x y z (a.frz x y z h), fun x y h => b.xd x y (a.xd x y h)⟩
theorem Keep.new {H : Hp} {p : Addr} {o : HO} (h : H p = none) : Keep H (upd H p o) :=
  ⟨fun a xs e => by rw [upd_ne (ne_of_none e h)]; exact e, fun a u v e => by rw [upd_ne (ne_of_none e h)]; exact e, fun a fs e => by rw [upd_ne (ne_of_none e h)]; exact e⟩
/-- what may be written: no tuple, nothing locked, no exception's dict -/
def Wr : HO → Prop
  | .tup _ => False
  | .frz _ _ => False
  | .xd _ => False
  | _ => True
theorem Keep.wr {H : Hp} {p : Addr} {u o : HO} (h : H p = some u) (hu : Wr u) : Keep H (upd H p o) :=
  ⟨fun a xs e => by rw [upd_ne (ne_of e h (by intro z; subst z; exact hu))]; exact e, fun a u v e => by rw [upd_ne (ne_of e h (by intro z; subst z; exact hu))]; exact e, fun a fs e => by rw [upd_ne (ne_of e h (by intro z; subst z; exact hu))]; exact e⟩
theorem Keep.wlst {H : Hp} {p : Addr} {ys : List V} {o : HO} (h : H p = some (.lst ys)) : Keep H (upd H p o) := .wr h trivial
section
variable {K : PySem.W.Frag} {ρ ρ' : List Addr} {H H' : Hp}
theorem Keep.sqT (k : Keep H H') {a : Addr} {xs : List V} (h : SqT K H a xs) : SqT K H' a xs := by
  rcases h with (h | ⟨o, h⟩) | h
  · exact .inl (.inl (k.tup _ _ h))
  · exact .inl (.inr ⟨o, k.frz _ _ _ h⟩)
  · exact .inr h
theorem pre_get {ρ ρ' : List Addr} (p : ρ <+: ρ') {k : Nat} {a : Addr} (h : ρ[k]? = some a) : ρ'[k]? = some a := by
  obtain ⟨t, rfl⟩ := p
  rw [List.getElem?_append_left (List.getElem?_eq_some_iff.mp h).1]
  exact h
theorem Keep.roL (k : Keep H H') {a : Addr} {xs : List V} (h : RoL K H a xs) : RoL K H' a xs := by
  rcases h with ⟨o, h⟩ | h
  · exact .inl ⟨o, k.frz _ _ _ h⟩
  · exact .inr h
mutual
theorem RelP.mono (k : Keep H H') (p : ρ <+: ρ') : ∀ {x : PV} {v : V}, RelP K ρ H x v → RelP K ρ' H' x v
  | _, _, .non => .non
  | _, _, .bl b => .bl b
  | _, _, .int i => .int i
  | _, _, .str x => .str x
  | _, _, .tup h hs => .tup (k.sqT h) (RelPs.mono k p hs)
  | _, _, .lst h hs => .lst (k.roL h) (RelPs.mono k p hs)
  | _, _, .obj h hs => .obj (k.frz _ _ _ h) (RelPs.mono k p hs)
  | _, _, .ref h => .ref (pre_get p h)
theorem RelPs.mono (k : Keep H H') (p : ρ <+: ρ') : ∀ {xs : List PV} {vs : List V}, RelPs K ρ H xs vs → RelPs K ρ' H' xs vs
  | _, _, .nil => .nil
  | _, _, .cons h hs => .cons (RelP.mono k p h) (RelPs.mono k p hs)
end
mutual
/-- a value without numbers of the store from n on -/
theorem RelP.cut {n : Nat} (hn : ρ.take n <+: ρ') : ∀ {x : PV} {v : V}, x.und n = true → RelP K ρ H x v → RelP K ρ' H x v
  | _, _, _, .non => .non
  | _, _, _, .bl b => .bl b
  | _, _, _, .int i => .int i
  | _, _, _, .str x => .str x
  | _, _, e, .tup h hs => .tup h (RelPs.cut hn (by simpa [PV.und] using e) hs)
  | _, _, e, .lst h hs => .lst h (RelPs.cut hn (by simpa [PV.und] using e) hs)
  | _, _, e, .obj h hs => .obj h (RelPs.cut hn (by simpa [PV.und] using e) hs)
  | .ref k, _, e, .ref h => .ref (pre_get hn (by
      have e' : k < n := by simpa [PV.und] using e
      rw [List.getElem?_take_of_lt e']; exact h))
theorem RelPs.cut {n : Nat} (hn : ρ.take n <+: ρ') : ∀ {xs : List PV} {vs : List V}, PV.unds n xs = true → RelPs K ρ H xs vs → RelPs K ρ' H xs vs
  | _, _, _, .nil => .nil
  | _, _, e, .cons h hs => by
    have e' := Bool.and_eq_true_iff.mp (by simpa [PV.unds] using e)
    exact .cons (RelP.cut hn e'.1 h) (RelPs.cut hn e'.2 hs)
end
mutual
theorem PV.und_of_pure {n : Nat} : ∀ {x : PV}, x.pure = true → x.und n = true
  | .non, _ => rfl
  | .bl _, _ => rfl
  | .int _, _ => rfl
  | .str _, _ => rfl
  | .tup xs, h => by simpa [PV.und] using PV.unds_of_pures (show PV.pures xs = true by simpa [PV.pure] using h)
  | .lst xs, h => by simpa [PV.und] using PV.unds_of_pures (show PV.pures xs = true by simpa [PV.pure] using h)
  | .obj _ xs, h => by simpa [PV.und] using PV.unds_of_pures (show PV.pures xs = true by simpa [PV.pure] using h)
  | .ref _, h => by simp [PV.pure] at h
theorem PV.unds_of_pures {n : Nat} : ∀ {xs : List PV}, PV.pures xs = true → PV.unds n xs = true
  | [], _ => rfl
  | x :: xs, h => by
    have h' := Bool.and_eq_true_iff.mp (by simpa [PV.pures] using h)
    simp [PV.unds, PV.und_of_pure h'.1, PV.unds_of_pures h'.2]
end
mutual
theorem PV.und_mono {n m : Nat} (h : n ≤ m) : ∀ {x : PV}, x.und n = true → x.und m = true
  | .non, _ => rfl
  | .bl _, _ => rfl
  | .int _, _ => rfl
  | .str _, _ => rfl
  | .tup xs, e => by simpa [PV.und] using PV.unds_mono h (show PV.unds n xs = true by simpa [PV.und] using e)
  | .lst xs, e => by simpa [PV.und] using PV.unds_mono h (show PV.unds n xs = true by simpa [PV.und] using e)
  | .obj _ xs, e => by simpa [PV.und] using PV.unds_mono h (show PV.unds n xs = true by simpa [PV.und] using e)
  | .ref k, e => by
    have e' : k < n := by simpa [PV.und] using e
    simp [PV.und]; omega
theorem PV.unds_mono {n m : Nat} (h : n ≤ m) : ∀ {xs : List PV}, PV.unds n xs = true → PV.unds m xs = true
  | [], _ => rfl
  | x :: xs, e => by
    have e' := Bool.and_eq_true_iff.mp (by simpa [PV.unds] using e)
    simp [PV.unds, PV.und_mono h e'.1, PV.unds_mono h e'.2]
end
mutual
theorem RelP.und : ∀ {x : PV} {v : V}, RelP K ρ H x v → x.und ρ.length = true
  | _, _, .non => rfl
  | _, _, .bl _ => rfl
  | _, _, .int _ => rfl
  | _, _, .str _ => rfl
  | _, _, .tup _ hs => by simpa [PV.und] using RelPs.und hs
  | _, _, .lst _ hs => by simpa [PV.und] using RelPs.und hs
  | _, _, .obj _ hs => by simpa [PV.und] using RelPs.und hs
  | _, _, .ref h => by simpa [PV.und] using (List.getElem?_eq_some_iff.mp h).1
theorem RelPs.und : ∀ {xs : List PV} {vs : List V}, RelPs K ρ H xs vs → PV.unds ρ.length xs = true
  | _, _, .nil => rfl
  | _, _, .cons h hs => by simp [PV.unds, RelP.und h, RelPs.und hs]
end
theorem RelP.pure_any {x : PV} {v : V} (h : x.pure = true) (r : RelP K ρ H x v) : RelP K ρ' H x v :=
  RelP.cut (n := 0) (by simp) (PV.und_of_pure h) r
theorem RelPs.pure_any {x : List PV} {v : List V} (h : PV.pures x = true) (r : RelPs K ρ H x v) : RelPs K ρ' H x v :=
  RelPs.cut (n := 0) (by simp) (PV.unds_of_pures h) r
theorem RelPs.length : ∀ {xs : List PV} {vs : List V}, RelPs K ρ H xs vs → xs.length = vs.length
  | _, _, .nil => rfl
  | _, _, .cons _ t => congrArg (· + 1) (RelPs.length t)
theorem RelPs.get : ∀ {xs : List PV} {vs : List V} {i : Nat} {x : PV}, RelPs K ρ H xs vs → xs[i]? = some x → ∃ v, vs[i]? = some v ∧ RelP K ρ H x v
  | _, _, _, _, .nil, e => by simp at e
  | _, _, 0, _, .cons r _, e => by simp at e; subst e; exact ⟨_, rfl, r⟩
  | _, _, i + 1, x, .cons _ t, e => by
    obtain ⟨v, h1, h2⟩ := RelPs.get (i := i) (x := x) t (by simpa using e)
    exact ⟨v, by simpa using h1, h2⟩
theorem RelPs.set {x : PV} {v : V} (r : RelP K ρ H x v) : ∀ {xs : List PV} {vs : List V} (i : Nat), RelPs K ρ H xs vs → RelPs K ρ H (xs.set i x) (vs.set i v)
  | _, _, _, .nil => .nil
  | _, _, 0, .cons _ t => .cons r t
  | _, _, i + 1, .cons q t => .cons q (RelPs.set r i t)
theorem RelPs.app : ∀ {xs ys : List PV} {vs ws : List V}, RelPs K ρ H xs vs → RelPs K ρ H ys ws → RelPs K ρ H (xs ++ ys) (vs ++ ws)
  | _, _, _, _, .nil, s => s
  | _, _, _, _, .cons r t, s => .cons r (RelPs.app t s)
theorem RelPs.take : ∀ {xs : List PV} {vs : List V} (n : Nat), RelPs K ρ H xs vs → RelPs K ρ H (xs.take n) (vs.take n)
  | _, _, 0, _ => .nil
  | _, _, _ + 1, .nil => .nil
  | _, _, n + 1, .cons r t => .cons r (RelPs.take n t)
theorem RelPs.drop : ∀ {xs : List PV} {vs : List V} (n : Nat), RelPs K ρ H xs vs → RelPs K ρ H (xs.drop n) (vs.drop n)
  | _, _, 0, r => r
  | _, _, _ + 1, .nil => .nil
  | _, _, n + 1, .cons _ t => RelPs.drop n t
theorem RelPs.one {x : PV} {vs : List V} (h : RelPs K ρ H [x] vs) : ∃ v, vs = [v] ∧ RelP K ρ H x v := by
  cases h with
  | cons r t => cases t; exact ⟨_, rfl, r⟩
theorem RelPs.two {x y : PV} {vs : List V} (h : RelPs K ρ H [x, y] vs) : ∃ v w, vs = [v, w] ∧ RelP K ρ H x v ∧ RelP K ρ H y w := by
  cases h with
  | cons r t => obtain ⟨w, rfl, q⟩ := t.one; exact ⟨_, _, rfl, r, q⟩
theorem RelP.of_int {i : Int} {v : V} (h : RelP K ρ H (.int i) v) : v = .int i := by cases h; rfl
theorem RelP.of_bl {i : Bool} {v : V} (h : RelP K ρ H (.bl i) v) : v = .bl i := by cases h; rfl
theorem RelP.of_str {i : Str} {v : V} (h : RelP K ρ H (.str i) v) : v = .str i := by cases h; rfl
theorem RelP.of_non {v : V} (h : RelP K ρ H .non v) : v = .non := by cases h; rfl
theorem RelP.of_tup {xs : List PV} {v : V} (h : RelP K ρ H (.tup xs) v) : ∃ a vs, v = .ref a ∧ SqT K H a vs ∧ RelPs K ρ H xs vs := by cases h; exact ⟨_, _, rfl, by assumption, by assumption⟩
theorem RelP.of_lst {xs : List PV} {v : V} (h : RelP K ρ H (.lst xs) v) : ∃ a vs, v = .ref a ∧ RoL K H a vs ∧ RelPs K ρ H xs vs := by cases h; exact ⟨_, _, rfl, by assumption, by assumption⟩
theorem RelP.of_obj {c : Nat} {fs : List PV} {v : V} (h : RelP K ρ H (.obj c fs) v) : ∃ a dx o vs, v = .ref a ∧ H a = some (.frz o (.ins (RT.rc c) dx ((RT.rf c).zip vs))) ∧ RelPs K ρ H fs vs := by cases h; exact ⟨_, _, _, _, rfl, by assumption, by assumption⟩
theorem RelP.of_ref {k : Nat} {v : V} (h : RelP K ρ H (.ref k) v) : ∃ a, v = .ref a ∧ ρ[k]? = some a := by cases h; exact ⟨_, rfl, by assumption⟩
theorem RelP.is_non {x : PV} {v : V} (h : RelP K ρ H x v) : decide (v = .non) = decide (x = .non) := by
  cases h <;> simp
end
/-! ### the store in the heap -/
/-- one entry of a dict whose keys are rows of ints -/
def entI (x : List Int × Addr × Value) : DictEntry := ⟨PySem.reduceHash (PySem.Builtin.Tuple.tupleHashOf (x.1.map hashInt)), .ref x.2.1, x.2.2⟩
theorem entI_eq (P : Program) (w : World) : entryOfKey (tupleKind (intKind P w)) = entI := rfl
/-- a dict whose keys are rows of ints, as its object is -/
def dTO (a : Addr) (xs : List (List Int × Addr × Value)) : HO := .ext fun h => ∃ o es ep, h.get? a = some o ∧ o.ExactDict ∧ o.data = .dict es ep ∧ es.toList = xs.map entI ∧ (xs.map (·.1)).Nodup
/-- the entries' values -/
structure DtOk (K : PySem.W.Frag) (ρ : List Addr) (H : Hp) (kvs : List (List Int × PV)) (xs : List (List Int × Addr × Value)) : Prop where
  rel : Paired (fun (p : List Int × PV) (q : List Int × Addr × Value) => p.1 = q.1 ∧ SqT K H q.2.1 (p.1.map V.int) ∧ ∃ v, RelP K ρ H p.2 v ∧ RelV v q.2.2) kvs xs
def CellOk (K : PySem.W.Frag) (ρ : List Addr) (H : Hp) (a : Addr) : Cell → Prop
  | .lst xs => ∃ vs, RelPs K ρ H xs vs ∧ H a = some (.lst vs)
  | .ro xs => ∃ vs, RelPs K ρ H xs vs ∧ ∃ o, H a = some (.frz o (.lst vs))
  | .dT kvs => ∃ xs, DtOk K ρ H kvs xs ∧ xs.length ≤ sizeLine ∧ (a == sysModules) = false ∧ H a = some (dTO a xs)
  | .dK kvs => ∃ ws : List (Key × V), Paired (fun p q => p.1 = q.1 ∧ RelP K ρ H p.2 q.2) kvs ws ∧ H a = some (.dK ws)
  | .ins c fs => ∃ dx vs, RelPs K ρ H fs vs ∧ fs.length ≤ (RT.rf c).length ∧ H a = some (.ins (RT.rc c) dx ((RT.rf c).zip vs))
def Cell.isRo : Cell → Bool
  | .ro _ => true
  | _ => false
structure StOk (K : PySem.W.Frag) (b : Nat) (ρ : List Addr) (S : Sto) (H : Hp) : Prop where
  len : ρ.length = S.cells.length
  cell : ∀ (k : Nat) (c : Cell) (a : Addr), S.cells[k]? = some c → ρ[k]? = some a → CellOk K ρ H a c
  inj : ∀ (j k : Nat) (a : Addr) (c d : Cell), ρ[j]? = some a → ρ[k]? = some a → S.cells[j]? = some c → S.cells[k]? = some d → c.isRo = false → d.isRo = false → j = k
  base : b ≤ S.cells.length
def okU (n : Nat) (cells : List Cell) : Prop := ∀ (k : Nat) (c : Cell), k < n → cells[k]? = some c → c.und n = true
structure Grow (b : Nat) (ρ ρ' : List Addr) (S S' : Sto) (H H' : Hp) : Prop where
  keep : Keep H H'
  pre : ρ <+: ρ'
  len : S.cells.length ≤ S'.cells.length
  frame : ∀ a o, H a = some o → a ∉ ρ → H' a = some o ∧ a ∉ ρ'
  und : S'.dirty = false → S.dirty = false ∧ ∀ n, n ≤ b → okU n S.cells → okU n S'.cells
section
variable {K : PySem.W.Frag} {b : Nat} {ρ ρ' ρ1 : List Addr} {S S' S1 : Sto} {H H' H1 : Hp}
theorem Grow.refl : Grow b ρ ρ S S H H := ⟨.refl _, List.prefix_refl _, Nat.le_refl _, fun _ _ e n => ⟨e, n⟩, fun h => ⟨h, fun _ _ h => h⟩⟩
theorem Grow.trans (x : Grow b ρ ρ1 S S1 H H1) (y : Grow b ρ1 ρ' S1 S' H1 H') : Grow b ρ ρ' S S' H H' :=
  ⟨x.keep.trans y.keep, x.pre.trans y.pre, Nat.le_trans x.len y.len, fun a o e n => let ⟨e1, n1⟩ := x.frame a o e n; y.frame a o e1 n1, fun h => by
    obtain ⟨h1, h2⟩ := y.und h
    obtain ⟨h3, h4⟩ := x.und h1
    exact ⟨h3, fun n hn u => h2 n hn (h4 n hn u)⟩⟩
theorem Grow.less {c : Nat} (x : Grow c ρ ρ' S S' H H') (h : b ≤ c) : Grow b ρ ρ' S S' H H' :=
  ⟨x.keep, x.pre, x.len, x.frame, fun e => ⟨(x.und e).1, fun n hn => (x.und e).2 n (Nat.le_trans hn h)⟩⟩
theorem StOk.lt (so : StOk K b ρ S H) {k : Nat} {c : Cell} (h : S.cells[k]? = some c) : ∃ a, ρ[k]? = some a := by
  have h1 := (List.getElem?_eq_some_iff.mp h).1
  rw [← so.len] at h1
  exact ⟨ρ[k], by simp [h1]⟩
theorem StOk.sql (so : StOk K b ρ S H) {k : Nat} {xs : List PV} (h : S.lst? k = some xs) {a : Addr} (e : ρ[k]? = some a) : ∃ vs, RelPs K ρ H xs vs ∧ SqL K H a vs := by
  unfold Sto.lst? at h
  cases q : S.cells[k]? with
  | none => rw [q] at h; cases h
  | some c =>
    rw [q] at h
    have co := so.cell k c a q e
    cases c with
    | lst ys => cases h; obtain ⟨vs, r, z⟩ := co; exact ⟨vs, r, SqL.of z⟩
    | ro ys => cases h; obtain ⟨vs, r, z⟩ := co; exact ⟨vs, r, .inl (.inr z)⟩
    | _ => cases h
theorem StOk.lst (so : StOk K b ρ S H) {k : Nat} {xs : List PV} (h : S.cells[k]? = some (.lst xs)) {a : Addr} (e : ρ[k]? = some a) : ∃ vs, RelPs K ρ H xs vs ∧ H a = some (.lst vs) := so.cell k _ a h e
theorem DtOk.keep {kvs : List (List Int × PV)} {xs : List (List Int × Addr × Value)} (d : DtOk K ρ H kvs xs) (k : Keep H H') (p : ρ <+: ρ') : DtOk K ρ' H' kvs xs :=
  ⟨Paired.mapP d.rel fun _ _ z => ⟨z.1, k.sqT z.2.1, let ⟨v, r, q⟩ := z.2.2; ⟨v, r.mono k p, q⟩⟩⟩
theorem CellOk.keep {a : Addr} {c : Cell} (co : CellOk K ρ H a c) (k : Keep H H') (p : ρ <+: ρ') (h : c.isRo = false → ∀ o, Wr o → H a = some o → H' a = some o) : CellOk K ρ' H' a c := by
  cases c with
  | lst xs => obtain ⟨vs, r, z⟩ := co; exact ⟨vs, r.mono k p, h rfl _ trivial z⟩
  | ro xs => obtain ⟨vs, r, o, z⟩ := co; exact ⟨vs, r.mono k p, o, k.frz _ _ _ z⟩
  | dT kvs => obtain ⟨xs, r, z1, z2, z⟩ := co; exact ⟨xs, r.keep k p, z1, z2, h rfl _ trivial z⟩
  | dK kvs => obtain ⟨ws, r, z⟩ := co; exact ⟨ws, Paired.mapP r fun _ _ z => ⟨z.1, z.2.mono k p⟩, h rfl _ trivial z⟩
  | ins c fs => obtain ⟨dx, vs, r, l, z⟩ := co; exact ⟨dx, vs, r.mono k p, l, h rfl _ trivial z⟩
/-- a cell that may change stands at a thing that may be written -/
theorem CellOk.wr {a : Addr} {c : Cell} (co : CellOk K ρ H a c) (h : c.isRo = false) : ∃ o, H a = some o ∧ Wr o := by
  cases c with
  | lst xs => obtain ⟨vs, r, z⟩ := co; exact ⟨_, z, trivial⟩
  | ro xs => cases h
  | dT kvs => obtain ⟨xs, r, z1, z2, z⟩ := co; exact ⟨_, z, trivial⟩
  | dK kvs => obtain ⟨ws, r, z⟩ := co; exact ⟨_, z, trivial⟩
  | ins c fs => obtain ⟨dx, vs, r, l, z⟩ := co; exact ⟨_, z, trivial⟩
/-- every cell stands at something -/
theorem CellOk.some {a : Addr} {c : Cell} (co : CellOk K ρ H a c) : H a ≠ none := by
  cases c with
  | lst xs => obtain ⟨vs, r, z⟩ := co; rw [z]; simp
  | ro xs => obtain ⟨vs, r, o, z⟩ := co; rw [z]; simp
  | dT kvs => obtain ⟨xs, r, z1, z2, z⟩ := co; rw [z]; simp
  | dK kvs => obtain ⟨ws, r, z⟩ := co; rw [z]; simp
  | ins c fs => obtain ⟨dx, vs, r, l, z⟩ := co; rw [z]; simp
theorem StOk.nin (so : StOk K b ρ S H) {a : Addr} (h : H a = none) : a ∉ ρ := fun m => by
  obtain ⟨k, hk⟩ := List.mem_iff_getElem?.mp m
  have hkl := (List.getElem?_eq_some_iff.mp hk).1
  have hkc : k < S.cells.length := by rw [← so.len]; exact hkl
  exact (so.cell k (S.cells[k]) a (by simp [hkc]) hk).some h
/-- a new object that no number tells of -/
theorem StOk.alloc (so : StOk K b ρ S H) {p : Addr} {o : HO} (h : H p = none) : StOk K b ρ S (upd H p o) :=
  ⟨so.len, fun k c a q e => (so.cell k c a q e).keep (.new h) (List.prefix_refl _) fun _ vs _ z => by rw [upd_ne (ne_of_none z h)]; exact z, so.inj, so.base⟩
theorem Grow.alloc {p : Addr} {o : HO} (h : H p = none) : Grow b ρ ρ S S H (upd H p o) := ⟨.new h, List.prefix_refl _, Nat.le_refl _, fun a u e n => ⟨by rw [upd_ne (ne_of_none e h)]; exact e, n⟩, fun h => ⟨h, fun _ _ h => h⟩⟩
theorem get_snoc {α : Type} {xs : List α} {x y : α} {k : Nat} (h : (xs ++ [x])[k]? = some y) : xs[k]? = some y ∨ (k = xs.length ∧ y = x) := by
  by_cases hk : k < xs.length
  · rw [List.getElem?_append_left hk] at h; exact .inl h
  · rw [List.getElem?_append_right (by omega)] at h
    have h2 := (List.getElem?_eq_some_iff.mp h).1
    have h3 : k - xs.length = 0 := by simp at h2; omega
    rw [h3] at h
    exact .inr ⟨by omega, by simpa using h.symm⟩
/-- a new cell -/
theorem StOk.pushC (so : StOk K b ρ S H) {p : Addr} {c : Cell} {o : HO} (h : H p = none) (hc : CellOk K (ρ ++ [p]) (upd H p o) p c) : StOk K b (ρ ++ [p]) (S.push c) (upd H p o) := by
  have kp : Keep H (upd H p o) := .new h
  have pp : ρ <+: ρ ++ [p] := List.prefix_append _ _
  have old : ∀ (j : Nat) (a : Addr) (c : Cell), ρ[j]? = some a → S.cells[j]? = some c → c.isRo = false → a ≠ p := fun j a c e q hc z => by
    obtain ⟨u, w, _⟩ := (so.cell j c a q e).wr hc
    rw [z, h] at w; cases w
  have L := so.len
  have gc : ∀ {k : Nat} {d : Cell}, (S.push c).cells[k]? = some d → (k < S.cells.length ∧ S.cells[k]? = some d) ∨ (k = S.cells.length ∧ d = c) := fun {k d} q => by
    rcases get_snoc (show (S.cells ++ [c])[k]? = some d from q) with q | q
    · exact .inl ⟨(List.getElem?_eq_some_iff.mp q).1, q⟩
    · exact .inr q
  have ga : ∀ {k : Nat} {a : Addr}, (ρ ++ [p])[k]? = some a → (k < S.cells.length ∧ ρ[k]? = some a) ∨ (k = S.cells.length ∧ a = p) := fun {k a} e => by
    rcases get_snoc e with e | ⟨e, f⟩
    · have := (List.getElem?_eq_some_iff.mp e).1
      exact .inl ⟨by omega, e⟩
    · exact .inr ⟨by omega, f⟩
  refine ⟨by simp [Sto.push, so.len], fun k d a q e => ?_, fun j k a d d' e1 e2 q1 q2 n1 n2 => ?_, by have := so.base; simp [Sto.push]; omega⟩
  · rcases gc q with ⟨l1, q⟩ | ⟨l1, hd⟩ <;> rcases ga e with ⟨l2, e⟩ | ⟨l2, ha⟩
    · refine (so.cell k d a q e).keep kp pp fun _ u _ z => ?_
      rw [upd_ne (ne_of_none z h)]; exact z
    · omega
    · omega
    · rw [hd, ha]; exact hc
  · rcases gc q1 with ⟨l1, q1⟩ | ⟨l1, hd1⟩ <;> rcases gc q2 with ⟨l2, q2⟩ | ⟨l2, hd2⟩
    · rcases ga e1 with ⟨m1, e1⟩ | ⟨m1, _⟩
      · rcases ga e2 with ⟨m2, e2⟩ | ⟨m2, _⟩
        · exact so.inj j k a d d' e1 e2 q1 q2 n1 n2
        · omega
      · omega
    · rcases ga e1 with ⟨m1, f1⟩ | ⟨m1, _⟩
      · rcases ga e2 with ⟨m2, _⟩ | ⟨_, f2⟩
        · omega
        · exact absurd f2 (old j a d f1 q1 n1)
      · omega
    · rcases ga e2 with ⟨m2, f2⟩ | ⟨m2, _⟩
      · rcases ga e1 with ⟨m1, _⟩ | ⟨_, f1⟩
        · omega
        · exact absurd f1 (old k a d' f2 q2 n2)
      · omega
    · omega
/-- a new list -/
theorem StOk.push (so : StOk K b ρ S H) {p : Addr} {xs : List PV} {vs : List V} (h : H p = none) (r : RelPs K ρ H xs vs) : StOk K b (ρ ++ [p]) (S.push (.lst xs)) (upd H p (.lst vs)) :=
  so.pushC h ⟨vs, r.mono (.new h) (List.prefix_append _ _), upd_same⟩
theorem Grow.push {p : Addr} {c : Cell} {o : HO} (hb : b ≤ S.cells.length) (h : H p = none) : Grow b ρ (ρ ++ [p]) S (S.push c) H (upd H p o) :=
  ⟨.new h, List.prefix_append _ _, by simp [Sto.push], fun a u e n => ⟨by rw [upd_ne (ne_of_none e h)]; exact e, fun m => (List.mem_append.mp m).elim n fun z => ne_of_none e h (List.mem_singleton.mp z)⟩, fun e => ⟨e, fun n hn u k d hk q => by
    rw [show (S.push c).cells = S.cells ++ [c] from rfl, List.getElem?_append_left (by omega)] at q
    exact u k d hk q⟩⟩
/-- a cell is written -/
theorem StOk.writeC (so : StOk K b ρ S H) {k : Nat} {a : Addr} {c d : Cell} {o : HO} {p : Bool} (hk : S.cells[k]? = some c) (nc : c.isRo = false) (e : ρ[k]? = some a) (kp : Keep H (upd H a o)) (hd : CellOk K ρ (upd H a o) a d) : StOk K b ρ (S.wr b k d p) (upd H a o) := by
  have hkl := (List.getElem?_eq_some_iff.mp hk).1
  have get : ∀ {j : Nat} {c : Cell}, (S.cells.set k d)[j]? = some c → (j = k ∧ c = d) ∨ (j ≠ k ∧ S.cells[j]? = some c) := fun {j c} q => by
    by_cases hj : k = j
    · subst hj
      rw [List.getElem?_set_self hkl] at q
      cases q; exact .inl ⟨rfl, rfl⟩
    · rw [List.getElem?_set_ne hj] at q
      exact .inr ⟨fun z => hj z.symm, q⟩
  have get' : ∀ {j : Nat} {c : Cell}, (S.cells.set k d)[j]? = some c → c.isRo = false → ∃ c', S.cells[j]? = some c' ∧ c'.isRo = false := fun {j c} q hc => by
    rcases get q with ⟨rfl, rfl⟩ | ⟨_, q⟩
    · exact ⟨_, hk, nc⟩
    · exact ⟨_, q, hc⟩
  refine ⟨by simp [Sto.wr, so.len], fun j c a' q e' => ?_, fun j i a' c d e1 e2 q1 q2 n1 n2 => ?_, by have := so.base; simp [Sto.wr]; omega⟩
  · rcases get (show (S.cells.set k d)[j]? = some c from q) with ⟨rfl, rfl⟩ | ⟨hj, q⟩
    · rw [e] at e'; cases e'
      exact hd
    · refine (so.cell j c a' q e').keep kp (List.prefix_refl _) fun nr u _ z => ?_
      rw [upd_ne fun (z' : a' = a) => hj (so.inj j k a c _ (by rw [← z']; exact e') e q hk nr nc)]
      exact z
  · obtain ⟨c', q1', n1'⟩ := get' (show (S.cells.set k _)[j]? = some c from q1) n1
    obtain ⟨d', q2', n2'⟩ := get' (show (S.cells.set k _)[i]? = some d from q2) n2
    exact so.inj j i a' c' d' e1 e2 q1' q2' n1' n2'
/-- a list is written -/
theorem StOk.write (so : StOk K b ρ S H) {k : Nat} {a : Addr} {ys xs : List PV} {vs : List V} {p : Bool} (hk : S.cells[k]? = some (.lst ys)) (e : ρ[k]? = some a) (r : RelPs K ρ H xs vs) : StOk K b ρ (S.wr b k (.lst xs) p) (upd H a (.lst vs)) := by
  obtain ⟨ws, _, hw⟩ := so.lst hk e
  exact so.writeC hk rfl e (.wlst hw) ⟨vs, r.mono (.wlst hw) (List.prefix_refl _), upd_same⟩
end
end MP
end
section
set_option Elab.async false
set_option linter.all false
set_option maxRecDepth 100000
/-! MPSound2: what a run promises; how promises are joined. -/
namespace MP
open PySem L2
variable [RT]
/-- a cell is written -/
theorem Grow.writeC {b : Nat} {ρ : List Addr} {S : Sto} {H : Hp} {k : Nat} {a : Addr} {c d : Cell} {o : HO} {v : PV} (hk : S.cells[k]? = some c) (ha : ρ[k]? = some a) (kp : Keep H (upd H a o))
    (hu : ∀ n, c.und n = true → v.und n = true → d.und n = true) : Grow b ρ ρ S (S.wr b k d v.pure) H (upd H a o) := by
  have hkl := (List.getElem?_eq_some_iff.mp hk).1
  refine ⟨kp, List.prefix_refl _, by simp [Sto.wr], fun q u e n => ⟨by rw [upd_ne fun z => n (by rw [z]; exact List.mem_of_getElem? ha)]; exact e, n⟩, fun e => ?_⟩
  have e' : S.dirty = false ∧ (decide (k < b) && !v.pure) = false := by simpa [Sto.wr] using e
  refine ⟨e'.1, fun n hn u j c' hj q => ?_⟩
  by_cases hjk : k = j
  · subst hjk
    rw [show (S.wr b k d v.pure).cells = S.cells.set k d from rfl, List.getElem?_set_self hkl] at q
    cases q
    have hkb : decide (k < b) = true := by simp; omega
    have pv : v.pure = true := by
      have := e'.2
      rw [hkb] at this
      simpa using this
    exact hu n (u k _ hj hk) (PV.und_of_pure pv)
  · rw [show (S.wr b k d v.pure).cells = S.cells.set k d from rfl, List.getElem?_set_ne hjk] at q
    exact u j c' hj q
theorem Grow.write {b : Nat} {ρ : List Addr} {S : Sto} {H : Hp} {k : Nat} {a : Addr} {ys xs : List PV} {vs ws : List V} {v : PV} (hk : S.cells[k]? = some (.lst ys)) (ha : ρ[k]? = some a) (hw : H a = some (.lst ws))
    (hu : ∀ n, PV.unds n ys = true → v.und n = true → PV.unds n xs = true) : Grow b ρ ρ S (S.wr b k (.lst xs) v.pure) H (upd H a (.lst vs)) :=
  .writeC hk ha (.wlst hw) fun n h1 h2 => by simpa [Cell.und] using hu n (by simpa [Cell.und] using h1) h2
/-! ### things that are locked -/
/-- what is wanted, or it is wanted once a thing is locked -/
def lk (Q : VK) : VK := fun v H => Q v H ∨ ∃ p u, H p = some u ∧ Mut (some u) ∧ ∀ o, Q v (upd H p (.frz o u))
theorem EP.unlk {X : Cx} {pins : List (Addr × Obj)} {σ : L2.St} {Q : VK} {u : Value} {s : Shared} (h : EP X pins σ (lk Q) u s) : EP X pins σ Q u s := by
  obtain ⟨v, H, I, r, q⟩ := h
  rcases q with q | ⟨p, w, e, mu, q⟩
  · exact ⟨v, H, I, r, q⟩
  · obtain ⟨o, J⟩ := I.lock e mu
    exact ⟨v, _, J, r, q o⟩
theorem PE.lock {X : Cx} {e : Expr} {t : TE} (h : PE X e t) : PE X e (fun σ H Q => t σ H (lk Q)) :=
  ⟨fun pins s σ H Q I q => thn (h.run pins s σ H _ I q) fun _ _ z => EP.unlk z⟩
/-- a list that is new and locked -/
theorem lock_new {b : Nat} {ρ : List Addr} {S : Sto} {H : Hp} {K : PySem.W.Frag} {Q : VK} {p : Addr} {xs : List PV} {vs : List V} (so : StOk K b ρ S H) (hp : H p = none) (r : RelPs K ρ H xs vs)
    (h : ∀ H' w, Grow b ρ ρ S S H H' → StOk K b ρ S H' → RelP K ρ H' (.lst xs) w → Q w H') : lk Q (.ref p) (upd H p (.lst vs)) := by
  refine .inr ⟨p, .lst vs, upd_same, trivial, fun o => ?_⟩
  rw [upd_upd]
  exact h _ _ (.alloc hp) (so.alloc hp) (.lst (.inl ⟨o, upd_same⟩) (r.mono (.new hp) (List.prefix_refl _)))
/-! ### exceptions -/
/-- the text's exception classes: where they stand, the names of their attributes -/
structure Exc where
  n : Nat
  at_ : Nat → Addr
  attrs : Nat → List Str
def ExcOk (K : PySem.W.Frag) (T : Exc) (ρ : List Addr) (H : Hp) (c : Nat) (as : List PV) (cls : Value) (d : Option Addr) : Prop :=
  c < T.n ∧ cls = .ref (T.at_ c) ∧ as.length = (T.attrs c).length ∧ ((T.attrs c = [] ∧ d = none) ∨ T.attrs c ≠ [] ∧ ∃ dd ws, d = some dd ∧ H dd = some (.xd ((T.attrs c).zip ws)) ∧ RelPs K ρ H as ws)
theorem ExcOk.mono {K : PySem.W.Frag} {T : Exc} {ρ ρ' : List Addr} {H H' : Hp} {c : Nat} {as : List PV} {cls : Value} {d : Option Addr} (k : Keep H H') (p : ρ <+: ρ') (x : ExcOk K T ρ H c as cls d) : ExcOk K T ρ' H' c as cls d := by
  obtain ⟨h0, h1, h2, h3⟩ := x
  refine ⟨h0, h1, h2, h3.imp id fun ⟨n, dd, ws, e, z, r⟩ => ⟨n, dd, ws, e, k.xd _ _ z, r.mono k p⟩⟩
/-! ### the slots -/
/-- the exception that a suite holds: its slot, its address, its class's number, its class and dict -/
structure Held where
  i : Nat
  a : Addr
  c : Nat
  cls : Value
  d : Option Addr
structure EnvOk (K : PySem.W.Frag) (T : Exc) (ex : Option Held) (ρ : List Addr) (H : Hp) (σ : Env) (τ : L2.St) : Prop where
  len : σ.length = τ.length
  val : ∀ (i : Nat) (v : PV), σ[i]? = some (some v) → (∀ x, ex = some x → x.i ≠ i) → ∃ w, τ[i]? = some (some w) ∧ RelP K ρ H v w
  held : ∀ x, ex = some x → ∃ as, σ[x.i]? = some (some (.tup (.int x.c :: as))) ∧ τ[x.i]? = some (some (.ref x.a)) ∧ ExcOk K T ρ H x.c as x.cls x.d
theorem EnvOk.mono {K : PySem.W.Frag} {T : Exc} {ex : Option Held} {ρ ρ' : List Addr} {H H' : Hp} {σ : Env} {τ : L2.St} (e : EnvOk K T ex ρ H σ τ) (k : Keep H H') (p : ρ <+: ρ') : EnvOk K T ex ρ' H' σ τ :=
  ⟨e.len, fun i v h n => let ⟨w, h1, h2⟩ := e.val i v h n; ⟨w, h1, h2.mono k p⟩, fun x hx => let ⟨as, h1, h2, h3⟩ := e.held x hx; ⟨as, h1, h2, h3.mono k p⟩⟩
theorem EnvOk.grow {K : PySem.W.Frag} {T : Exc} {ex : Option Held} {b : Nat} {ρ ρ' : List Addr} {S S' : Sto} {H H' : Hp} {σ : Env} {τ : L2.St} (e : EnvOk K T ex ρ H σ τ) (g : Grow b ρ ρ' S S' H H') : EnvOk K T ex ρ' H' σ τ := e.mono g.keep g.pre
theorem EnvOk.setH {K : PySem.W.Frag} {T : Exc} {ex : Option Held} {ρ : List Addr} {H : Hp} {σ : Env} {τ : L2.St} {v : PV} {w : V} (e : EnvOk K T ex ρ H σ τ) (i : Nat) (r : RelP K ρ H v w) (hi : ∀ x, ex = some x → x.i ≠ i) : EnvOk K T ex ρ H (σ.set i (some v)) (τ.set i (some w)) := by
  refine ⟨by simp [e.len], fun j u h n => ?_, fun x hx => by
    have ne := hi x hx
    obtain ⟨as, h1, h2, h3⟩ := e.held x hx
    exact ⟨as, by rw [List.getElem?_set_ne (Ne.symm ne)]; exact h1, by rw [List.getElem?_set_ne (Ne.symm ne)]; exact h2, h3⟩⟩
  by_cases hj : i = j
  · subst hj
    by_cases hi : i < σ.length
    · rw [List.getElem?_set_self hi] at h
      cases h
      exact ⟨w, by rw [List.getElem?_set_self (by rw [← e.len]; exact hi)], r⟩
    · rw [List.getElem?_eq_none (by simpa using hi)] at h; cases h
  · rw [List.getElem?_set_ne hj] at h
    rw [List.getElem?_set_ne hj]
    exact e.val j u h n
theorem EnvOk.set {K : PySem.W.Frag} {T : Exc} {ρ : List Addr} {H : Hp} {σ : Env} {τ : L2.St} {v : PV} {w : V} (e : EnvOk K T none ρ H σ τ) (i : Nat) (r : RelP K ρ H v w) : EnvOk K T none ρ H (σ.set i (some v)) (τ.set i (some w)) := e.setH i r fun x hx => by cases hx
theorem EnvOk.unset {K : PySem.W.Frag} {T : Exc} {ρ : List Addr} {H : Hp} {σ : Env} {τ : L2.St} (e : EnvOk K T none ρ H σ τ) (i : Nat) : EnvOk K T none ρ H (σ.set i none) (τ.set i none) := by
  refine ⟨by simp [e.len], fun j u h n => ?_, fun x hx => by cases hx⟩
  by_cases hj : i = j
  · subst hj
    by_cases hi : i < σ.length
    · rw [List.getElem?_set_self hi] at h; cases h
    · rw [List.getElem?_eq_none (by simpa using hi)] at h; cases h
  · rw [List.getElem?_set_ne hj] at h
    rw [List.getElem?_set_ne hj]
    exact e.val j u h n
theorem EnvOk.wipe {K : PySem.W.Frag} {T : Exc} {ρ : List Addr} {H : Hp} {σ : Env} {τ : L2.St} (e : EnvOk K T none ρ H σ τ) : ∀ own : List Nat, EnvOk K T none ρ H (MP.wipe σ own) (L2.wipe τ own)
  | [] => e
  | v :: vs => (EnvOk.wipe e vs).unset v
/-! ### promises of runs -/
section
variable (K : PySem.W.Frag) (T : Exc) (b : Nat)
/-- rel: how a result lies -/
def At {α β : Type} (E : XK) (rel : List Addr → Hp → α → β → Prop) (ρ : List Addr) (S : Sto) (H : Hp) (res : R α) (Q : β → Hp → Prop) : Prop := match res with
  | .ok v S' => ∀ ρ' H' w, Grow b ρ ρ' S S' H H' → StOk K b ρ' S' H' → rel ρ' H' v w → Q w H'
  | .exc c as S' => ∀ ρ' H' cls d, Grow b ρ ρ' S S' H H' → StOk K b ρ' S' H' → ExcOk K T ρ' H' c as cls d → E cls d H'
  | .bad => False
def tG {α β : Type} (ex : Option Held) (W : WX) (rel : List Addr → Hp → α → β → Prop) (r : Env → Sto → R α) : L2.St → Hp → (β → Hp → Prop) → Prop := fun τ H Q =>
  ∃ ρ σ S, StOk K b ρ S H ∧ EnvOk K T ex ρ H σ τ ∧ At K T b (fun cls d H' => W cls d τ H') rel ρ S H (r σ S) Q
/-- how a walk lies: the items as the iterator gives them -/
structure WalkOk (ρ : List Addr) (H : Hp) (w : Walk) (J : L2.It) : Prop where
  ex : ∃ (n : Nat) (G : Hp → Prop) (Y : Nat → Hp → V → Hp → Prop), L2.Walk J n G Y ∧ w.1.length = n ∧
    (∀ ρ' S' H', Keep H H' → ρ <+: ρ' → StOk K b ρ' S' H' → stands S' w.2 = true → G H') ∧
    (∀ ρ' S' H' i x it H2, Keep H H' → ρ <+: ρ' → StOk K b ρ' S' H' → stands S' w.2 = true → w.1[i]? = some it → Y i H' x H2 → Grow b ρ' ρ' S' S' H' H2 ∧ StOk K b ρ' S' H2 ∧ RelP K ρ' H2 it x)
def relE : List Addr → Hp → PV → V → Prop := fun ρ H => RelP K ρ H
def relT : List Addr → Hp → Bool → Bool → Prop := fun _ _ a c => a = c
def relO : List Addr → Hp → Option Int → Option Int → Prop := fun _ _ a c => a = c
def relA : List Addr → Hp → List PV → List V → Prop := fun ρ H => RelPs K ρ H
def AtS (ex : Option Held) (W : WX) (D : Ends) (ρ : List Addr) (S : Sto) (H : Hp) (res : RS) : Prop := match res with
  | .next σ S' => ∀ ρ' H' τ, Grow b ρ ρ' S S' H H' → StOk K b ρ' S' H' → EnvOk K T ex ρ' H' σ τ → D.nx τ H'
  | .brk σ S' => ∀ ρ' H' τ, Grow b ρ ρ' S S' H H' → StOk K b ρ' S' H' → EnvOk K T ex ρ' H' σ τ → D.bk τ H'
  | .cont σ S' => ∀ ρ' H' τ, Grow b ρ ρ' S S' H H' → StOk K b ρ' S' H' → EnvOk K T ex ρ' H' σ τ → D.ct τ H'
  | .ret v S' => ∀ ρ' H' w, Grow b ρ ρ' S S' H H' → StOk K b ρ' S' H' → RelP K ρ' H' v w → D.rt w H'
  | .exc c as σ S' => ∀ ρ' H' τ cls d, Grow b ρ ρ' S S' H H' → StOk K b ρ' S' H' → EnvOk K T ex ρ' H' σ τ → ExcOk K T ρ' H' c as cls d → W cls d τ H'
  | .bad => False
def tS (ex : Option Held) (W : WX) (r : Env → Sto → RS) : TS := fun D τ H => ∃ ρ σ S, StOk K b ρ S H ∧ EnvOk K T ex ρ H σ τ ∧ AtS K T b ex W D ρ S H (r σ S)
end
section
variable {K : PySem.W.Frag} {T : Exc} {b : Nat} {E : XK} {α β γ δ : Type} {rel : List Addr → Hp → α → β → Prop} {rel2 : List Addr → Hp → γ → δ → Prop} {ρ ρ1 : List Addr} {S S1 : Sto} {H H1 : Hp}
theorem At.mono {res : R α} {Q Q' : β → Hp → Prop} (h : At K T b E rel ρ S H res Q) (hq : ∀ w H', Q w H' → Q' w H') : At K T b E rel ρ S H res Q' := by
  cases res with
  | ok v S' => exact fun ρ' H' w g s r => hq _ _ (h ρ' H' w g s r)
  | exc c as S' => exact h
  | bad => exact h
theorem At.grow {res : R α} {Q : β → Hp → Prop} (g : Grow b ρ ρ1 S S1 H H1) (h : At K T b E rel ρ S H res Q) : At K T b E rel ρ1 S1 H1 res Q := by
  cases res with
  | ok v S' => exact fun ρ' H' w g' s r => h ρ' H' w (g.trans g') s r
  | exc c as S' => exact fun ρ' H' cls d g' s r => h ρ' H' cls d (g.trans g') s r
  | bad => exact h
theorem At.less {c : Nat} {res : R α} {Q : β → Hp → Prop} (hb : b ≤ c) (hs : b ≤ S.cells.length) (h : At K T b E rel ρ S H res Q) : At K T c E rel ρ S H res Q := by
  have so : ∀ {ρ' : List Addr} {S' : Sto} {H' : Hp}, Grow c ρ ρ' S S' H H' → StOk K c ρ' S' H' → StOk K b ρ' S' H' := fun {ρ' S' H'} g s => ⟨s.len, s.cell, s.inj, Nat.le_trans hs g.len⟩
  cases res with
  | ok v S' => exact fun ρ' H' w g' s r => h ρ' H' w (g'.less hb) (so g' s) r
  | exc c as S' => exact fun ρ' H' cls d g' s r => h ρ' H' cls d (g'.less hb) (so g' s) r
  | bad => exact h
/-- one run behind another -/
theorem At.bd {r : R α} {f : α → Sto → R γ} {Q : δ → Hp → Prop} (h : At K T b E rel2 ρ S H (r.bd f) Q) :
    At K T b E rel ρ S H r (fun w H1 => ∃ ρ1 v S1, r = .ok v S1 ∧ Grow b ρ ρ1 S S1 H H1 ∧ StOk K b ρ1 S1 H1 ∧ rel ρ1 H1 v w ∧ At K T b E rel2 ρ1 S1 H1 (f v S1) Q) := by
  cases r with
  | ok v S' => exact fun ρ' H' w g s r => ⟨ρ', v, S', rfl, g, s, r, At.grow g (show At K T b E rel2 ρ S H (f v S') Q from h)⟩
  | exc c as S' => exact h
  | bad => exact h
theorem At.ok {v : α} {w : β} {Q : β → Hp → Prop} (so : StOk K b ρ S H) (h : At K T b E rel ρ S H (.ok v S) Q) (r : rel ρ H v w) : Q w H := h ρ H w .refl so r
theorem At.opt {o : Option α} {Q : β → Hp → Prop} (h : At K T b E rel ρ S H (MP.opt o S) Q) : ∃ v, o = some v ∧ At K T b E rel ρ S H (.ok v S) Q := by
  cases o with
  | none => exact h.elim
  | some v => exact ⟨v, rfl, h⟩
theorem AtS.grow {ex : Option Held} {W : WX} {D : Ends} {res : RS} (g : Grow b ρ ρ1 S S1 H H1) (h : AtS K T b ex W D ρ S H res) : AtS K T b ex W D ρ1 S1 H1 res := by
  cases res with
  | next σ S' => exact fun ρ' H' τ g' s e => h ρ' H' τ (g.trans g') s e
  | brk σ S' => exact fun ρ' H' τ g' s e => h ρ' H' τ (g.trans g') s e
  | cont σ S' => exact fun ρ' H' τ g' s e => h ρ' H' τ (g.trans g') s e
  | ret v S' => exact fun ρ' H' τ g' s e => h ρ' H' τ (g.trans g') s e
  | exc c as σ S' => exact fun ρ' H' τ cls d g' s e => h ρ' H' τ cls d (g.trans g') s e
  | bad => exact h
/-- an expression's run ahead of the rest of a statement -/
theorem AtS.st {ex : Option Held} {W : WX} {D : Ends} {r : R α} {σ : Env} {τ : L2.St} {f : α → Sto → RS} (eo : EnvOk K T ex ρ H σ τ) (h : AtS K T b ex W D ρ S H (r.st σ f)) :
    At K T b (fun cls d H' => W cls d τ H') rel ρ S H r (fun w H1 => ∃ ρ1 v S1, r = .ok v S1 ∧ Grow b ρ ρ1 S S1 H H1 ∧ StOk K b ρ1 S1 H1 ∧ EnvOk K T ex ρ1 H1 σ τ ∧ rel ρ1 H1 v w ∧ AtS K T b ex W D ρ1 S1 H1 (f v S1)) := by
  cases r with
  | ok v S' => exact fun ρ' H' w g s r => ⟨ρ', v, S', rfl, g, s, eo.grow g, r, AtS.grow g (show AtS K T b ex W D ρ S H (f v S') from h)⟩
  | exc c as S' => exact fun ρ' H' cls d g s x => h ρ' H' τ cls d g s (eo.grow g) x
  | bad => exact h
end
end MP
end
section
set_option Elab.async false
set_option linter.all false
set_option maxRecDepth 100000
/-! MPSound3: the operators. -/
namespace MP
open PySem PySem.Spec PyProof.Rows L2
theorem PE.weak {X : Cx} {e : Expr} {t t' : TE} (h : PE X e t) (w : ∀ σ H Q, t' σ H Q → t σ H Q) : PE X e t' := ⟨fun pins s σ H Q I q => h.run pins s σ H Q I (w σ H Q q)⟩
theorem PT.weak {X : Cx} {e : Expr} {t t' : TT} (h : PT X e t) (w : ∀ σ H Q, t' σ H Q → t σ H Q) : PT X e t' := ⟨fun pins s σ H Q I q => h.run pins s σ H Q I (w σ H Q q)⟩
theorem PW.weak {X : Cx} {e : Expr} {t t' : TT} (h : PW X e t) (w : ∀ σ H Q, t' σ H Q → t σ H Q) : PW X e t' := ⟨fun wh pins s σ H Q I q => h.run wh pins s σ H Q I (w σ H Q q)⟩
theorem PA.weak {X : Cx} {e : List Expr} {t t' : TA} (h : PA X e t) (w : ∀ σ H Q, t' σ H Q → t σ H Q) : PA X e t' := ⟨fun pos pins s σ H Q I q => h.run pos pins s σ H Q I (w σ H Q q)⟩
theorem PO.weak {X : Cx} {e : Option Expr} {t t' : TO} (h : PO X e t) (w : ∀ σ H Q, t' σ H Q → t σ H Q) : PO X e t' := ⟨fun pins s σ H Q I q => h.run pins s σ H Q I (w σ H Q q)⟩
theorem PS.weak {X : Cx} {e : Stmt} {t t' : TS} (h : PS X e t) (w : ∀ D σ H, t' D σ H → t D σ H) : PS X e t' := ⟨fun pins s σ H D I q => h.run pins s σ H D I (w D σ H q)⟩
theorem PSs.weak {X : Cx} {e : List Stmt} {t t' : TS} (h : PSs X e t) (w : ∀ D σ H, t' D σ H → t D σ H) : PSs X e t' := ⟨fun pins s σ H D I q => h.run pins s σ H D I (w D σ H q)⟩
theorem OpR.weak {X : Cx} {f : Value → Value → Sem Value} {r r' : R2} (h : OpR X f r) (w : ∀ x y H Q, r' x y H Q → r x y H Q) : OpR X f r' := fun pins s σ H x y v u Q I rx ry q => h pins s σ H x y v u Q I rx ry (w x y H Q q)
theorem line_eq : (sizeLine : Nat) = lenMax := by unfold lenMax; exact sizeLine_eq
theorem log_bits (x : Int) : Builtin.Int.intBits x ≤ x.natAbs.log2 + 1 := by
  unfold Builtin.Int.intBits
  split <;> omega
theorem bits64 {x : Int} (h : x.natAbs < 2 ^ 64) : Builtin.Int.intBits x ≤ 64 := intBits_le_64 (by omega) (by omega)
theorem mulOk_ok {i j : Int} (h : mulOk i j = true) : IntMulOk i j := by
  unfold mulOk at h
  rw [Bool.or_eq_true, Bool.or_eq_true] at h
  rcases h with (h | h) | h
  · exact .of_left (bits64 (of_decide_eq_true h))
  · exact .of_right (bits64 (of_decide_eq_true h))
  · refine CMulX.ok ?_
    have h1 := log_bits i
    have h2 := log_bits j
    have h3 := of_decide_eq_true h
    unfold CMulX
    omega
section
variable {X : Cx}
theorem op_mulM : OpR X (binaryOp .Mult) (rI (fun i j => mulOk i j = true) fun i j => .int (i * j)) := opI fun _ _ _ _ _ _ _ hc q => mul_int q (mulOk_ok hc)
/-- where very great numbers may be divided -/
structure WideX (X : Cx) : Prop where
  depth : X.A.depth + Builtin.pylongFrames < recursionLimit
  seer : X.base.NoSeer
  tree : X.prog.given.tree = none
  top : ∃ env l, X.stack = env :: l ∧ env.scope.isGenerator = false ∧ env.scope.isCoroutine = false ∧ env.builtins = builtinsNs ∧ env.globals = mainGlobals
theorem WideX.room (W : WideX X) {pins : List (Addr × Obj)} {σ : L2.St} {H : Hp} {s : Shared} (I : Inv X pins σ H s) : PySem.PylongRoom (model X.prog X.w) X.A s := by
  obtain ⟨env, l, f, g1, g2, g3, g4⟩ := W.top
  exact PySem.PylongRoom.of I.nolimit W.depth (PySem.SeerAt.of (W.seer.keeps I.bk) W.tree (I.ok.frames.trans (congrArg some f)) g1 g2 g3 g4)
theorem op_fdivM (W : WideX X) : OpR X (binaryOp .FloorDiv) (rI (fun _ j => divOk j = true) fun i j => .int (i.fdiv j)) := by
  intro pins s σ H x y v u Q I rx ry h
  obtain ⟨i, j, rfl, rfl, hc, q⟩ := h
  obtain ⟨t, rfl⟩ := rx
  obtain ⟨t', rfl⟩ := ry
  exact floordiv_int (of_decide_eq_true hc) ⟨.int (i.fdiv j), H, I.tok _, ⟨_, rfl⟩, q⟩ (.inr (W.room I))
/-- list + list, of lists that may be locked -/
def rCatS (K : PySem.W.Frag) : R2 := fun x y H Q => ∃ a b xs ys, x = .ref a ∧ y = .ref b ∧ SqL K H a xs ∧ SqL K H b ys ∧ xs.length + ys.length ≤ sizeLine ∧ ∀ p, H p = none → Q (.ref p) (upd H p (.lst (xs ++ ys)))
theorem op_catS : OpR X (binaryOp .Add) (rCatS X.K) := by
  intro pins s σ H x y v u Q I rx ry h
  obtain ⟨a, b, xs, ys, rfl, rfl, ha, hb, hz, q⟩ := h
  cases rx
  cases ry
  obtain ⟨its, r1, p1, _⟩ := I.list ha
  obtain ⟨its2, r2, p2, _⟩ := I.list hb
  have l1 := r1.length
  have l2 := r2.length
  obtain ⟨⟨c1, d1, t1, s1⟩, o1, e1, n1, f1⟩ := p1.isList
  obtain ⟨⟨c2, d2, t2, s2⟩, o2, e2, n2, f2⟩ := p2.isList
  simp only at e1 f1 e2 f2
  subst e1 f1 e2 f2
  refine concat_meets ⟨_, o1, rfl⟩ ⟨_, o2, rfl⟩ noFill_list_add seq_list_add PySem.F.slot_list_add PySem.F.entry_list_add (PySem.F.args_list_add_2 _ _) (list_addW a b its.toArray its2.toArray n1 n2 d1 d2 s1 s2 (by rw [List.size_toArray, List.size_toArray, ← l1, ← l2]; exact hz)) ⟨o1, o2, ?_⟩
  have ea : its.toArray ++ its2.toArray = (its ++ its2).toArray := by simp
  rw [ea]
  exact ⟨.ref _, _, I.lnew (t' := s.toks) (r1.append r2) (by rw [List.length_append]; exact hz), rfl, q _ I.fresh⟩
theorem op_powM : OpR X (binaryOp .Pow) (rI (fun i j => powOk i j = true) fun i j => .int (i ^ j.toNat)) := opI fun _ _ _ _ _ _ _ hc q => by
  have h := Bool.and_eq_true_iff.mp hc
  have h2 := Bool.and_eq_true_iff.mp h.1
  exact pow_int_small (of_decide_eq_true h2.1) (of_decide_eq_true h2.2) (of_decide_eq_true h.2) q
theorem op_shlM : OpR X (binaryOp .LShift) (rI (fun i j => shlOk i j = true) fun i j => .int (i * 2 ^ j.toNat)) := opI fun i _ _ _ _ _ _ hc q => by
  have h := Bool.and_eq_true_iff.mp hc
  have h2 := of_decide_eq_true h.2
  have h3 := log_bits i
  exact lshift_int (of_decide_eq_true h.1) (by omega) q
end
def opOf : Op → Operator
  | .add => .Add
  | .sub => .Sub
  | .mul => .Mult
  | .fdiv => .FloorDiv
  | .mod => .Mod
  | .pow => .Pow
  | .shl => .LShift
section
variable [RT] {b : Nat}
variable {ρ : List Addr} {S : Sto} {H : Hp}
/-- what is wanted of a result: a new list, not yet locked, or another thing -/
def ResV (K : PySem.W.Frag) (b : Nat) (ρ : List Addr) (S : Sto) (H : Hp) (z : PV) (Q : VK) : Prop :=
  (∃ xs, z = .lst xs ∧ ∀ p vs, H p = none → RelPs K ρ H xs vs → Q (.ref p) (upd H p (.lst vs))) ∨ ((∀ xs, z ≠ .lst xs) ∧ ∀ H' w, Grow b ρ ρ S S H H' → StOk K b ρ S H' → RelP K ρ H' z w → Q w H')
theorem ResV.val {K : PySem.W.Frag} {z : PV} {Q : VK} {w : V} (h : ResV K b ρ S H z Q) (so : StOk K b ρ S H) (n : ∀ xs, z ≠ .lst xs) (r : RelP K ρ H z w) : Q w H := by
  rcases h with ⟨xs, e, _⟩ | ⟨_, h⟩
  · exact absurd e (n xs)
  · exact h H w .refl so r
theorem ResV.gen {K : PySem.W.Frag} {z : PV} {Q : VK} {H' : Hp} {w : V} (h : ResV K b ρ S H z Q) (n : ∀ xs, z ≠ .lst xs) (g : Grow b ρ ρ S S H H') (so : StOk K b ρ S H') (r : RelP K ρ H' z w) : Q w H' := by
  rcases h with ⟨xs, e, _⟩ | ⟨_, h⟩
  · exact absurd e (n xs)
  · exact h H' w g so r
theorem ResV.new {K : PySem.W.Frag} {xs : List PV} {Q : VK} (h : ResV K b ρ S H (.lst xs) Q) {p : Addr} {vs : List V} (hp : H p = none) (r : RelPs K ρ H xs vs) : Q (.ref p) (upd H p (.lst vs)) := by
  rcases h with ⟨ys, e, h⟩ | ⟨n, _⟩
  · cases e; exact h p vs hp r
  · exact absurd rfl (n xs)
/-- what is wanted of a locked result -/
theorem ResV.of {K : PySem.W.Frag} {z : PV} {Q : VK} (so : StOk K b ρ S H) (h : ∀ H' w, Grow b ρ ρ S S H H' → StOk K b ρ S H' → RelP K ρ H' z w → Q w H') : ResV K b ρ S H z (lk Q) := by
  cases z with
  | lst xs => exact .inl ⟨xs, rfl, fun p vs hp r => lock_new so hp r h⟩
  | _ => exact .inr ⟨fun _ e => (by cases e), fun H' w g s r => .inl (h H' w g s r)⟩
/-- what is wanted of a list that may be changed -/
theorem ResV.thaw {K : PySem.W.Frag} {xs : List PV} {Q : VK} (so : StOk K b ρ S H) (h : ∀ p vs, H p = none → RelPs K ρ H xs vs → Q (.ref p) (upd H p (.lst vs))) : ResV K b ρ S H (.lst xs) Q := .inl ⟨xs, rfl, h⟩
def rB (K : PySem.W.Frag) (b : Nat) (o : Op) : R2 := fun x y H Q => ∃ ρ S v u z, StOk K b ρ S H ∧ RelP K ρ H v x ∧ RelP K ρ H u y ∧ opV S o v u = some z ∧ ResV K b ρ S H z Q
theorem StOk.new {K : PySem.W.Frag} {ρ : List Addr} {S : Sto} {H : Hp} {p : Addr} (so : StOk K b ρ S H) : (ρ ++ [p])[S.len]? = some p := by
  unfold Sto.len
  rw [← so.len, List.getElem?_append_right (Nat.le_refl _)]
  simp
theorem rel_ne {K : PySem.W.Frag} {ρ : List Addr} {H : Hp} {xs : List PV} {vs : List V} (r : RelPs K ρ H xs vs) : vs = [] ↔ xs = [] := by
  cases r <;> simp
theorem rep_rel {K : PySem.W.Frag} {ρ : List Addr} {H : Hp} {xs : List PV} {vs : List V} (r : RelPs K ρ H xs vs) : ∀ n : Nat, RelPs K ρ H (List.replicate n xs).flatten (List.replicate n vs).flatten
  | 0 => .nil
  | n + 1 => by
    rw [List.replicate_succ, List.replicate_succ, List.flatten_cons, List.flatten_cons]
    exact r.app (rep_rel r n)
theorem lst_of {K : PySem.W.Frag} {ρ : List Addr} {S : Sto} {H : Hp} {x : PV} {v : V} {xs : List PV} (so : StOk K b ρ S H) (r : RelP K ρ H x v) (e : lstOf S x = some xs) : ∃ a vs, v = .ref a ∧ SqL K H a vs ∧ RelPs K ρ H xs vs := by
  unfold lstOf at e
  split at e
  · cases e
    obtain ⟨a, vs, rfl, h, rs⟩ := r.of_lst
    exact ⟨a, vs, rfl, h.sq, rs⟩
  · obtain ⟨a, rfl, ea⟩ := r.of_ref
    obtain ⟨vs, rs, hs⟩ := so.sql e ea
    exact ⟨a, vs, rfl, hs, rs⟩
  · cases e
theorem binOp_ok {X : Cx} (W : WideX X) (o : Op) : OpR X (binaryOp (opOf o)) (rB X.K b o) := by
  intro pins s σ H x y vx vy Q I rx ry h
  obtain ⟨ρ, S, v, u, z, so, rv, ru, hz, hq⟩ := h
  have fin : ∀ {w : V}, (∀ xs, z ≠ .lst xs) → RelP X.K ρ H z w → Q w H := fun {w} n r => hq.val so n r
  unfold opV at hz
  split at hz
  · obtain rfl := rv.of_int; obtain rfl := ru.of_int; cases hz
    exact op_add pins s σ H _ _ vx vy Q I rx ry ⟨_, _, rfl, rfl, fin (fun _ e => by cases e) (.int _)⟩
  · obtain rfl := rv.of_int; obtain rfl := ru.of_int; cases hz
    exact op_sub pins s σ H _ _ vx vy Q I rx ry ⟨_, _, rfl, rfl, fin (fun _ e => by cases e) (.int _)⟩
  · obtain rfl := rv.of_int; obtain rfl := ru.of_int
    split at hz
    · rename_i hc; cases hz
      exact op_mulM pins s σ H _ _ vx vy Q I rx ry ⟨_, _, rfl, rfl, hc, fin (fun _ e => by cases e) (.int _)⟩
    · cases hz
  · obtain rfl := rv.of_int; obtain rfl := ru.of_int
    split at hz
    · rename_i hc; cases hz
      exact (op_fdivM W) pins s σ H _ _ vx vy Q I rx ry ⟨_, _, rfl, rfl, hc, fin (fun _ e => by cases e) (.int _)⟩
    · cases hz
  · obtain rfl := rv.of_int; obtain rfl := ru.of_int
    split at hz
    · cases hz
    · rename_i hc; cases hz
      exact op_modN pins s σ H _ _ vx vy Q I rx ry ⟨_, _, rfl, rfl, hc, fin (fun _ e => by cases e) (.int _)⟩
  · obtain rfl := rv.of_int; obtain rfl := ru.of_int
    split at hz
    · rename_i hc; cases hz
      exact op_powM pins s σ H _ _ vx vy Q I rx ry ⟨_, _, rfl, rfl, hc, fin (fun _ e => by cases e) (.int _)⟩
    · cases hz
  · obtain rfl := rv.of_int; obtain rfl := ru.of_int
    split at hz
    · rename_i hc; cases hz
      exact op_shlM pins s σ H _ _ vx vy Q I rx ry ⟨_, _, rfl, rfl, hc, fin (fun _ e => by cases e) (.int _)⟩
    · cases hz
  · obtain rfl := rv.of_str; obtain rfl := ru.of_str
    split at hz
    · rename_i hc; cases hz
      exact op_add_str pins s σ H _ _ vx vy Q I rx ry ⟨_, _, rfl, rfl, by rw [line_eq]; exact hc, fin (fun _ e => by cases e) (.str _)⟩
    · cases hz
  · obtain ⟨a1, xs, rfl, h1, h2⟩ := rv.of_tup
    obtain ⟨a2, ys, rfl, h3, h4⟩ := ru.of_tup
    split at hz
    · rename_i hc; cases hz
      refine op_catA pins s σ H _ _ vx vy Q I rx ry ⟨_, _, xs, ys, rfl, rfl, h1, h3, by rw [line_eq, ← h2.length, ← h4.length]; exact hc, ?_, ?_, ?_⟩
      · intro e
        have e' := (rel_ne h2).mp e
        subst e'
        exact fin (fun _ e => by cases e) (.tup h3 (by simpa using h4))
      · intro _ e
        have e' := (rel_ne h4).mp e
        subst e'
        exact fin (fun _ e => by cases e) (.tup h1 (by simpa using h2))
      · intro _ _ p hp
        exact hq.gen (fun _ e => by cases e) (.alloc hp) (so.alloc hp) (.tup (SqT.of upd_same) ((h2.app h4).mono (.new hp) (List.prefix_refl _)))
    · cases hz
  · obtain ⟨a1, xs, rfl, h1, h2⟩ := rv.of_tup
    obtain rfl := ru.of_int
    split at hz
    · rename_i hc; cases hz
      have hc' := Bool.and_eq_true_iff.mp hc
      have hc2 := Bool.and_eq_true_iff.mp hc'.1
      have hc3 := Bool.and_eq_true_iff.mp hc2.1
      refine op_repT pins s σ H _ _ vx vy Q I rx ry ⟨_, _, xs, rfl, rfl, h1, fun e => ?_, of_decide_eq_true hc3.2, of_decide_eq_true hc2.2, by rw [← h2.length]; exact of_decide_eq_true hc'.2, fun p hp => ?_⟩
      · have e' := (rel_ne h2).mp e
        rw [e'] at hc3
        simp at hc3
      · exact hq.gen (fun _ e => by cases e) (.alloc hp) (so.alloc hp) (.tup (SqT.of upd_same) ((rep_rel h2 _).mono (.new hp) (List.prefix_refl _)))
    · cases hz
  · split at hz
    · rename_i xs ys q1 q2
      obtain ⟨p1, vs, rfl, h1, r1⟩ := lst_of so rv q1
      obtain ⟨p2, ws, rfl, h2, r2⟩ := lst_of so ru q2
      split at hz
      · rename_i hc; cases hz
        exact op_catS pins s σ H _ _ vx vy Q I rx ry ⟨p1, p2, vs, ws, rfl, rfl, h1, h2, by rw [line_eq, ← r1.length, ← r2.length]; exact hc, fun p hp => hq.new hp (r1.app r2)⟩
      · cases hz
    · cases hz
  · cases hz
end
end MP
namespace MP
open PySem PySem.Spec PyProof.Rows L2
/-! ### comparisons -/
def cmOf : Cm → CmpOp
  | .eq => .Eq
  | .ne => .NotEq
  | .lt => .Lt
  | .le => .LtE
  | .gt => .Gt
  | .ge => .GtE
  | .isn => .Is
  | .nisn => .IsNot
  | .inn => .In
  | .nin => .NotIn
section
variable [RT] {b : Nat} {K : PySem.W.Frag} {ρ : List Addr} {S : Sto} {H : Hp}
mutual
theorem dp_of : ∀ {x : PV} {v : V} {d : PyData}, RelP K ρ H x v → x.toD = some d → Dp K H v d
  | _, _, _, .non, e => by cases e; exact .non
  | _, _, _, .bl b, e => by cases e; exact .bl b
  | _, _, _, .int i, e => by cases e; exact .int i
  | _, _, _, .str x, e => by cases e; exact .str x
  | .tup xs, _, d, .tup h hs, e => by
    cases q : PV.toDs xs with
    | none => simp [PV.toD, q] at e
    | some ds =>
      have e' : PyData.tuple ds = d := by simpa [PV.toD, q] using e
      subst e'
      exact .tup h (dps_of hs q)
  | .lst xs, _, d, .lst h hs, e => by
    cases q : PV.toDs xs with
    | none => simp [PV.toD, q] at e
    | some ds =>
      have e' : PyData.list ds = d := by simpa [PV.toD, q] using e
      subst e'
      exact .lst h.sq (dps_of hs q)
  | _, _, _, .obj _ _, e => by simp [PV.toD] at e
  | _, _, _, .ref _, e => by simp [PV.toD] at e
theorem dps_of : ∀ {xs : List PV} {vs : List V} {ds : List PyData}, RelPs K ρ H xs vs → PV.toDs xs = some ds → DpAll K H vs ds
  | _, _, _, .nil, e => by cases e; exact .nil
  | x :: xs, _, ds, .cons h hs, e => by
    cases q : x.toD with
    | none => simp [PV.toDs, q] at e
    | some d =>
      cases q2 : PV.toDs xs with
      | none => simp [PV.toDs, q, q2] at e
      | some es =>
        have e' : d :: es = ds := by simpa [PV.toDs, q, q2] using e
        subst e'
        exact .cons (dp_of h q) (dps_of hs q2)
end
theorem dpS_of (so : StOk K b ρ S H) {x : PV} {v : V} {d : PyData} (r : RelP K ρ H x v) (e : toDS S x = some d) : Dp K H v d := by
  unfold toDS at e
  split at e
  · obtain ⟨a, rfl, ea⟩ := r.of_ref
    split at e
    · rename_i xs q
      obtain ⟨vs, rs, hs⟩ := so.sql q ea
      cases q2 : PV.toDs xs with
      | none => rw [q2] at e; cases e
      | some ds =>
        rw [q2] at e; cases e
        exact .lst hs (dps_of rs q2)
    · cases e
  · exact dp_of r e
theorem flat_of {x : PV} {v : V} (r : RelP K ρ H x v) (f : x.flat = true) : flatV v = true := by
  cases r <;> first | rfl | cases f
theorem eqF_of {x y : PV} {v u : V} (r : RelP K ρ H x v) (q : RelP K ρ H y u) (f : x.flat = true) (g : y.flat = true) : x.eqF y = L2.eqV v u := by
  cases r <;> cases q <;> first | rfl | (exact absurd f (by decide)) | (exact absurd g (by decide)) | (simp [PV.flat] at f) | (simp [PV.flat] at g)
theorem flats_of : ∀ {xs : List PV} {vs : List V}, RelPs K ρ H xs vs → xs.all PV.flat = true → vs.all flatV = true
  | _, _, .nil, _ => rfl
  | _, _, .cons r t, f => by
    rw [List.all_cons, Bool.and_eq_true] at f
    rw [List.all_cons, flat_of r f.1, flats_of t f.2]
    rfl
theorem inF_of {y : PV} {u : V} (q : RelP K ρ H y u) (g : y.flat = true) : ∀ {xs : List PV} {vs : List V}, RelPs K ρ H xs vs → xs.all PV.flat = true → (xs.any fun z => z.eqF y) = inV u vs
  | _, _, .nil, _ => rfl
  | _, _, .cons r t, f => by
    rw [List.all_cons, Bool.and_eq_true] at f
    have ih := inF_of q g t f.2
    rw [List.any_cons, ih, eqF_of r q f.1 g]
    rfl
theorem seq_of (so : StOk K b ρ S H) {y : PV} {u : V} {xs : List PV} (r : RelP K ρ H y u) (e : seqOf S y = some xs) : ∃ a vs, u = .ref a ∧ RelPs K ρ H xs vs ∧ (SqL K H a vs ∨ SqT K H a vs) := by
  unfold seqOf at e
  split at e
  · cases e
    obtain ⟨a, vs, rfl, h, rs⟩ := r.of_tup
    exact ⟨a, vs, rfl, rs, .inr h⟩
  · cases e
    obtain ⟨a, vs, rfl, h, rs⟩ := r.of_lst
    exact ⟨a, vs, rfl, rs, .inl h.sq⟩
  · obtain ⟨a, rfl, ea⟩ := r.of_ref
    obtain ⟨vs, rs, hs⟩ := so.sql e ea
    exact ⟨a, vs, rfl, rs, .inl hs⟩
  · cases e
theorem ints_of : ∀ {xs : List PV} {vs : List V} {ns : List Int}, RelPs K ρ H xs vs → intsOf xs = some ns → vs = ns.map V.int
  | [], _, ns, .nil, e => by cases e; rfl
  | x :: xs, _, ns, .cons r t, e => by
    cases x with
    | int i =>
      cases q : intsOf xs with
      | none => simp [intsOf, q] at e
      | some ms =>
        have e' : i :: ms = ns := by simpa [intsOf, q] using e
        subst e'
        obtain rfl := r.of_int
        rw [ints_of t q]
        rfl
    | _ => simp [intsOf] at e
theorem lexI_eq : ∀ (as bs : List Int), lexI as bs = HT.lexLt as bs
  | [], [] => rfl
  | [], _ :: _ => rfl
  | _ :: _, [] => rfl
  | a :: as, b :: bs => by
    unfold lexI HT.lexLt
    rw [lexI_eq as bs]
def rC (K : PySem.W.Frag) (b : Nat) (o : Cm) : R2 := fun x y H Q => ∃ ρ S v u c, StOk K b ρ S H ∧ RelP K ρ H v x ∧ RelP K ρ H u y ∧ cmV S o v u = some c ∧ Q (.bl c) H
theorem cmOp_ok {X : Cx} (o : Cm) (hu' : X.A.units + 65 < cLine) : OpR X (compareOp (cmOf o)) (rC X.K b o) := by
  have hu : X.A.units + 64 < cLine := by omega
  intro pins s σ H x y vx vy Q I rx ry h
  obtain ⟨ρ, S, v, u, c, so, rv, ru, hc, q⟩ := h
  have int2 : ∀ {f : Int → Int → Bool}, cmI f v u = some c → ∃ i j, x = .int i ∧ y = .int j ∧ f i j = c := fun {f} e => by
    unfold cmI at e
    split at e
    · cases e
      exact ⟨_, _, rv.of_int, ru.of_int, rfl⟩
    · cases e
  have eqq : ∀ {d}, eqV S v u = some d → ∃ p e, Dp X.K H x p ∧ Dp X.K H y e ∧ SeqAt.shaped p = true ∧ SeqAt.shaped e = true ∧ PyData.eqv p e = d := fun {d} e => by
    unfold eqV at e
    split at e
    · rename_i p r q1 q2
      split at e
      · rename_i hs
        cases e
        have hs' := Bool.and_eq_true_iff.mp hs
        exact ⟨p, r, dpS_of so rv q1, dpS_of so ru q2, hs'.1, hs'.2, rfl⟩
      · cases e
    · cases e
  have isv : ∀ {d}, isV v u = some d → (y = .non ∧ d = decide (x = .non)) ∨ ∃ i j, x = .bl i ∧ y = .bl j ∧ d = decide (i = j) := fun {d} e => by
    unfold isV at e
    split at e
    · cases e; exact .inl ⟨ru.of_non, rv.is_non.symm⟩
    · split at e
      · cases e; exact .inr ⟨_, _, rv.of_bl, ru.of_bl, rfl⟩
      · cases e
    · cases e
  have inn : ∀ {d}, inSeq S v u = some d → (∃ p xs, y = .ref p ∧ (SqL X.K H p xs ∨ SqT X.K H p xs) ∧ flatV x = true ∧ xs.all flatV = true ∧ inV x xs = d) ∨ (∃ d' ds, Dp X.K H x d' ∧ Dp X.K H y (.list ds) ∧ SeqAt.shaped d' = true ∧ SeqAt.shaped (.list ds) = true ∧ (ds.any fun z => PyData.eqv z d') = d) ∨
      ∃ (k : Nat) (z : Str), x = .str ⟨#[k]⟩ ∧ y = .str z ∧ d = decide (k ∈ z.cps.toList) := fun {d} e => by
    unfold inSeq at e
    split at e
    · split at e
      · split at e
        · rename_i z _ z1 _ k hk
          cases e
          obtain rfl := rv.of_str
          obtain rfl := ru.of_str
          refine .inr (.inr ⟨k, z, ?_, rfl, rfl⟩)
          obtain ⟨cps⟩ := z1
          have hk' : cps = #[k] := by
            have h2 := congrArg List.toArray (show cps.toList = [k] from hk)
            simpa using h2
          rw [hk']
        · cases e
      · cases e
    · split at e
      · rename_i xs q1
        split at e
        · rename_i hs
          cases e
          have hs' := Bool.and_eq_true_iff.mp hs
          obtain ⟨a, vs, rfl, rs, hq⟩ := seq_of so ru q1
          exact .inl ⟨a, vs, rfl, hq, flat_of rv hs'.1, flats_of rs hs'.2, (inF_of rv hs'.1 rs hs'.2).symm⟩
        · unfold inDeep at e
          split at e
          · rename_i d' ds r1 r2
            split at e
            · rename_i hs
              cases e
              have hs' := Bool.and_eq_true_iff.mp hs
              exact .inr (.inl ⟨d', ds, dpS_of so rv r1, dpS_of so ru r2, hs'.1, hs'.2, rfl⟩)
            · cases e
          · cases e
      · cases e
  cases o with
  | eq =>
    obtain ⟨p, e, h1, h2, h3, h4, rfl⟩ := eqq hc
    exact op_eqD hu pins s σ H x y vx vy Q I rx ry ⟨p, e, h1, h2, h3, h4, q⟩
  | ne =>
    cases q1 : eqV S v u with
    | none => rw [show cmV S .ne v u = (eqV S v u).map (!·) from rfl, q1] at hc; cases hc
    | some d =>
      rw [show cmV S .ne v u = (eqV S v u).map (!·) from rfl, q1] at hc
      cases hc
      obtain ⟨p, e, h1, h2, h3, h4, rfl⟩ := eqq q1
      exact op_neD hu pins s σ H x y vx vy Q I rx ry ⟨p, e, h1, h2, h3, h4, q⟩
  | lt =>
    have hc : cmL v u = some c := hc
    unfold cmL at hc
    split at hc
    · cases hc
      obtain rfl := rv.of_int
      obtain rfl := ru.of_int
      exact op_lt pins s σ H _ _ vx vy Q I rx ry ⟨_, _, rfl, rfl, q⟩
    · split at hc
      · rename_i as bs q1 q2
        cases hc
        obtain ⟨a1, vs, rfl, h1, r1⟩ := rv.of_tup
        obtain ⟨a2, ws, rfl, h2, r2⟩ := ru.of_tup
        rw [ints_of r1 q1] at h1
        rw [ints_of r2 q2] at h2
        refine op_ltT (by omega) pins s σ H _ _ vx vy Q I rx ry ⟨a1, a2, as, bs, rfl, rfl, h1, h2, ?_⟩
        rw [lexI_eq] at q
        exact q
      · cases hc
    · cases hc
  | le =>
    obtain ⟨i, j, rfl, rfl, rfl⟩ := int2 (f := fun a b => decide (a ≤ b)) hc
    exact op_le pins s σ H _ _ vx vy Q I rx ry ⟨i, j, rfl, rfl, q⟩
  | gt =>
    obtain ⟨i, j, rfl, rfl, rfl⟩ := int2 (f := fun a b => decide (b < a)) hc
    exact op_gt pins s σ H _ _ vx vy Q I rx ry ⟨i, j, rfl, rfl, q⟩
  | ge =>
    obtain ⟨i, j, rfl, rfl, rfl⟩ := int2 (f := fun a b => decide (b ≤ a)) hc
    exact op_ge pins s σ H _ _ vx vy Q I rx ry ⟨i, j, rfl, rfl, q⟩
  | isn =>
    rcases isv hc with ⟨rfl, rfl⟩ | ⟨i, j, rfl, rfl, rfl⟩
    · exact op_isN pins s σ H x _ vx vy Q I rx ry ⟨rfl, q⟩
    · exact op_is_bl pins s σ H _ _ vx vy Q I rx ry ⟨_, _, rfl, rfl, q⟩
  | nisn =>
    cases q1 : isV v u with
    | none => rw [show cmV S .nisn v u = (isV v u).map (!·) from rfl, q1] at hc; cases hc
    | some d =>
      rw [show cmV S .nisn v u = (isV v u).map (!·) from rfl, q1] at hc
      cases hc
      rcases isv q1 with ⟨rfl, rfl⟩ | ⟨i, j, rfl, rfl, rfl⟩
      · exact op_notN pins s σ H x _ vx vy Q I rx ry ⟨rfl, q⟩
      · exact op_isnot_bl pins s σ H _ _ vx vy Q I rx ry ⟨_, _, rfl, rfl, q⟩
  | inn =>
    rcases inn hc with ⟨p, xs, h1, h2, h3, h4, rfl⟩ | ⟨d', ds, h1, h2, h3, h4, rfl⟩ | ⟨k, z, h1, h2, rfl⟩
    rotate_left 2
    · exact op_in_sign pins s σ H x y vx vy Q I rx ry ⟨k, z, h1, h2, q⟩
    · exact op_in_seq pins s σ H x y vx vy Q I rx ry ⟨p, xs, h1, h2, h3, h4, q⟩
    · exact op_inD hu' pins s σ H x y vx vy Q I rx ry ⟨d', ds, h1, h2, h3, h4, q⟩
  | nin =>
    cases q1 : inSeq S v u with
    | none => rw [show cmV S .nin v u = (inSeq S v u).map (!·) from rfl, q1] at hc; cases hc
    | some d =>
      rw [show cmV S .nin v u = (inSeq S v u).map (!·) from rfl, q1] at hc
      cases hc
      rcases inn q1 with ⟨p, xs, h1, h2, h3, h4, rfl⟩ | ⟨d', ds, h1, h2, h3, h4, rfl⟩ | ⟨k, z, h1, h2, rfl⟩
      rotate_left 2
      · exact op_notIn_sign pins s σ H x y vx vy Q I rx ry ⟨k, z, h1, h2, q⟩
      · exact op_notIn_seq pins s σ H x y vx vy Q I rx ry ⟨p, xs, h1, h2, h3, h4, q⟩
      · exact op_notInD hu' pins s σ H x y vx vy Q I rx ry ⟨d', ds, h1, h2, h3, h4, q⟩
end
/-! ### truth, items, slices -/
section
variable [RT] {b : Nat} {K : PySem.W.Frag} {ρ : List Addr} {S : Sto} {H : Hp}
theorem tru_of (so : StOk K b ρ S H) {x : PV} {v : V} {c : Bool} (r : RelP K ρ H x v) (e : truV S x = some c) : TruV K v H c := by
  have ie : ∀ {xs : List PV} {vs : List V}, RelPs K ρ H xs vs → (!xs.isEmpty) = !vs.isEmpty := fun {xs vs} r => by cases r <;> rfl
  unfold truV at e
  split at e
  · cases e; obtain rfl := r.of_non; rfl
  · cases e; obtain rfl := r.of_bl; rfl
  · cases e; obtain rfl := r.of_int; rfl
  · obtain rfl := r.of_str
    split at e
    · rename_i hl
      cases e
      refine ⟨by rw [line_eq]; exact hl, ?_⟩
      rw [Bool.eq_iff_iff]
      simp
    · cases e
  · cases e
    obtain ⟨a, vs, rfl, h, rs⟩ := r.of_tup
    exact .inr (.inl ⟨vs, h, ie rs⟩)
  · cases e
    obtain ⟨a, vs, rfl, h, rs⟩ := r.of_lst
    exact .inl ⟨vs, h.sq, ie rs⟩
  · cases e
  · obtain ⟨a, rfl, ea⟩ := r.of_ref
    split at e
    · rename_i xs q
      cases e
      obtain ⟨vs, rs, hs⟩ := so.sql (show S.lst? _ = some xs by unfold Sto.lst?; rw [q]) ea
      exact .inl ⟨vs, hs, ie rs⟩
    · rename_i xs q
      cases e
      obtain ⟨vs, rs, hs⟩ := so.sql (show S.lst? _ = some xs by unfold Sto.lst?; rw [q]) ea
      exact .inl ⟨vs, hs, ie rs⟩
    · cases e
theorem atI_rel {xs : List PV} {vs : List V} {i : Int} {x : PV} (r : RelPs K ρ H xs vs) (e : MP.itemAt xs i = some x) : ∃ v, L2.atI vs i = some v ∧ RelP K ρ H x v := by
  unfold MP.itemAt at e
  cases q : MP.placeOf xs.length i with
  | none => rw [q] at e; cases e
  | some j =>
    rw [q] at e
    have e' : xs[j]? = some x := e
    obtain ⟨v, h1, h2⟩ := r.get e'
    refine ⟨v, ?_, h2⟩
    unfold L2.atI
    rw [← r.length, show L2.ixN xs.length i = some j from q]
    exact h1
theorem edge_eq (n d : Nat) (o : Option Int) : HT.sIx n d o = MP.edge n d o := by
  cases o <;> rfl
theorem cut_rel {xs : List PV} {vs : List V} (r : RelPs K ρ H xs vs) (lo hi : Option Int) : RelPs K ρ H (cut xs lo hi) (cutV vs lo hi) := by
  unfold cut cutV
  rw [← r.length]
  simp only [edge_eq]
  exact (r.drop _).take _
theorem cut_whole {α : Type} {xs : List α} {lo hi : Option Int} (h1 : MP.edge xs.length 0 lo = 0) (h2 : MP.edge xs.length xs.length hi = xs.length) : cut xs lo hi = xs := by
  unfold cut
  rw [h1, h2]
  simp
end
end MP
end
section
set_option Elab.async false
set_option linter.all false
set_option maxRecDepth 100000
/-! MPSoundD: rows of ints sorted; dicts whose keys are rows of ints. -/
namespace MP
open PySem PySem.Spec PyProof.Rows L2
/-! ### sorting -/
theorem lexI_irr : ∀ as : List Int, lexI as as = false
  | [] => rfl
  | a :: as => by rw [lexI, if_pos rfl]; exact lexI_irr as
theorem lexI_asym : ∀ {as bs : List Int}, lexI as bs = true → lexI bs as = false
  | [], [], h => by cases h
  | [], _ :: _, _ => rfl
  | _ :: _, [], h => by cases h
  | a :: as, b :: bs, h => by
    rw [lexI] at h ⊢
    by_cases e : a = b
    · rw [if_pos e] at h
      rw [if_pos e.symm]
      exact lexI_asym h
    · rw [if_neg e] at h
      rw [if_neg fun z => e z.symm]
      have h := of_decide_eq_true h
      exact decide_eq_false (by omega)
theorem lexI_neg : ∀ {as bs cs : List Int}, lexI as bs = false → lexI bs cs = false → lexI as cs = false
  | [], bs, cs, h1, h2 => by
    cases bs with
    | nil => exact h2
    | cons _ _ => cases h1
  | a :: as, bs, [], h1, h2 => by cases bs <;> rfl
  | a :: as, [], c :: cs, h1, h2 => by cases h2
  | a :: as, b :: bs, c :: cs, h1, h2 => by
    rw [lexI] at h1 h2 ⊢
    by_cases e : a = b
    · rw [if_pos e] at h1
      by_cases e2 : b = c
      · rw [if_pos e2] at h2
        rw [if_pos (e.trans e2)]
        exact lexI_neg h1 h2
      · rw [if_neg e2] at h2
        rw [if_neg fun z => e2 (e.symm.trans z), e]
        exact h2
    · rw [if_neg e] at h1
      have h1 := of_decide_eq_false h1
      by_cases e2 : b = c
      · rw [if_neg fun z => e (z.trans e2.symm)]
        exact decide_eq_false (by omega)
      · rw [if_neg e2] at h2
        have h2 := of_decide_eq_false h2
        rw [if_neg (by omega)]
        exact decide_eq_false (by omega)
theorem lexI_tot : ∀ {as bs : List Int}, lexI as bs = false → lexI bs as = false → as = bs
  | [], [], _, _ => rfl
  | [], _ :: _, h, _ => by cases h
  | _ :: _, [], _, h => by cases h
  | a :: as, b :: bs, h1, h2 => by
    rw [lexI] at h1 h2
    by_cases e : a = b
    · rw [if_pos e] at h1
      rw [if_pos e.symm] at h2
      rw [e, lexI_tot h1 h2]
    · rw [if_neg e] at h1
      rw [if_neg fun z => e z.symm] at h2
      have h1 := of_decide_eq_false h1
      have h2 := of_decide_eq_false h2
      omega
section
variable {α : Type} {lt : α → α → Bool}
/-- none behind is below one ahead -/
abbrev SrtB (lt : α → α → Bool) (l : List α) : Prop := l.Pairwise fun a b => lt b a = false
theorem insL_perm (x : α) : ∀ l : List α, (insL lt x l).Perm (x :: l)
  | [] => .refl _
  | y :: ys => by
    unfold insL
    split
    · exact .refl _
    · exact ((insL_perm x ys).cons y).trans (.swap x y ys)
theorem sortL_perm (l : List α) : (sortL lt l).Perm l := by
  have z : ∀ (l acc : List α), (l.foldl (fun acc x => insL lt x acc) acc).Perm (acc ++ l) := by
    intro l
    induction l with
    | nil => intro acc; simp
    | cons x l ih =>
      intro acc
      refine (ih _).trans ?_
      refine ((insL_perm x acc).append_right l).trans ?_
      exact (List.perm_middle (a := x) (l₁ := acc) (l₂ := l)).symm
  have y := z l []
  rw [List.nil_append] at y
  exact y
theorem insL_srt (asym : ∀ {a b}, lt a b = true → lt b a = false) (tr : ∀ {a b c}, lt a b = false → lt b c = false → lt a c = false) (x : α) : ∀ {l : List α}, SrtB lt l → SrtB lt (insL lt x l)
  | [], _ => by unfold insL; exact List.pairwise_singleton _ _
  | y :: ys, h => by
    have h' := List.pairwise_cons.mp h
    unfold insL
    split
    · rename_i hx
      refine List.pairwise_cons.mpr ⟨fun z hz => ?_, h⟩
      rcases List.mem_cons.mp hz with rfl | hz
      · exact asym hx
      · exact tr (h'.1 z hz) (asym hx)
    · rename_i hx
      have hx : lt x y = false := by simpa using hx
      refine List.pairwise_cons.mpr ⟨fun z hz => ?_, insL_srt asym tr x h'.2⟩
      rcases List.mem_cons.mp ((insL_perm x ys).mem_iff.mp hz) with rfl | hz
      · exact hx
      · exact h'.1 z hz
theorem sortL_srt (asym : ∀ {a b}, lt a b = true → lt b a = false) (tr : ∀ {a b c}, lt a b = false → lt b c = false → lt a c = false) (l : List α) : SrtB lt (sortL lt l) := by
  have z : ∀ (l acc : List α), SrtB lt acc → SrtB lt (l.foldl (fun acc x => insL lt x acc) acc) := by
    intro l
    induction l with
    | nil => intro acc h; exact h
    | cons x l ih => intro acc h; exact ih (insL lt x acc) (insL_srt (lt := lt) asym tr x h)
  exact z l [] .nil
theorem srt_unique (tot : ∀ {a b}, lt a b = false → lt b a = false → a = b) : ∀ {l m : List α}, l.Perm m → SrtB lt l → SrtB lt m → l = m
  | [], m, p, _, _ => (List.nil_perm.mp p).symm
  | a :: l, [], p, _, _ => by have := p.length_eq; simp at this
  | a :: l, b :: m, p, h1, h2 => by
    have h1' := List.pairwise_cons.mp h1
    have h2' := List.pairwise_cons.mp h2
    have e : a = b := by
      rcases List.mem_cons.mp (p.mem_iff.mp (List.mem_cons_self (a := a) (l := l))) with e | ha
      · exact e
      · rcases List.mem_cons.mp (p.mem_iff.mpr (List.mem_cons_self (a := b) (l := m))) with e | hb
        · exact e.symm
        · exact tot (h2'.1 a ha) (h1'.1 b hb)
    subst e
    rw [srt_unique tot (List.Perm.cons_inv p) h1'.2 h2'.2]
end
/-! ### rows in the heap -/
def intV : Value → Int
  | .int i _ => i
  | _ => 0
def rowOf (h : Heap) : Value → List Int
  | .ref a => match h.get? a with
    | some o => match o.data with
      | .seq its _ => its.toList.map intV
      | _ => []
    | none => []
  | _ => []
def IsRow (h : Heap) (v : Value) (r : List Int) : Prop := ∃ a o its n, v = .ref a ∧ h.get? a = some o ∧ o.cls = .type "tuple" ∧ o.data = .seq its n ∧ Vals (r.map V.int) its.toList
theorem vals_intV : ∀ {r : List Int} {us : List Value}, Vals (r.map V.int) us → us.map intV = r
  | [], _, .nil => rfl
  | i :: r, _, .cons h t => by
    obtain ⟨t', rfl⟩ := h
    rw [List.map_cons, vals_intV t]
    rfl
theorem IsRow.of {h : Heap} {v : Value} {r : List Int} (x : IsRow h v r) : rowOf h v = r := by
  obtain ⟨a, o, its, n, rfl, ho, _, hd, rv⟩ := x
  unfold rowOf
  simp only [ho, hd]
  exact vals_intV rv
theorem IsRow.keeps {h h' : Heap} {v : Value} {r : List Int} (x : IsRow h v r) (k : ∀ b o, h.get? b = some o → o.cls = .type "tuple" → h'.get? b = some o) : IsRow h' v r :=
  let ⟨a, o, its, n, e, ho, hc, r⟩ := x; ⟨a, o, its, n, e, k a o ho hc, hc, r⟩
section
variable {prog : Program} {w : World} {A : Around} {s : Shared}
theorem row_lex {fin : Bool} : ∀ {xs ys : List Int} {us ws : List Value} (i : Nat) (Q : Bool → Shared → Prop), Vals (xs.map V.int) us → Vals (ys.map V.int) ws → (fin = true ↔ xs.length < ys.length) → Q (lexI xs ys) s →
    PySem.W.KatLex prog w A true fin Q (us.zip ws) i s
  | [], [], _, _, i, Q, .nil, .nil, hf, q => by
    have : fin = false := by cases fin with
      | false => rfl
      | true => exact absurd (hf.mp rfl) (by simp)
    rw [this]
    exact PySem.W.kat_nil q
  | [], y :: ys, _, _, i, Q, .nil, .cons _ _, hf, q => by
    have : fin = true := hf.mpr (by simp)
    rw [this]
    exact PySem.W.kat_nil q
  | x :: xs, [], _, _, i, Q, .cons _ _, .nil, hf, q => by
    have : fin = false := by cases fin with
      | false => rfl
      | true => exact absurd (hf.mp rfl) (by simp)
    rw [this]
    exact PySem.W.kat_nil q
  | x :: xs, y :: ys, _, _, i, Q, .cons h1 t1, .cons h2 t2, hf, q => by
    obtain ⟨t, rfl⟩ := h1
    obtain ⟨u, rfl⟩ := h2
    rw [lexI] at q
    refine PySem.W.kat_cons (SeqAt.EqAt.int_int x t y u prog w _ _ ?_)
    refine PySem.W.kat_go (fun e => ?_) (fun e => ?_)
    · have e' : x = y := by simpa using e
      rw [if_pos e'] at q
      exact PySem.W.kat_yes (row_lex (i + 1) Q t1 t2 (by simpa using hf) q)
    · have e' : ¬ x = y := by simpa using e
      rw [if_neg e'] at q
      refine PySem.W.kat_no ?_
      cases hb : (true && i == 0) with
      | true => exact oneLt_int q
      | false => exact PySem.W.kat_one _ _ (PyProof.Rows.lt_int q)
theorem row_cmp {vs : List Value} (hp : ∀ v ∈ vs, ∃ r, IsRow s.heap v r) : SrtO.Cmp prog w A s (tuples' true) (fun p => p.1 ∈ vs) (SrtO.lt2 fun v u => lexI (rowOf s.heap v) (rowOf s.heap u)) := by
  intro p q hm hm'
  obtain ⟨r1, h1⟩ := hp _ hm
  obtain ⟨r2, h2⟩ := hp _ hm'
  show wpAny (model prog w) A (keyLt' (tuples' true) p.1 q.1) (fun r s' => s' = s ∧ r = lexI (rowOf s.heap p.1) (rowOf s.heap q.1)) (fun _ _ => False) s
  rw [h1.of, h2.of]
  obtain ⟨a, o, its, n, e, ho, hc, hd, rv⟩ := h1
  obtain ⟨a', o', its', n', e', ho', hc', hd', rv'⟩ := h2
  rw [e, e']
  refine PySem.W.kat_lt ho hd ho' hd' (row_lex 0 _ rv rv' ?_ ⟨rfl, rfl⟩)
  have l1 := rv.length
  have l2 := rv'.length
  simp only [List.length_map, Array.length_toList] at l1 l2
  rw [decide_eq_true_eq]
  omega
theorem rows_first {h : Heap} : ∀ {vs : List Value}, (∀ v ∈ vs, ∃ r, IsRow h v r ∧ r ≠ []) → ∃ fs : List Value, PySem.W.KatTups h vs fs ∧ fs.length = vs.length ∧ ∀ f ∈ fs, ∃ x t, f = Value.int x t
  | [], _ => ⟨[], PySem.W.KatTups.nil, rfl, fun _ hm => by simp at hm⟩
  | v :: vs, hp => by
    obtain ⟨fs, h1, h2, h3⟩ := rows_first (vs := vs) fun u hm => hp u (List.mem_cons_of_mem _ hm)
    obtain ⟨r, ⟨a, o, its, n, e, ho, hc, hd, rv⟩, hr⟩ := hp v List.mem_cons_self
    subst e
    cases r with
    | nil => exact absurd rfl hr
    | cons i r =>
      obtain ⟨u, e1, e2⟩ : ∃ u, its[0]? = some u ∧ RelV (.int i) u := by
        obtain ⟨u, e1, e2⟩ := rv.get (i := 0) (x := .int i) (by rfl)
        exact ⟨u, by rw [← Array.getElem?_toList]; exact e1, e2⟩
      obtain ⟨t, rfl⟩ := e2
      refine ⟨.int i t :: fs, PySem.W.KatTups.cons ho hc hd e1 h1, by rw [List.length_cons, List.length_cons, h2], fun f hm => ?_⟩
      rcases List.mem_cons.mp hm with rfl | hm
      · exact ⟨i, t, rfl⟩
      · exact h3 f hm
theorem rows_sortable {a : Addr} {vs : List Value} (h0 : 0 < vs.length) (hp : ∀ v ∈ vs, ∃ r, IsRow s.heap v r ∧ r ≠ []) (ha : ∀ o, s.heap.get? a = some o → o.cls ≠ .type "tuple") : SrtO.SortableO prog w A s a vs fun v u => lexI (rowOf s.heap v) (rowOf s.heap u) := by
  intro h' keep
  have kp : ∀ v ∈ vs, ∃ r, IsRow h' v r ∧ r ≠ [] := fun v hm => let ⟨r, x, n⟩ := hp v hm; ⟨r, x.keeps fun b o e c => keep b o (fun z => by subst z; exact ha o e c) e, n⟩
  have same : ∀ v ∈ vs, rowOf h' v = rowOf s.heap v := fun v hm => by
    obtain ⟨r, x, n⟩ := hp v hm
    rw [x.of, (x.keeps fun b o e c => keep b o (fun z => by subst z; exact ha o e c) e).of]
  obtain ⟨fs, h1, h2, h3⟩ := rows_first kp
  refine ⟨tuples' true, fun Q E hq => ?_, fun p q hm hm' => ?_⟩
  · refine PySem.W.kat_kind (T := .type "int") h1 (by omega) (fun f hm => ?_) (by rfl) ?_
    · obtain ⟨x, t, rfl⟩ := h3 f hm
      exact PySem.W.Looks.now
    · have e : (Value.type "int" != Value.type "tuple") = true := by first | decide +kernel | rfl | decide
      rw [e]
      exact hq
  · have z := row_cmp (prog := prog) (w := w) (A := A) (s := { s with heap := h' }) (fun v hv => let ⟨r, x, _⟩ := kp v hv; ⟨r, x⟩) p q hm hm'
    unfold SrtO.lt2 at z ⊢
    simp only [same p.1 hm, same q.1 hm'] at z
    exact z
theorem swo_row (h : Heap) : SrtO.Swo fun v u => lexI (rowOf h v) (rowOf h u) :=
  ⟨fun x y h => lexI_asym h, fun x y z h1 h2 => lexI_neg h2 h1⟩
end
end MP
end
section
set_option Elab.async false
set_option linter.all false
set_option maxRecDepth 100000
set_option maxHeartbeats 1000000
/-! MPSoundE: subscripts, slices, dicts, built-in functions. -/
namespace MP
open PySem PySem.Spec PyProof.Rows L2
section
variable [RT] {b : Nat} {K : PySem.W.Frag} {ρ : List Addr} {S : Sto} {H : Hp}
/-! ### dicts -/
def RelOP (K : PySem.W.Frag) (ρ : List Addr) (H : Hp) : Option PV → Option V → Prop
  | some z, some w => RelP K ρ H z w
  | none, none => True
  | _, _ => False
theorem key_rel {y : PV} {v : V} {k : Key} (r : RelP K ρ H y v) (e : keyOf y = some k) : v = kV k := by
  unfold keyOf at e
  split at e
  · cases e; exact r.of_int
  · cases e; exact r.of_str
  · cases e
theorem dk_val {κ : Type} [DecidableEq κ] {kvs : List (κ × PV)} {ws : List (κ × V)} (r : Paired (fun (p : κ × PV) (q : κ × V) => p.1 = q.1 ∧ RelP K ρ H p.2 q.2) kvs ws) (k : κ) : RelOP K ρ H (valK kvs k) (valV ws k) := by
  induction r with
  | nil => exact trivial
  | @cons p q ps qs h t ih =>
    unfold valK valV at *
    rw [List.find?_cons, List.find?_cons, ← h.1]
    by_cases e : p.1 = k
    · simp only [e, decide_true]
      exact h.2
    · simp only [e, decide_false]
      exact ih
theorem dk_put {κ : Type} [DecidableEq κ] {kvs : List (κ × PV)} {ws : List (κ × V)} (r : Paired (fun (p : κ × PV) (q : κ × V) => p.1 = q.1 ∧ RelP K ρ H p.2 q.2) kvs ws) (k : κ) {v : PV} {w : V} (rv : RelP K ρ H v w) :
    Paired (fun (p : κ × PV) (q : κ × V) => p.1 = q.1 ∧ RelP K ρ H p.2 q.2) (MP.putK kvs k v) (L2.putK ws k w) := by
  have any : (kvs.any fun kv => decide (kv.1 = k)) = (ws.any fun kv => decide (kv.1 = k)) := by
    induction r with
    | nil => rfl
    | @cons p q ps qs h t ih => rw [List.any_cons, List.any_cons, ih, h.1]
  unfold MP.putK L2.putK
  rw [any]
  split
  · rename_i hh
    clear any hh
    induction r with
    | nil => exact .nil
    | @cons p q ps qs h t ih =>
      rw [List.map_cons, List.map_cons]
      refine .cons ?_ ih
      rw [← h.1]
      split
      · exact ⟨rfl, rv⟩
      · exact h
  · exact Paired.snoc r ⟨rfl, rv⟩
theorem DtOk.keys {kvs : List (List Int × PV)} {xs : List (List Int × Addr × Value)} (d : DtOk K ρ H kvs xs) : ∀ x ∈ xs, SqT K H x.2.1 (x.1.map V.int) := by
  have r := d.rel
  clear d
  induction r with
  | nil => intro x hx; cases hx
  | @cons p q ps qs h t ih =>
    intro x hx
    rcases List.mem_cons.mp hx with rfl | hx
    · rw [← h.1]; exact h.2.1
    · exact ih x hx
/-- what is at a key: in the table, at the heap -/
def RelAt (K : PySem.W.Frag) (ρ : List Addr) (H : Hp) : Option PV → Option (Addr × Value) → Prop
  | some z, some p => ∃ w, RelP K ρ H z w ∧ RelV w p.2
  | none, none => True
  | _, _ => False
theorem DtOk.val {kvs : List (List Int × PV)} {xs : List (List Int × Addr × Value)} (d : DtOk K ρ H kvs xs) (k : List Int) : RelAt K ρ H (valK kvs k) (atKey xs k) := by
  have r := d.rel
  clear d
  induction r with
  | nil => exact trivial
  | @cons p q ps qs h t ih =>
    unfold valK atKey at *
    rw [List.find?_cons, List.find?_cons, ← h.1]
    by_cases e : p.1 = k
    · simp only [e, decide_true]
      exact h.2.2
    · simp only [e, decide_false]
      exact ih
theorem DtOk.put {kvs : List (List Int × PV)} {xs : List (List Int × Addr × Value)} (d : DtOk K ρ H kvs xs) {k : List Int} {c : Addr} {v : PV} {w : V} {u : Value} (hc : SqT K H c (k.map V.int)) (rv : RelP K ρ H v w) (ru : RelV w u) : DtOk K ρ H (MP.putK kvs k v) (storedH xs k c u) := by
  have z := d.val k
  have r := d.rel
  have any : (kvs.any fun kv => decide (kv.1 = k)) = (atKey xs k).isSome := by
    have e : (kvs.any fun kv => decide (kv.1 = k)) = (valK kvs k).isSome := by
      unfold valK
      rw [Option.isSome_map, List.isSome_find?]
    rw [e]
    cases h1 : valK kvs k <;> cases h2 : atKey xs k <;> rw [h1, h2] at z <;> first | rfl | exact z.elim
  refine ⟨?_⟩
  unfold MP.putK storedH
  rw [any]
  split
  · rename_i hh
    clear any z d hh
    induction r with
    | nil => exact .nil
    | @cons p q ps qs h t ih =>
      rw [List.map_cons, List.map_cons]
      refine .cons ?_ ih
      unfold putAt
      rw [← h.1]
      split
      · exact ⟨h.1 ▸ rfl, h.1 ▸ h.2.1, w, rv, ru⟩
      · exact h
  · exact Paired.snoc r ⟨rfl, hc, w, rv, ru⟩
end
section
variable [RT] {b : Nat} {ρ : List Addr} {S : Sto} {H : Hp} {X : Cx} {pins : List (Addr × Obj)} {σ : L2.St} {s : Shared} {A : Around} {E : Value → Shared → Prop}
theorem itemsI {P : Program} {w : World} : ∀ {ks : List Int} {us : List Value}, Vals (ks.map V.int) us → ItemsAre (intKind P w) ks us
  | [], _, .nil => .nil
  | k :: ks, _, .cons h t => by
    obtain ⟨tk, rfl⟩ := h
    exact .cons (show Value.isInt k (.int k tk) = true by simp [Value.isInt]) (itemsI t)
theorem key_is (I : L2.Inv X pins σ H s) {c : Addr} {ks : List Int} (h : SqT X.K H c (ks.map V.int)) : (tupleKind (intKind X.prog X.w)).is s.heap ks c := by
  obtain ⟨its, r, ⟨o, ho, hc, n, hd⟩, _⟩ := I.tuple h
  exact ⟨o, its.toArray, n, ho, hc, hd, by simpa using itemsI r⟩
theorem dt_at (I : L2.Inv X pins σ H s) {a : Addr} {xs : List (List Int × Addr × Value)} (e : H a = some (dTO a xs)) (hk : ∀ x ∈ xs, SqT X.K H x.2.1 (x.1.map V.int)) : s.heap.DictOfH (tupleKind (intKind X.prog X.w)) a xs := by
  obtain ⟨⟨o, es, ep, h1, h2, h3, h4, h5⟩, _⟩ := (show ObjOk X.prog X.w H s.heap a (dTO a xs) from I.hok a _ e)
  exact ⟨o, es, ep, h1, h2, h3, by rw [h4, ← entI_eq], fun x hx => key_is I (hk x hx), h5⟩
theorem dt_new {h : Heap} {H' : Hp} {P : Program} {w : World} {a : Addr} {xs : List (List Int × Addr × Value)} (d : h.DictOfH (tupleKind (intKind P w)) a xs) : ObjOk P w H' h a (dTO a xs) := by
  obtain ⟨o, es, ep, h1, h2, h3, h4, _, h5⟩ := d
  rw [entI_eq] at h4
  exact ⟨⟨o, es, ep, h1, h2, h3, h4, h5⟩, ⟨o, h1⟩, fun g1 g2 ⟨o, es, ep, h1, r⟩ k => ⟨o, es, ep, k o h1, r⟩⟩
/-- a dict that is asked -/
theorem ask_of (so : StOk X.K b ρ S H) {j : Nat} {y : PV} {vy : V} {o : Option PV} {a : Addr} (ea : ρ[j]? = some a) (r : RelP X.K ρ H y vy) (h : dAsk S j y = some o) :
    (∃ ws k, H a = some (.dK ws) ∧ vy = kV k ∧ RelOP X.K ρ H o (valV ws k)) ∨
    ∃ xs k c, H a = some (dTO a xs) ∧ (∀ x ∈ xs, SqT X.K H x.2.1 (x.1.map V.int)) ∧ (a == sysModules) = false ∧ vy = .ref c ∧ SqT X.K H c (k.map V.int) ∧ RelAt X.K ρ H o (atKey xs k) := by
  unfold dAsk at h
  split at h
  · rename_i kvs e
    obtain ⟨ws, rw', hw⟩ := so.cell j _ a e ea
    cases q : keyOf y with
    | none => rw [q] at h; cases h
    | some k =>
      rw [q] at h
      cases h
      exact .inl ⟨ws, k, hw, key_rel r q, dk_val rw' k⟩
  · rename_i kvs e
    obtain ⟨xs, d, z1, z2, hw⟩ := so.cell j _ a e ea
    split at h
    · rename_i ys
      cases q : intsOf ys with
      | none => rw [q] at h; cases h
      | some k =>
        rw [q] at h
        cases h
        obtain ⟨c, vs, rfl, hc, rs⟩ := r.of_tup
        rw [ints_of rs q] at hc
        exact .inr ⟨xs, k, c, hw, d.keys, z2, rfl, hc, d.val k⟩
    · cases h
  · cases h
theorem g_item {Q : Value → Shared → Prop} {y : PV} {vy : V} {u : Value} {z : PV} (hu : A.units + 1 < cLine) (I : L2.Inv X pins σ H s) (so : StOk X.K b ρ S H) {j : Nat} {a : Addr} (ea : ρ[j]? = some a) (r : RelP X.K ρ H y vy) (ry : RelV vy u) (h : dAsk S j y = some (some z))
    (q : ∀ w' s' w, L2.Inv X pins σ H s' → RelP X.K ρ H z w → RelV w w' → Q w' s') : s.TypeIs (.ref a) "dict" ∧ wpAny (model X.prog X.w) A (getItem (.ref a) u) Q E s := by
  rcases ask_of so ea r h with ⟨ws, k, hw, rfl, ro⟩ | ⟨xs, k, c, hw, hk, z2, rfl, hc, ro⟩
  · cases e : valV ws k with
    | none => rw [e] at ro; exact ro.elim
    | some w =>
      rw [e] at ro
      have g : DGet H a (kV k) (some w) := by rw [← e]; exact DGet.k hw
      exact ⟨dict_typeIs I g, d_getItem hu I g ry fun w' s' I' rw' => q w' s' w I' ro rw'⟩
  · cases (show u = Value.ref c from ry)
    have dd := dt_at I hw hk
    cases e : atKey xs k with
    | none => rw [e] at ro; exact ro.elim
    | some p =>
      rw [e] at ro
      obtain ⟨w, r1, r2⟩ := ro
      exact ⟨dd.typeIs, wpAny_getItem_heap (tupleKind_room_in1 hu) (key_is I hc) dd e (q _ _ w (I.tok _) r1 r2)⟩
theorem g_get {Q : Value → Shared → Prop} {y x : PV} {vy vx : V} {u t : Value} {o : Option PV} (hu : A.units + 1 < cLine) (I : L2.Inv X pins σ H s) (so : StOk X.K b ρ S H) {j : Nat} {a : Addr} (ea : ρ[j]? = some a) (r : RelP X.K ρ H y vy) (ry : RelV vy u) (rx : RelP X.K ρ H x vx) (rt : RelV vx t)
    (h : dAsk S j y = some o) (q : ∀ w' s' w, L2.Inv X pins σ H s' → RelP X.K ρ H (o.getD x) w → RelV w w' → Q w' s') : wpAny (model X.prog X.w) A (call (.builtin "dict.get") [.ref a, u, t]) Q E s := by
  rcases ask_of so ea r h with ⟨ws, k, hw, rfl, ro⟩ | ⟨xs, k, c, hw, hk, z2, rfl, hc, ro⟩
  · refine d_get2 hu I (DGet.k hw) ry rt fun w' s' I' rw' => ?_
    cases e : valV ws k with
    | none =>
      rw [e] at ro rw'
      cases o with
      | none => exact q _ _ vx I' rx rw'
      | some z => exact ro.elim
    | some w =>
      rw [e] at ro rw'
      cases o with
      | none => exact ro.elim
      | some z => exact q _ _ w I' ro rw'
  · cases (show u = Value.ref c from ry)
    have dd := dt_at I hw hk
    refine call_meetsIn PySem.F.slot_dict_get dd.typeIs PySem.F.entry_dict_get (PySem.F.args_dict_get_3 _ _ _) (meetsH_dict_get_default (tupleKind (intKind X.prog X.w)) a c z2 t) ⟨tupleKind_room_in1 hu, k, xs, key_is I hc, dd, ?_⟩
    cases e : atKey xs k with
    | none =>
      rw [e] at ro
      cases o with
      | none => exact q _ _ vx (I.tok _) rx rt
      | some z => exact ro.elim
    | some p =>
      rw [e] at ro
      cases o with
      | none => exact ro.elim
      | some z => obtain ⟨w, r1, r2⟩ := ro; exact q _ _ w (I.tok _) r1 r2
theorem put_len {κ : Type} [DecidableEq κ] (kvs : List (κ × PV)) (k : κ) (v : PV) : (MP.putK kvs k v).length ≤ kvs.length + 1 := by
  unfold MP.putK
  split
  · simp
  · simp
theorem und_putK {κ : Type} [DecidableEq κ] {n : Nat} {k : κ} {v : PV} (hv : v.und n = true) : ∀ {kvs : List (κ × PV)}, PV.unds n (kvs.map (·.2)) = true → PV.unds n ((MP.putK kvs k v).map (·.2)) = true := by
  intro kvs h
  unfold MP.putK
  split
  · rename_i hh
    clear hh
    induction kvs with
    | nil => rfl
    | cons p ps ih =>
      have h' := Bool.and_eq_true_iff.mp (by simpa [PV.unds] using h)
      rw [List.map_cons, List.map_cons, PV.unds, Bool.and_eq_true]
      refine ⟨?_, ih h'.2⟩
      split
      · exact hv
      · exact h'.1
  · rw [List.map_append]
    have app : ∀ {xs : List PV}, PV.unds n xs = true → PV.unds n (xs ++ [v]) = true := by
      intro xs
      induction xs with
      | nil => intro _; simp [PV.unds, hv]
      | cons x xs ih =>
        intro h
        have h' := Bool.and_eq_true_iff.mp (by simpa [PV.unds] using h)
        simp [PV.unds, h'.1, ih h'.2]
    exact app h
/-- a dict that is written: what stands then -/
theorem g_put {Q : Unit → Shared → Prop} {y v : PV} {vy vv : V} {u t : Value} {c : Cell} (hu : A.units + 1 < cLine) (I : L2.Inv X pins σ H s) (so : StOk X.K b ρ S H) {j : Nat} {a : Addr} (ea : ρ[j]? = some a) (r : RelP X.K ρ H y vy) (ry : RelV vy u) (rv : RelP X.K ρ H v vv) (rt : RelV vv t)
    (h : dPut S j y v = some c) (q : ∀ s' H', L2.Inv X pins σ H' s' → Grow b ρ ρ S (S.wr b j c v.pure) H H' → StOk X.K b ρ (S.wr b j c v.pure) H' → Keep H H' → Q () s') : wpAny (model X.prog X.w) A (setItem (.ref a) u t) Q E s := by
  unfold dPut at h
  split at h
  · rename_i kvs e
    obtain ⟨ws, rw', hw⟩ := so.cell j _ a e ea
    split at h
    · rename_i hl
      cases qk : keyOf y with
      | none => rw [qk] at h; cases h
      | some k =>
        rw [qk] at h
        cases h
        obtain rfl := key_rel r qk
        have kp : Keep H (upd H a (.dK (L2.putK ws k vv))) := .wr hw trivial
        refine d_setItem hu I (DPut.k hw (by rw [line_eq, ← Paired.length rw']; exact hl)) ry rt fun s' I' => q s' _ I' ?_ ?_ kp
        · exact .writeC e ea kp fun n h1 h2 => by
            simp only [Cell.und] at h1 ⊢
            exact und_putK h2 h1
        · exact so.writeC e rfl ea kp ⟨_, Paired.mapP (dk_put rw' k rv) fun _ _ z => ⟨z.1, z.2.mono kp (List.prefix_refl _)⟩, upd_same⟩
    · cases h
  · rename_i kvs e
    obtain ⟨xs, d, z1, z2, hw⟩ := so.cell j _ a e ea
    split at h
    · rename_i ys
      split at h
      · rename_i hl
        cases qk : intsOf ys with
        | none => rw [qk] at h; cases h
        | some k =>
          rw [qk] at h
          cases h
          obtain ⟨cc, vs, rfl, hc, rs⟩ := r.of_tup
          rw [ints_of rs qk] at hc
          cases (show u = Value.ref cc from ry)
          have dd := dt_at I hw d.keys
          have dp := d.put hc rv rt
          have kp : Keep H (upd H a (dTO a (storedH xs k cc t))) := .wr hw trivial
          have lx : (storedH xs k cc t).length ≤ sizeLine := by
            rw [← Paired.length dp.rel]
            have := put_len kvs k v
            rw [line_eq]
            omega
          refine wpAny_setItem_heap (hsz := z1) (tupleKind_room_in1 hu) (key_is I hc) dd fun h' dd' hs => q _ _ (d_write I (by rw [hw]; exact True.intro) hs (let ⟨o, _, _, ho, _⟩ := dd'; ⟨o, ho⟩) (dt_new dd')) ?_ ?_ kp
          · exact .writeC e ea kp fun n h1 h2 => by
              simp only [Cell.und] at h1 ⊢
              exact und_putK h2 h1
          · exact so.writeC e rfl ea kp ⟨_, dp.keep kp (List.prefix_refl _), lx, z2, upd_same⟩
      · cases h
    · cases h
  · cases h
/-! ### subscripts and slices -/
def rI' (K : PySem.W.Frag) (b : Nat) : R2 := fun x y H Q => ∃ ρ S v u z, StOk K b ρ S H ∧ RelP K ρ H v x ∧ RelP K ρ H u y ∧ ixV S v u = some z ∧ ∀ w, RelP K ρ H z w → Q w H
theorem ix_ok (hu : X.A.units + 65 < cLine) : IxR X (rI' X.K b) := by
  intro value slice pins s σ H x y vx vy Q I rx ry h hs
  obtain ⟨ρ, S, v, u, z, so, rv, ru, hz, q⟩ := h
  unfold ixV at hz
  split at hz
  · obtain ⟨a, vs, rfl, h, rs⟩ := rv.of_tup
    obtain rfl := ru.of_int
    obtain ⟨w, h1, h2⟩ := atI_rel rs hz
    exact ix_seq value slice pins s σ H _ _ vx vy Q I rx ry (.inr (.inl ⟨a, vs, _, w, rfl, rfl, h, h1, q w h2⟩)) hs
  · obtain ⟨a, vs, rfl, h, rs⟩ := rv.of_lst
    obtain rfl := ru.of_int
    obtain ⟨w, h1, h2⟩ := atI_rel rs hz
    exact ix_seq value slice pins s σ H _ _ vx vy Q I rx ry (.inl ⟨a, vs, _, w, rfl, rfl, h.sq, h1, q w h2⟩) hs
  · rename_i zz ii
    obtain rfl := rv.of_str
    obtain rfl := ru.of_int
    split at hz
    · rename_i hl
      cases e : MP.itemAt zz.cps.toList ii with
      | none => rw [e] at hz; cases hz
      | some c =>
        rw [e] at hz
        cases hz
        exact ix_seq value slice pins s σ H _ _ vx vy Q I rx ry (.inr (.inr ⟨zz, ii, c, rfl, rfl, by rw [line_eq]; exact hl, e, q _ (.str _)⟩)) hs
    · cases hz
  · obtain ⟨a, rfl, ea⟩ := rv.of_ref
    split at hz
    · rename_i e
      obtain rfl := ru.of_int
      obtain ⟨vs, rs, hsq⟩ := so.sql e ea
      obtain ⟨w, h1, h2⟩ := atI_rel rs hz
      exact ix_seq value slice pins s σ H _ _ vx vy Q I rx ry (.inl ⟨a, vs, _, w, rfl, rfl, hsq, h1, q w h2⟩) hs
    · obtain ⟨o, e, hz⟩ := Option.bind_eq_some_iff.mp hz
      obtain rfl : o = some z := hz
      cases rx
      obtain ⟨ty, g⟩ := g_item (A := X.A) (E := X.xe) (Q := EP X pins σ Q) (by omega) I so ea ru ry e fun w' s' w I' r1 r2 => ⟨w, H, I', r2, q w r1⟩
      exact tail_any ty PySem.F.slot_dict_getitem.lookup g hs
    · cases hz
  · cases hz
def rSl (K : PySem.W.Frag) (b : Nat) : V → Option Int → Option Int → Hp → VK → Prop := fun x lo hi H Q => ∃ ρ S v z, StOk K b ρ S H ∧ RelP K ρ H v x ∧ slV S v lo hi = some z ∧ ResV K b ρ S H z Q
theorem sl_ok {T : Exc} {X : Cx} : SlR X (rSl X.K b) := by
  intro pins s σ H x v vl vu lo hi sl Q I rx hs pl pu h
  obtain ⟨ρ, S, v', z, so, rv, hz, h⟩ := h
  have lst : ∀ {a : Addr} {vs : List V} {xs : List PV}, x = .ref a → SqL X.K H a vs → RelPs X.K ρ H xs vs → z = .lst (cut xs lo hi) → ∃ T id, typeLookup (.type T) "__getitem__" = pure (some (.builtin id)) ∧ s.TypeIs v T ∧ wpAny (model X.prog X.w) X.A (getItem v (.ref sl)) (EP X pins σ Q) X.xe s := fun {a vs xs} ex hv rs ez => by
    subst ex ez
    rcases h with ⟨ys, ey, h⟩ | ⟨hn, _⟩
    · cases ey
      exact sl_list pins s σ H _ v vl vu lo hi sl Q I rx hs pl pu ⟨a, vs, rfl, hv, fun p hp => h p _ hp (cut_rel rs lo hi)⟩
    · exact absurd rfl (hn _)
  unfold slV at hz
  split at hz
  · cases hz
    obtain ⟨a, vs, rfl, hv, rs⟩ := rv.of_tup
    rcases h with ⟨ys, ey, _⟩ | ⟨_, h⟩
    · cases ey
    · refine sl_tupA pins s σ H _ v vl vu lo hi sl Q I rx hs pl pu ⟨a, vs, rfl, hv, fun ⟨e1, e2⟩ => ?_, fun _ p hp => ?_⟩
      · rw [edge_eq, ← rs.length] at e1 e2
        rw [cut_whole e1 e2] at h
        exact h _ _ .refl so (.tup hv rs)
      · exact h _ _ (.alloc hp) (so.alloc hp) (.tup (SqT.of upd_same) ((cut_rel rs lo hi).mono (.new hp) (List.prefix_refl _)))
  · cases hz
    obtain ⟨a, vs, rfl, hv, rs⟩ := rv.of_lst
    exact lst rfl hv.sq rs rfl
  · obtain ⟨a, rfl, ea⟩ := rv.of_ref
    cases e : S.lst? _ with
    | none => rw [e] at hz; cases hz
    | some xs =>
      rw [e] at hz
      cases hz
      obtain ⟨vs, rs, hv⟩ := so.sql e ea
      exact lst rfl hv rs rfl
  · obtain rfl := rv.of_str
    split at hz
    · rename_i hl
      cases hz
      rcases h with ⟨ys, ey, _⟩ | ⟨_, h⟩
      · cases ey
      · refine sl_str pins s σ H _ v vl vu lo hi sl Q I rx hs pl pu ⟨_, rfl, by rw [line_eq]; exact hl, h _ _ .refl so ?_⟩
        unfold cutS
        simp only [edge_eq, cut, Array.length_toList]
        exact .str _
    · cases hz
  · cases hz
end
end MP
end
section
set_option Elab.async false
set_option linter.all false
set_option maxRecDepth 100000
set_option maxHeartbeats 1000000
/-! MPSoundF: built-in functions. -/
namespace MP
open PySem PySem.Spec PyProof.Rows L2
section
variable [RT] {b : Nat} {ρ : List Addr} {S : Sto} {H : Hp} {X : Cx} {pins : List (Addr × Obj)} {σ : L2.St} {s : Shared}
theorem is_row (I : L2.Inv X pins σ H s) {c : Addr} {r : List Int} (h : SqT X.K H c (r.map V.int)) : IsRow s.heap (.ref c) r := by
  obtain ⟨its, rv, ⟨o, ho, hc, n, hd⟩, _⟩ := I.tuple h
  exact ⟨c, o, its.toArray, n, rfl, ho, hc, hd, by simpa using rv⟩
def RowsAt (K : PySem.W.Frag) (H : Hp) : List (List Int) → List Addr → Prop := Paired fun r c => SqT K H c (r.map V.int)
theorem RowsAt.mem {K : PySem.W.Frag} {rs : List (List Int)} {cs : List Addr} (x : RowsAt K H rs cs) : ∀ c ∈ cs, ∃ r ∈ rs, SqT K H c (r.map V.int) := by
  unfold RowsAt at x
  induction x with
  | nil => intro c hc; cases hc
  | @cons p q ps qs h t ih =>
    intro c hc
    rcases List.mem_cons.mp hc with rfl | hc
    · exact ⟨p, List.mem_cons_self, h⟩
    · obtain ⟨r, h1, h2⟩ := ih c hc
      exact ⟨r, List.mem_cons_of_mem _ h1, h2⟩
/-- what the sorter gives, as rows -/
theorem rows_out (I : L2.Inv X pins σ H s) {rs : List (List Int)} {cs : List Addr} (x : RowsAt X.K H rs cs) {h₁ : Heap} (kp : ∀ b o, s.heap.get? b = some o → h₁.get? b = some o) {out : List Value} (h1 : SrtO.Srtd (fun v u => lexI (rowOf h₁ v) (rowOf h₁ u)) out) (hp : out.Perm (cs.map Value.ref)) :
    ∃ ds : List Addr, out = ds.map Value.ref ∧ RowsAt X.K H (sortL lexI rs) ds := by
  have row : ∀ {c : Addr} {r : List Int}, SqT X.K H c (r.map V.int) → rowOf h₁ (.ref c) = r := fun {c r} h => ((is_row I h).keeps fun b o e _ => kp b o e).of
  have all : ∀ v ∈ out, ∃ c, v = Value.ref c ∧ SqT X.K H c ((rowOf h₁ v).map V.int) := fun v hv => by
    obtain ⟨c, hc, rfl⟩ := List.mem_map.mp (hp.mem_iff.mp hv)
    obtain ⟨r, _, h⟩ := x.mem c hc
    exact ⟨c, rfl, by rw [row h]; exact h⟩
  have e1 : (cs.map Value.ref).map (rowOf h₁) = rs := by
    clear hp all h1
    unfold RowsAt at x
    induction x with
    | nil => rfl
    | @cons p q ps qs h t ih => rw [List.map_cons, List.map_cons, ih, row h]
  have pm : (out.map (rowOf h₁)).Perm rs := by
    have z := hp.map (rowOf h₁)
    rw [e1] at z
    exact z
  have so : SrtB lexI (out.map (rowOf h₁)) := List.pairwise_map.mpr h1
  have eq : out.map (rowOf h₁) = sortL lexI rs := srt_unique (fun h h' => lexI_tot h h') (pm.trans (sortL_perm rs).symm) so (sortL_srt (lt := lexI) (fun {a b} h => lexI_asym h) (fun {a b c} h h' => lexI_neg h h') rs)
  rw [← eq]
  clear eq so pm hp h1 e1
  induction out with
  | nil => exact ⟨[], rfl, .nil⟩
  | cons v out ih =>
    obtain ⟨ds, e, r⟩ := ih fun u hu => all u (List.mem_cons_of_mem _ hu)
    obtain ⟨c, e2, h⟩ := all v List.mem_cons_self
    refine ⟨c :: ds, by rw [List.map_cons, e, e2], ?_⟩
    rw [List.map_cons]
    exact Paired.cons h r
theorem rows_rel {K : PySem.W.Frag} : ∀ {rs : List (List Int)} {cs : List Addr}, RowsAt K H rs cs → RelPs K ρ H (rs.map rowPV) (cs.map V.ref)
  | _, _, .nil => .nil
  | _, _, .cons h t => .cons (.tup h (ints_rel _)) (rows_rel t)
where ints_rel : ∀ r : List Int, RelPs K ρ H (r.map PV.int) (r.map V.int)
  | [] => .nil
  | i :: r => .cons (.int i) (ints_rel r)
theorem rows_of {K : PySem.W.Frag} : ∀ {xs : List PV} {vs : List V} {rs : List (List Int)}, RelPs K ρ H xs vs → rowsOf xs = some rs → ∃ cs, vs = cs.map V.ref ∧ RowsAt K H rs cs ∧ ∀ r ∈ rs, r ≠ []
  | [], _, rs, .nil, e => by cases e; exact ⟨[], rfl, .nil, fun r hr => by cases hr⟩
  | x :: xs, _, rs, .cons r t, e => by
    cases x with
    | tup ys =>
      cases q : intsOf ys with
      | none => simp [rowsOf, q] at e
      | some y =>
        cases q2 : rowsOf xs with
        | none => simp [rowsOf, q, q2] at e
        | some rs2 =>
          simp only [rowsOf, q, q2] at e
          split at e
          · cases e
          · rename_i hy
            cases e
            obtain ⟨cs, rfl, h1, h2⟩ := rows_of t q2
            obtain ⟨c, vs, rfl, hc, rr⟩ := r.of_tup
            rw [ints_of rr q] at hc
            refine ⟨c :: cs, rfl, .cons hc h1, fun r hr => ?_⟩
            rcases List.mem_cons.mp hr with rfl | hr
            · intro z; subst z; exact hy rfl
            · exact h2 r hr
    | _ => simp [rowsOf] at e
theorem vals_refs' : ∀ {cs : List Addr} {us : List Value}, Vals (cs.map V.ref) us → us = cs.map Value.ref
  | [], _, .nil => rfl
  | c :: cs, _, .cons h t => by
    cases h
    rw [vals_refs' t, List.map_cons]
/-- sorted(xs), rows of ints -/
theorem sorted_rows {Q : VK} {E : Value → Shared → Prop} (I : L2.Inv X pins σ H s) {a : Addr} {rs : List (List Int)} {cs : List Addr} (hs : SqL X.K H a (cs.map V.ref)) (x : RowsAt X.K H rs cs) (hr : ∀ r ∈ rs, r ≠ [])
    (q : ∀ p ds, H p = none → RowsAt X.K H (sortL lexI rs) ds → Q (.ref p) (upd H p (.lst (ds.map V.ref)))) : wpAny (model X.prog X.w) X.A (call (.builtin "sorted") [.ref a]) (EP X pins σ Q) E s := by
  obtain ⟨its, rv, hl, hz⟩ := I.list hs
  obtain rfl := vals_refs' rv
  have rows : ∀ v ∈ cs.map Value.ref, ∃ r, IsRow s.heap v r ∧ r ≠ [] := fun v hv => by
    obtain ⟨c, hc, rfl⟩ := List.mem_map.mp hv
    obtain ⟨r, h1, h2⟩ := x.mem c hc
    exact ⟨r, is_row I h2, hr r h1⟩
  have hz' : (cs.map Value.ref).length ≤ sizeLine := by rw [List.length_map] at hz ⊢; exact hz
  refine SrtO.sorted_ord (swo_row s.heap) hl.isList hz' (fun h2 h₁ a' ha kk => ?_) fun out h1 h2 => ?_
  · have z := rows_sortable (prog := X.prog) (w := X.w) (A := X.A.in1.in1) (s := { s with heap := h₁ }) (a := a') (vs := cs.map Value.ref) (by omega) (fun v hv => by
      obtain ⟨r, y, n⟩ := rows v hv
      exact ⟨r, y.keeps fun b o e _ => (kk b o e).2, n⟩) fun o e => by
        have e' : some o = some (seqObj "list" (cs.map Value.ref).toArray 0) := e.symm.trans ha
        cases e'
        intro c
        exact absurd (Value.type.inj c) (by decide)
    have same : ∀ v ∈ cs.map Value.ref, rowOf h₁ v = rowOf s.heap v := fun v hv => by
      obtain ⟨r, y, n⟩ := rows v hv
      rw [y.of, (y.keeps fun b o e _ => (kk b o e).2).of]
    intro h' keep
    obtain ⟨κ, g1, g2⟩ := z h' keep
    refine ⟨κ, g1, fun p' q' hm hm' => ?_⟩
    have y := g2 p' q' hm hm'
    unfold SrtO.lt2 at y ⊢
    simp only [same p'.1 hm, same q'.1 hm'] at y
    exact y
  · obtain ⟨ds, e, xd⟩ := rows_out I x (h₁ := s.heap) (fun _ _ e => e) h1 h2.perm
    obtain ⟨ep, he'⟩ := PyProof.Rows.sortedAll_at s.heap (cs.map Value.ref) out.toArray
    have hlen : (ds.map V.ref).length ≤ sizeLine := by
      have l := h2.perm.length_eq
      rw [e, List.length_map] at l
      rw [List.length_map, l]
      exact hz'
    refine ⟨.ref _, upd H (s.heap.objs.size + 1) (.lst (ds.map V.ref)), I.laid (t' := s.toks) (fun _ _ => PyProof.Rows.sortedAll_old) (Nat.le_succ _) ⟨hlen, out, ep, by rw [e]; exact vals_refs ds, he'⟩, rfl, q _ _ (I.hok.fresh (Nat.le_succ _)) xd⟩
/-- the keys of a dict, collected -/
theorem keys_acc {es : Array DictEntry} {xs : List (List Int × Addr × Value)} (he : es.toList = xs.map entI) {acc : Array Value} (h : ItemsOf (fun i v => ∃ en : DictEntry, es[i]? = some en ∧ v = en.key) acc es.size) : acc.toList = (xs.map fun x => x.2.1).map Value.ref := by
  have l1 : es.size = xs.length := by rw [← Array.length_toList, he, List.length_map]
  have hl : acc.toList.length = xs.length := by rw [Array.length_toList, h.1, l1]
  rw [List.map_map]
  apply List.ext_getElem?
  intro j
  rw [List.getElem?_map]
  cases hj : acc.toList[j]? with
  | none =>
    have h1 := List.getElem?_eq_none_iff.mp hj
    rw [List.getElem?_eq_none (by omega)]
    rfl
  | some v =>
    obtain ⟨en, hen, hv⟩ := h.2 j v (by rw [← Array.getElem?_toList]; exact hj)
    have qe : es[j]? = (xs[j]?).map entI := by rw [← Array.getElem?_toList, he, List.getElem?_map]
    rw [hen] at qe
    cases hb : xs[j]? with
    | none => rw [hb] at qe; cases qe
    | some y =>
      rw [hb] at qe
      have e2 : en = entI y := Option.some.inj qe
      rw [hv, e2]
      rfl
theorem dt_rows {K : PySem.W.Frag} {kvs : List (List Int × PV)} {xs : List (List Int × Addr × Value)} (d : DtOk K ρ H kvs xs) : RowsAt K H (kvs.map (·.1)) (xs.map fun x => x.2.1) := by
  have r := d.rel
  clear d
  unfold RowsAt
  induction r with
  | nil => exact .nil
  | @cons p q ps qs h t ih => exact .cons h.2.1 ih
/-- list(d) -/
theorem list_dT {Q : VK} (hc : X.calm = true) (I : L2.Inv X pins σ H s) {a : Addr} {kvs : List (List Int × PV)} {xs : List (List Int × Addr × Value)} (d : DtOk X.K ρ H kvs xs) (hl : xs.length ≤ sizeLine) (hm : (a == sysModules) = false) (ha : H a = some (dTO a xs))
    (q : ∀ p ds, H p = none → RowsAt X.K H (kvs.map (·.1)) ds → Q (.ref p) (upd H p (.lst (ds.map V.ref)))) {us : List Value} (hu : us = [.ref a]) : wpAny (model X.prog X.w) X.A (call (.type "list") us) (EP X pins σ Q) X.xe s := by
  subst hu
  obtain ⟨⟨o, es, ep, ho, hx, hdt, he, hn⟩, _⟩ := (show ObjOk X.prog X.w H s.heap a (dTO a xs) from I.hok a _ ha)
  have l1 : es.size = xs.length := by rw [← Array.length_toList, he, List.length_map]
  refine PySem.W.kdl_call (kdl_raw hm hx hdt) (I.ok.hd hc) ho (by omega) fun h' tk acc' c' kp e it => ?_
  have eb := keys_acc he it
  refine ⟨.ref s.heap.objs.size, _, I.laid (t' := tk) (o := .lst ((xs.map fun x => x.2.1).map V.ref)) kp (Nat.le_refl _) ?_, rfl, q _ _ (I.hok.fresh (Nat.le_refl _)) (dt_rows d)⟩
  exact ⟨by rw [List.length_map, List.length_map]; exact hl, acc'.toList, c', by rw [eb]; exact vals_refs _, by rw [Array.toArray_toList]; exact e⟩
/-- sorted(d) -/
theorem sorted_dT {Q : VK} (hc : X.calm = true) (I : L2.Inv X pins σ H s) {a : Addr} {kvs : List (List Int × PV)} {xs : List (List Int × Addr × Value)} (d : DtOk X.K ρ H kvs xs) (hl : xs.length ≤ sizeLine) (hm : (a == sysModules) = false) (ha : H a = some (dTO a xs)) (hr : ∀ p ∈ kvs, p.1 ≠ [])
    (q : ∀ p ds, H p = none → RowsAt X.K H (sortL lexI (kvs.map (·.1))) ds → Q (.ref p) (upd H p (.lst (ds.map V.ref)))) {us : List Value} (hu : us = [.ref a]) : wpAny (model X.prog X.w) X.A (call (.builtin "sorted") us) (EP X pins σ Q) X.xe s := by
  subst hu
  obtain ⟨⟨o, es, ep, ho, hx, hdt, he, hn⟩, _⟩ := (show ObjOk X.prog X.w H s.heap a (dTO a xs) from I.hok a _ ha)
  have l1 : es.size = xs.length := by rw [← Array.length_toList, he, List.length_map]
  refine Calls.call_function_entry PyProof.Rows.kind_sorted PyProof.Rows.plain_sorted PyProof.Rows.entry_sorted (PyProof.Rows.args_sorted1 _) ?_
  unfold Builtin.«sorted»
  refine wpAny_bind (m := checkCount "sorted" 1 1 _) (wpAny_pure ?_)
  refine wpAny_bind (PySem.W.kdu_collect (A := X.A.in1) (kdl_raw hm hx hdt) (I.ok.hd hc) ho (by omega) fun h' tk acc hk hacc => ?_)
  have eb := keys_acc he hacc
  have I1 : L2.Inv X pins σ H { s with heap := h', toks := tk } := I.kept hk
  have al : acc.toList.length = xs.length := by rw [eb, List.length_map, List.length_map]
  refine wpAny_bind (wpAny_newList ?_ (by rw [al]; exact hl))
  have hoL : (h'.push (seqObj "list" acc.toList.toArray 0)).get? h'.objs.size = some (seqObj "list" acc.toList.toArray 0) := Heap.get?_push_size _ rfl
  show wpAny _ _ _ _ _ { s with heap := h'.push (seqObj "list" acc.toList.toArray 0), toks := tk }
  have x := dt_rows d
  have kp2 : ∀ b o, h'.get? b = some o → (h'.push (seqObj "list" acc.toList.toArray 0)).get? b = some o := fun b o e => Heap.get?_push_of_some _ e
  have rows : ∀ v ∈ acc.toList, ∃ r, IsRow (h'.push (seqObj "list" acc.toList.toArray 0)) v r ∧ r ≠ [] := fun v hv => by
    rw [eb] at hv
    obtain ⟨c, hc, rfl⟩ := List.mem_map.mp hv
    obtain ⟨r, h1, h2⟩ := x.mem c hc
    obtain ⟨p, hp, rfl⟩ := List.mem_map.mp h1
    exact ⟨_, (is_row I1 h2).keeps fun b o e _ => kp2 b o e, hr p hp⟩
  refine wpAny_bind (wpAny_holding (wpAny_call_entry PyProof.Rows.slot_list_sort ⟨_, hoL, rfl⟩ PyProof.Rows.entry_list_sort
    (SrtO.list_sort_ord (s := { s with heap := h'.push (seqObj "list" acc.toList.toArray 0), toks := tk }) (swo_row _) hoL (by rw [al]; exact hl) (fun h2 => rows_sortable (by omega) rows fun o e => by
      have e' : some o = some (seqObj "list" acc.toList.toArray 0) := e.symm.trans hoL
      cases e'
      intro c
      exact absurd (Value.type.inj c) (by decide)) fun out h1 h2 => ⟨_, rfl, ?_⟩) (PyProof.Rows.args_list_sort _)))
  obtain ⟨ds, e, xd⟩ := rows_out I1 x kp2 h1 (by rw [← eb]; exact h2.perm)
  obtain ⟨e', he'⟩ := PyProof.Rows.sortedHeap_at (vs := acc.toList) (out := out.toArray) hoL
  have hlen : (ds.map V.ref).length ≤ sizeLine := by
    have l := h2.perm.length_eq
    rw [e, List.length_map] at l
    rw [List.length_map, l, al]
    exact hl
  refine wpAny_pure ⟨_, rfl, .ref h'.objs.size, upd H h'.objs.size (.lst (ds.map V.ref)), I1.laid (t' := tk) (fun b u e => ?_) (Nat.le_refl _) (show ObjOk X.prog X.w _ _ _ (.lst (ds.map V.ref)) from ⟨hlen, out, e', by rw [e]; exact vals_refs ds, he'⟩), rfl, q _ _ (I1.hok.fresh (Nat.le_refl _)) xd⟩
  have hb : b < h'.objs.size := Heap.lt_size e
  rw [PyProof.Rows.sortedHeap_old (Nat.ne_of_lt hb) (by rw [size_push']; exact Nat.lt_succ_of_lt hb)]
  exact Heap.get?_push_of_some _ e
/-- sum(t), a tuple of ints -/
theorem sum_tup {Q : VK} (hc : X.calm = true) (I : L2.Inv X pins σ H s) {a : Addr} {ns : List Int} (ha : SqT X.K H a (ns.map V.int)) (q : Q (.int ns.sum) H) {us : List Value} (hu : us = [.ref a]) : wpAny (model X.prog X.w) X.A (call (.builtin "sum") us) (EP X pins σ Q) X.xe s := by
  subst hu
  obtain ⟨its, rv, ht, _⟩ := I.tuple ha
  obtain ⟨ys, e⟩ := rv.ints.allInts.items
  have hn : numsOf (intItems ys).toList = ns := by rw [← e]; exact rv.ints.numsOf
  rw [nums_intItems] at hn
  have lt : a < s.heap.objs.size := let ⟨o, ho, _⟩ := ht; Heap.lt_size ho
  refine PySem.call_sum_walkAnyS (wpAny_pyIter_tuple (show s.heap.IsTuple a its.toArray from ht) ?_)
  rw [e] at ht
  refine ⟨_, _, _, _, _, _, _, numAt ys, rfl, (Walks.tuple (A := X.A.in1) (I.ok.hd hc) s.heap.objs.size a (Nat.ne_of_lt lt) (intItems ys)).toS, ⟨⟨_, Heap.get?_push_size _ rfl, rfl, rfl⟩, (show s.heap.IsTuple a (intItems ys) from ht).at fun o e => Heap.get?_push_of_some _ e⟩, fun bb hb => ?_, fun _ _ => intItems_at, fun s' t' hm => ?_⟩
  · have e' : bb = s.heap.objs.size ∨ bb = a := by simpa using hb
    show bb < (s.heap.push _).objs.size
    rw [size_push']
    rcases e' with rfl | rfl
    · exact Nat.lt_succ_self _
    · exact Nat.lt_succ_of_lt lt
  · have kp : ∀ bb o, s.heap.get? bb = some o → s'.heap.get? bb = some o := fun bb o h => hm.heap bb o (fun z => by
      have z' : bb = s.heap.objs.size := by simpa using z
      rw [z'] at h
      exact absurd (Heap.lt_size h) (Nat.lt_irrefl _)) (Heap.get?_push_of_some _ h)
    have g : s'.gens = s.gens := hm.gens
    have d : s'.drawn = s.drawn := hm.drawn
    have o : s'.os = s.os := hm.os
    obtain ⟨hp, gs, dr, tk, os⟩ := s'
    simp only at g d o kp
    subst g d o
    refine ⟨.int ns.sum, H, I.kept (t' := tk) kp, ⟨t', ?_⟩, q⟩
    rw [preSum_eq, List.take_of_length_le (by simp [intItems]), hn]
end
end MP
end
section
set_option Elab.async false
set_option linter.all false
set_option maxRecDepth 100000
/-! MPSound4: built-in functions; an expression's text and its run. -/
namespace MP
open PySem PySem.Spec PyProof.Rows L2
theorem CallR.weak {X : Cx} {f : Value} {r r' : List V → Hp → VK → Prop} (h : CallR X f r) (w : ∀ xs H Q, r' xs H Q → r xs H Q) : CallR X f r' := fun pins s σ H xs us Q I rx q => h pins s σ H xs us Q I rx (w xs H Q q)
section
variable [RT] {K : PySem.W.Frag} {b : Nat} {ρ : List Addr} {S : Sto} {H : Hp}
def rBi (K : PySem.W.Frag) (b : Nat) (f : Bi) : List V → Hp → VK → Prop := fun vs H Q => ∃ ρ S xs z, StOk K b ρ S H ∧ RelPs K ρ H xs vs ∧ biV S f xs = some z ∧ ResV K b ρ S H z Q
/-- what a built-in's number stands for -/
def biVal : Bi → Value
  | .abs => .builtin "abs"
  | .int => .type "int"
  | .len => .builtin "len"
  | .list => .type "list"
  | .tuple => .type "tuple"
  | .gcd => .builtin "math.gcd"
  | .max2 => .builtin "max"
  | .min2 => .builtin "min"
  | .str => .type "str"
  | .sum => .builtin "sum"
  | .sorted => .builtin "sorted"
  | .all => .builtin "all"
  | .any => .builtin "any"
  | .bool => .type "bool"
  | .maxL => .builtin "max"
  | .minL => .builtin "min"
theorem bls_of : ∀ {xs : List PV} {vs : List V} {ns : List Bool}, RelPs K ρ H xs vs → blsOf xs = some ns → vs = ns.map V.bl
  | [], _, ns, .nil, e => by cases e; rfl
  | x :: xs, _, ns, .cons r t, e => by
    cases x with
    | bl i =>
      cases q : blsOf xs with
      | none => simp [blsOf, q] at e
      | some ms =>
        have e' : i :: ms = ns := by simpa [blsOf, q] using e
        subst e'
        obtain rfl := r.of_bl
        rw [bls_of t q]
        rfl
    | _ => simp [blsOf] at e
theorem ints_rel {K : PySem.W.Frag} : ∀ r : List Int, RelPs K ρ H (r.map PV.int) (r.map V.int)
  | [] => .nil
  | i :: r => .cons (.int i) (ints_rel r)
theorem sort_ints {ns ns' : List Int} (h1 : ns'.Perm ns) (h2 : ns'.Pairwise (· ≤ ·)) : ns' = sortL (fun a b => decide (a < b)) ns := by
  refine srt_unique (lt := fun (a b : Int) => decide (a < b)) (fun {a b} h h' => ?_) (h1.trans (sortL_perm ns).symm) (h2.imp fun {a b} h => decide_eq_false (by omega)) (sortL_srt (lt := fun (a b : Int) => decide (a < b)) (fun {a b} h => ?_) (fun {a b c} h h' => ?_) ns)
  · have h := of_decide_eq_false h
    have h' := of_decide_eq_false h'
    omega
  · have h := of_decide_eq_true h
    exact decide_eq_false (by omega)
  · have h := of_decide_eq_false h
    have h' := of_decide_eq_false h'
    exact decide_eq_false (by omega)
/-- sorted(xs) -/
theorem sorted_seq {X : Cx} {pins : List (Addr × Obj)} {σ : L2.St} {s : Shared} {Q : VK} {us : List Value} (I : L2.Inv X pins σ H s) {a : Addr} {xs ys : List PV} {vs : List V} (rv : Vals [V.ref a] us) (hs : SqL X.K H a vs) (rs : RelPs X.K ρ H xs vs) (e : sortV xs = some ys)
    (h : ∀ p ws, H p = none → RelPs X.K ρ H ys ws → Q (.ref p) (upd H p (.lst ws))) : wpAny (model X.prog X.w) X.A (call (.builtin "sorted") us) (EP X pins σ Q) X.xe s := by
  unfold sortV at e
  split at e
  · rename_i ns q
    cases e
    rw [ints_of rs q] at hs
    exact cr_sortedI pins s σ H _ us Q I rv ⟨a, ns, rfl, hs, fun ns' p h1 h2 hp => h p _ hp (by rw [sort_ints h1 h2]; exact ints_rel _)⟩
  · cases q : rowsOf xs with
    | none => rw [q] at e; cases e
    | some rs' =>
      rw [q] at e
      cases e
      obtain ⟨cs, rfl, h1, h2⟩ := rows_of rs q
      obtain ⟨u, rfl, ru⟩ := vals1 rv
      cases ru
      exact sorted_rows I hs h1 h2 fun p ds hp xd => h p _ hp (rows_rel xd)
theorem bi_ok {X : Cx} (hc : X.calm = true) (f : Bi) : CallR X (biVal f) (rBi X.K b f) := by
  intro pins s σ H vs us Q I rv h
  obtain ⟨ρ, S, xs, z, so, rs, hz, h⟩ := h
  have nl : ∀ {w : V}, (∀ xs, z ≠ .lst xs) → RelP X.K ρ H z w → Q w H := fun {w} n r => h.val so n r
  unfold biV at hz
  split at hz
  · cases hz
    obtain ⟨v, rfl, r⟩ := rs.one
    obtain rfl := r.of_int
    exact call_abs pins s σ H _ us Q I rv ⟨_, rfl, nl (fun _ e => by cases e) (.int _)⟩
  · cases hz
    obtain ⟨v, rfl, r⟩ := rs.one
    obtain rfl := r.of_int
    exact call_int1 pins s σ H _ us Q I rv (.inl ⟨_, rfl, nl (fun _ e => by cases e) (.int _)⟩)
  · cases hz
    obtain ⟨v, rfl, r⟩ := rs.one
    obtain rfl := r.of_bl
    exact call_int1 pins s σ H _ us Q I rv (.inr ⟨_, rfl, nl (fun _ e => by cases e) (.int _)⟩)
  · obtain ⟨v, rfl, r⟩ := rs.one
    obtain rfl := r.of_str
    split at hz
    · rename_i hl
      obtain ⟨n, hn, hz⟩ := Option.map_eq_some_iff.mp hz
      subst hz
      exact call_int_str pins s σ H _ us Q I rv ⟨_, n, rfl, hn, hl, nl (fun _ e => by cases e) (.int _)⟩
    · cases hz
  · cases hz
    obtain ⟨v, rfl, r⟩ := rs.one
    obtain ⟨a, ws, rfl, hs, rw'⟩ := r.of_tup
    refine call_len_seq pins s σ H _ us Q I rv ⟨a, ws, rfl, .inr hs, ?_⟩
    rw [← rw'.length]
    exact nl (fun _ e => by cases e) (.int _)
  · obtain ⟨v, rfl, r⟩ := rs.one
    obtain rfl := r.of_str
    split at hz
    · rename_i hl
      cases hz
      exact call_len_str pins s σ H _ us Q I rv ⟨_, rfl, by rw [line_eq]; exact hl, nl (fun _ e => by cases e) (.int _)⟩
    · cases hz
  · obtain ⟨v, rfl, r⟩ := rs.one
    obtain ⟨ys, e, hz⟩ := Option.map_eq_some_iff.mp hz
    subst hz
    obtain ⟨a, ws, rfl, hs, rw'⟩ := lst_of so r e
    refine call_len_seq pins s σ H _ us Q I rv ⟨a, ws, rfl, .inl hs, ?_⟩
    rw [← rw'.length]
    exact nl (fun _ e => by cases e) (.int _)
  · obtain ⟨v, rfl, r⟩ := rs.one
    obtain ⟨a, rfl, ea⟩ := r.of_ref
    split at hz
    · rename_i ys e
      cases hz
      obtain ⟨ws, rw', hs⟩ := so.cell _ _ a e ea
      exact call_list_of pins s σ H _ us Q I rv ⟨a, ws, rfl, .inl (SqL.of hs), fun p hp => h.new hp rw'⟩
    · rename_i ys e
      cases hz
      obtain ⟨ws, rw', hs⟩ := so.cell _ _ a e ea
      exact call_list_of pins s σ H _ us Q I rv ⟨a, ws, rfl, .inl (.inl (.inr hs)), fun p hp => h.new hp rw'⟩
    · rename_i kvs e
      cases hz
      obtain ⟨xs, d, z1, z2, hw⟩ := so.cell _ _ a e ea
      obtain ⟨u, rfl, ru⟩ := vals1 rv
      cases ru
      refine list_dT hc I d z1 z2 hw (fun p ds hp xd => h.new hp ?_) rfl
      have z := rows_rel (ρ := ρ) xd
      rw [List.map_map] at z
      exact z
    · cases hz
  · obtain ⟨v, rfl, r⟩ := rs.one
    obtain ⟨ys, e, hz⟩ := Option.map_eq_some_iff.mp hz
    subst hz
    obtain ⟨a, ws, rfl, rw', hs⟩ := seq_of so r e
    exact call_list_of pins s σ H _ us Q I rv ⟨a, ws, rfl, hs, fun p hp => h.new hp rw'⟩
  · obtain ⟨v, rfl, r⟩ := rs.one
    obtain ⟨ys, e, hz⟩ := Option.map_eq_some_iff.mp hz
    subst hz
    obtain ⟨a, ws, rfl, rw', hs⟩ := seq_of so r e
    rcases h with ⟨_, e, _⟩ | ⟨_, h⟩
    · cases e
    · rcases hs with hs | hs
      · exact call_tuple_of pins s σ H _ us Q I rv ⟨a, ws, rfl, .inl ⟨hs, fun p hp => h _ _ (.alloc hp) (so.alloc hp) (.tup (SqT.of upd_same) (rw'.mono (.new hp) (List.prefix_refl _)))⟩⟩
      · exact call_tuple_of pins s σ H _ us Q I rv ⟨a, ws, rfl, .inr ⟨hs, h _ _ .refl so (.tup hs rw')⟩⟩
  · cases hz
    obtain ⟨v, w, rfl, r, q⟩ := rs.two
    obtain rfl := r.of_int
    obtain rfl := q.of_int
    exact cr_gcd pins s σ H _ us Q I rv ⟨_, _, rfl, nl (fun _ e => by cases e) (.int _)⟩
  · cases hz
    obtain ⟨v, w, rfl, r, q⟩ := rs.two
    obtain rfl := r.of_int
    obtain rfl := q.of_int
    exact call_max2 hc pins s σ H _ us Q I rv ⟨_, _, rfl, nl (fun _ e => by cases e) (.int _)⟩
  · cases hz
    obtain ⟨v, w, rfl, r, q⟩ := rs.two
    obtain rfl := r.of_int
    obtain rfl := q.of_int
    exact call_min2 hc pins s σ H _ us Q I rv ⟨_, _, rfl, nl (fun _ e => by cases e) (.int _)⟩
  · obtain ⟨v, rfl, r⟩ := rs.one
    obtain rfl := r.of_int
    split at hz
    · rename_i hl
      cases hz
      exact call_str_int pins s σ H _ us Q I rv ⟨_, rfl, hl, nl (fun _ e => by cases e) (.str _)⟩
    · cases hz
  · obtain ⟨v, rfl, r⟩ := rs.one
    obtain ⟨ns, e, hz⟩ := Option.map_eq_some_iff.mp hz
    subst hz
    obtain ⟨ys, e, e'⟩ := Option.bind_eq_some_iff.mp e
    obtain ⟨a, ws, rfl, rw', hs⟩ := seq_of so r e
    have e2 := ints_of rw' e'
    subst e2
    rcases hs with hs | hs
    · exact cr_sum hc pins s σ H _ us Q I rv ⟨a, ns, rfl, hs, nl (fun _ e => by cases e) (.int _)⟩
    · obtain ⟨u, rfl, ru⟩ := vals1 rv
      cases ru
      exact sum_tup hc I hs (nl (fun _ e => by cases e) (.int _)) rfl
  · obtain ⟨v, rfl, r⟩ := rs.one
    obtain ⟨ns, e, hz⟩ := Option.map_eq_some_iff.mp hz
    subst hz
    obtain ⟨ys, e, e'⟩ := Option.bind_eq_some_iff.mp e
    obtain ⟨a, ws, rfl, hs, rw'⟩ := lst_of so r e
    have e2 := bls_of rw' e'
    subst e2
    exact cr_all hc pins s σ H _ us Q I rv ⟨a, ns, rfl, hs, nl (fun _ e => by cases e) (.bl _)⟩
  · obtain ⟨v, rfl, r⟩ := rs.one
    obtain ⟨ns, e, hz⟩ := Option.map_eq_some_iff.mp hz
    subst hz
    obtain ⟨ys, e, e'⟩ := Option.bind_eq_some_iff.mp e
    obtain ⟨a, ws, rfl, hs, rw'⟩ := lst_of so r e
    have e2 := bls_of rw' e'
    subst e2
    exact cr_any hc pins s σ H _ us Q I rv ⟨a, ns, rfl, hs, nl (fun _ e => by cases e) (.bl _)⟩
  · obtain ⟨v, rfl, r⟩ := rs.one
    obtain ⟨a, rfl, ea⟩ := r.of_ref
    split at hz
    · rename_i kvs e
      split at hz
      · cases hz
      · rename_i hr
        cases hz
        obtain ⟨xs, d, z1, z2, hw⟩ := so.cell _ _ a e ea
        obtain ⟨u, rfl, ru⟩ := vals1 rv
        cases ru
        refine sorted_dT hc I d z1 z2 hw (fun p hp e => hr ?_) (fun p ds hp xd => h.new hp (rows_rel xd)) rfl
        rw [List.any_eq_true]
        exact ⟨p.1, List.mem_map.mpr ⟨p, hp, rfl⟩, by rw [e]; rfl⟩
    · rename_i ys e
      obtain ⟨zs, e2, hz⟩ := Option.map_eq_some_iff.mp hz
      subst hz
      obtain ⟨ws, rw', hs⟩ := so.cell _ _ a e ea
      exact sorted_seq I rv (SqL.of hs) rw' e2 fun p ws hp r => h.new hp r
    · rename_i ys e
      obtain ⟨zs, e2, hz⟩ := Option.map_eq_some_iff.mp hz
      subst hz
      obtain ⟨ws, rw', hs⟩ := so.cell _ _ a e ea
      exact sorted_seq I rv (.inl (.inr hs)) rw' e2 fun p ws hp r => h.new hp r
    · cases hz
  · obtain ⟨v, rfl, r⟩ := rs.one
    obtain ⟨zs, e2, hz⟩ := Option.map_eq_some_iff.mp hz
    subst hz
    obtain ⟨a, ws, rfl, hs, rw'⟩ := r.of_lst
    exact sorted_seq I rv hs.sq rw' e2 fun p ws hp r => h.new hp r
  · cases hz
/-! ### isinstance -/
def tyName : Ty → String
  | .int => "int"
  | .bool => "bool"
  | .str => "str"
  | .tup => "tuple"
theorem ty_ok {x : PV} {v : V} {t : Ty} {c : Bool} (r : RelP K ρ H x v) (e : isTy x t = some c) : ∃ u, TyX K H v u ∧ PySem.W.kitOne K u (.type (tyName t)) = some c := by
  unfold isTy at e
  split at e <;> cases e
  · obtain rfl := r.of_non
    exact ⟨_, .base .non, by cases t <;> exact kit_ty (by decide +kernel)⟩
  · obtain rfl := r.of_bl
    exact ⟨_, .base (.bl _), kit_ty (by decide +kernel)⟩
  · obtain rfl := r.of_bl
    exact ⟨_, .base (.bl _), kit_ty (by decide +kernel)⟩
  · obtain rfl := r.of_bl
    refine ⟨_, .base (.bl _), ?_⟩
    cases t <;> first | exact kit_ty (by decide +kernel) | simp_all
  · obtain rfl := r.of_int
    exact ⟨_, .base (.int _), kit_ty (by decide +kernel)⟩
  · obtain rfl := r.of_int
    refine ⟨_, .base (.int _), ?_⟩
    cases t <;> first | exact kit_ty (by decide +kernel) | simp_all
  · obtain rfl := r.of_str
    exact ⟨_, .base (.str _), kit_ty (by decide +kernel)⟩
  · obtain rfl := r.of_str
    refine ⟨_, .base (.str _), ?_⟩
    cases t <;> first | exact kit_ty (by decide +kernel) | simp_all
  all_goals
    obtain ⟨a, vs, rfl, hs, _⟩ := r.of_tup
    have ty : TyX K H (.ref a) (.type "tuple") := by
      rcases hs with (hs | ⟨o, hs⟩) | ⟨o, its, n, hk, hc, _⟩
      · exact .base (.tup hs)
      · exact .fTuple hs
      · exact .kTuple hk hc
    refine ⟨_, ty, ?_⟩
    first | exact kit_ty (by decide +kernel) | (cases t <;> first | exact kit_ty (by decide +kernel) | simp_all)
end
end MP
end
section
set_option Elab.async false
set_option linter.all false
set_option maxRecDepth 100000
/-! MPSound5: whether a row of the text is an expression of MP; if so, it runs like it. -/
namespace MP
open PySem PySem.Spec PyProof.Rows L2
/-! ### the look at a text -/
/-- the names of a text: its defs by number; its exception classes, each with its attributes' names and the names of classes that it is under; constants; which built-in names mean what they mean -/
structure Tab where
  fns : List (Option Str)
  cls : List (Str × List Str × List Str)
  glb : List (Str × PV)
  bi : List Str
  /-- classes of records: name, attributes; by number: the def of __init__; methods: class, name, def -/
  rcs : List (Str × List Str)
  inits : List (Nat × Nat)
  meths : List (Nat × Str × Nat)
/-- a list that is made by the expression itself -/
def E.fresh : E → Bool
  | .lst _ => true
  | .lc _ _ _ _ _ => true
  | .bin .add _ _ => true
  | .slc _ _ _ => true
  | .bi .list _ => true
  | .bi .sorted _ => true
  | _ => false
def notStar : Expr → Bool
  | .Starred _ _ => false
  | _ => true
def notLc : Expr → Bool
  | .ListComp _ _ _ _ => false
  | _ => true
def notCall0 : Expr → Bool
  | .Call (.Name _ _) [] [] _ => false
  | _ => true
def methB : Expr → Bool
  | .Name _ _ => true
  | .Attribute _ _ _ => true
  | .Subscript _ _ _ => true
  | .Call (.Attribute _ _ _) _ _ _ => true
  | .Call _ (_ :: _) _ _ => true
  | _ => false
/-- an f-string's part as an expression -/
def fpB (f : E → Expr → Bool) : Es → List Expr → Bool
  | .nil, es => es.isEmpty
  | .cons e es, fs => match fs with
    | g :: fs => (match g with
      | .Constant (.str x) _ _ => (match e with
        | .cst (.str y) => decide (x = y)
        | _ => false)
      | .FormattedValue v (-1) none _ => f e v
      | _ => false) && fpB f es fs
    | [] => false
def nameB (x : Str) : Bool := !(x == ("__debug__" : Str)) && !(x == ("__classdict__" : Str)) && !(x == ("__name__" : Str))
def kindB (sc : Scope) (x : Str) (k : NameKind) : Bool := decide (sc.names.lookup x = some k)
def visB (sc : Scope) (x : Str) : Bool := kindB sc x .local || kindB sc x .cell || kindB sc x .free
def locB (sc : Scope) (x : Str) : Bool := kindB sc x .local || kindB sc x .cell
def gloB (sc : Scope) (x : Str) : Bool := kindB sc x .globalImplicit && nameB x
def atB (N : List Str) (i : Nat) (x : Str) : Bool := decide (N[i]? = some x)
/-- an operator's look -/
def opB : Op → Operator → Bool
  | .add, .Add | .sub, .Sub | .mul, .Mult | .fdiv, .FloorDiv | .mod, .Mod | .pow, .Pow | .shl, .LShift => true
  | _, _ => false
def cmB : Cm → CmpOp → Bool
  | .eq, .Eq | .ne, .NotEq | .lt, .Lt | .le, .LtE | .gt, .Gt | .ge, .GtE | .isn, .Is | .nisn, .IsNot | .inn, .In | .nin, .NotIn => true
  | _, _ => false
theorem opB_ok {o : Op} {p : Operator} (h : opB o p = true) : p = opOf o := by cases o <;> cases p <;> first | rfl | cases h
theorem cmB_ok {o : Cm} {p : CmpOp} (h : cmB o p = true) : p = cmOf o := by cases o <;> cases p <;> first | rfl | cases h
/-- the name by which a built-in is called -/
def biName : Bi → Str
  | .abs => "abs"
  | .int => "int"
  | .len => "len"
  | .list => "list"
  | .tuple => "tuple"
  | .gcd => "gcd"
  | .max2 => "max"
  | .min2 => "min"
  | .str => "str"
  | .sum => "sum"
  | .sorted => "sorted"
  | .all => "all"
  | .any => "any"
  | .bool => "bool"
  | .maxL => "max"
  | .minL => "min"
def constB (T : Tab) (sc : Scope) (v : PV) : Expr → Bool
  | .Constant (.int i) _ _ => decide (v = .int i)
  | .Constant (.str x) _ _ => decide (v = .str x)
  | .Constant (.bool c) _ _ => decide (v = .bl c)
  | .Constant .none _ _ => decide (v = .non)
  | .Name x _ => gloB sc x && T.glb.any fun p => decide (p = (x, v))
  | _ => false
def isSlice : Expr → Bool
  | .Slice _ _ _ _ => true
  | _ => false
mutual
def Tg.slots : Tg → List Nat
  | .name i => [i]
  | .tup ts => Tgs.slots ts
def Tgs.slots : Tgs → List Nat
  | .nil => []
  | .cons t ts => t.slots ++ ts.slots
end
section
variable (T : Tab) (N : List Str)
mutual
def tgB (lo : Bool) (sc : Scope) : Tg → Expr → Bool
  | .name i, e => match e with
    | .Name x _ => atB N i x && (if lo then kindB sc x .local else locB sc x)
    | _ => false
  | .tup ts, e => match e with
    | .Tuple es _ _ => tgsB lo sc ts es
    | _ => false
def tgsB (lo : Bool) (sc : Scope) : Tgs → List Expr → Bool
  | .nil, es => es.isEmpty
  | .cons t ts, es => match es with
    | e :: es => tgB lo sc t e && tgsB lo sc ts es
    | [] => false
end
mutual
/-- hx: the slot and class's number of the exception that is held (a suite); cl: no exception is handled -/
def trB (sc : Scope) (cl : Bool) (hx : Option (Nat × Nat)) : E → Expr → Bool
  | .var i, e => match e with
    | .Name x _ => atB N i x && visB sc x && nameB x && !(hx.any fun p => decide (p.1 = i))
    | _ => false
  | .cst v, e => constB T sc v e
  | .tup es, e => match e with
    | .Tuple fs _ _ => trsB sc cl hx es fs && decide (fs.length ≤ 1000)
    | _ => false
  | .lst es, e => match e with
    | .List fs _ => trsB sc cl hx es fs && decide (fs.length ≤ 1000)
    | _ => false
  | .bin o a c, e => match e with
    | .BinOp x p y _ => opB o p && trB sc cl hx a x && trB sc cl hx c y
    | _ => false
  | .neg a, e => match e with
    | .UnaryOp .USub x _ => trB sc cl hx a x
    | _ => false
  | .not a, e => match e with
    | .UnaryOp .Not x _ => trB sc cl hx a x
    | _ => false
  | .and a c, e => match e with
    | .BoolOp .And [x, y] _ => trB sc cl hx a x && trB sc cl hx c y
    | .BoolOp .And (x :: y :: z :: r) p => trB sc cl hx a x && trB sc cl hx c (.BoolOp .And (y :: z :: r) p)
    | _ => false
  | .or a c, e => match e with
    | .BoolOp .Or [x, y] _ => trB sc cl hx a x && trB sc cl hx c y
    | .BoolOp .Or (x :: y :: z :: r) p => trB sc cl hx a x && trB sc cl hx c (.BoolOp .Or (y :: z :: r) p)
    | _ => false
  | .cmp o a c, e => match e with
    | .Compare x [p] [y] _ => cmB o p && trB sc cl hx a x && trB sc cl hx c y && !behindInMarks p y
    | _ => false
  | .chain o o' a c d, e => match e with
    | .Compare x [p, p'] [y, z] _ => cmB o p && cmB o' p' && trB sc cl hx a x && trB sc cl hx c y && trB sc cl hx d z && !lastMarks [p, p'] [y, z]
    | _ => false
  | .ife c a d, e => match e with
    | .IfExp z x y _ => trB sc cl hx c z && trB sc cl hx a x && trB sc cl hx d y
    | _ => false
  | .ix a c, e => match e with
    | .Subscript x y _ => trB sc cl hx a x && trB sc cl hx c y && !isSlice y
    | _ => false
  | .slc a lo hi, e => match e with
    | .Subscript x (.Slice l h none _) _ => trB sc cl hx a x && troB sc cl hx lo l && troB sc cl hx hi h
    | _ => false
  | .call f es, e => match e with
    | .Call (.Name x _) (g :: gs) [] _ => cl && gloB sc x && decide (T.fns[f]? = some (some x)) && trsB sc cl hx es (g :: gs)
    | _ => false
  | .bi f es, e => match e with
    | .Call (.Name x _) (g :: gs) [] _ => cl && gloB sc x && decide (biName f = x) && T.bi.contains x && trsB sc cl hx es (g :: gs)
    | _ => false
  | .isi a t, e => match e with
    | .Call (.Name x _) [y, .Name z _] [] _ => gloB sc x && gloB sc z && decide (x = "isinstance") && decide (z = tyName t) && T.bi.contains x && T.bi.contains z && trB sc cl hx a y
    | _ => false
  | .eat i j, e => match e with
    | .Attribute (.Name x _) f _ => match hx with
      | some (k, c) => decide (k = i) && atB N i x && visB sc x && nameB x && decide ((T.cls[c]?.bind fun p => p.2.1[j]?) = some f)
      | none => false
    | _ => false
  | .eisi i, e => match e with
    | .Call (.Name x _) [.Name y _, .Name z _] [] _ => match hx with
      | some (k, c) => decide (k = i) && atB N i y && visB sc y && nameB y && gloB sc x && decide (x = "isinstance") && T.bi.contains x && gloB sc z && ((T.cls[c]?).any fun p => p.2.1.isEmpty && p.2.2.contains z)
      | none => false
    | _ => false
  | .lc t own it c e', e => match e with
    | .ListComp elt [⟨tg, iter, ifs, 0⟩] scope _ => cl && hx.isNone && blkC N sc scope (own.map fun i => ((N[i]?).getD Str.empty, i)) && tgB N true (relS scope sc) t tg && ((Tg.slots t).all fun i => decide (i ∈ own)) && tiB sc it tg iter
        && (match ifs with
          | [] => match c with
            | .none => true
            | .some _ => false
          | [z] => troB (relS scope sc) cl none c (some z) && (match c with
            | .none => false
            | .some _ => true)
          | _ => false) && trB (relS scope sc) cl none e' elt
    | _ => false
  | .new e', e => trB sc cl hx e' e && e'.fresh && notStar e
  | .frz e', e => trB sc cl hx e' e && notStar e && notLc e
  | .att e' ps, e => match e with
    | .Attribute x f _ => trB sc cl hx e' x && notCall0 x && ps.all fun q => decide ((T.rcs[q.1]?.bind fun p => p.2[q.2]?) = some f)
    | _ => false
  | .meth f cs e' es, e => false && match e with
    | .Call (.Attribute x m _) (g :: gs) [] _ => cl && trB sc cl hx e' x && trsB sc cl hx es (g :: gs) && methB x && cs.all fun c => T.meths.contains (c, m, f)
    | .Call (.Attribute x m _) [] [] _ => cl && trB sc cl hx e' x && trsB sc cl hx es [] && methB x && cs.all fun c => T.meths.contains (c, m, f)
    | _ => false
  | .mk f c fr es, e => false && match e with
    | .Call (.Name x _) (g :: gs) [] _ => cl && gloB sc x && decide ((T.rcs[c]?.map (·.1)) = some x) && T.inits.contains (c, f) && trsB sc cl hx es (g :: gs)
    | _ => false
  | .isr e' c, e => false && match e with
    | .Call (.Name x _) [y, .Name z _] [] _ => gloB sc x && gloB sc z && decide (x = "isinstance") && decide ((T.rcs[c]?.map (·.1)) = some z) && T.bi.contains x && trB sc cl hx e' y
    | _ => false
  | .dnew t, e => false && match e with
    | .Dict [] [] _ => true
    | _ => false
  | .dget d k z, e => false && match e with
    | .Call (.Attribute x m ap) [y, w] [] cp => decide (m = "get") && (ap.endLine == cp.line) && notCall0 x && trB sc cl hx d x && trB sc cl hx k y && trB sc cl hx z w
    | _ => false
  | .sdef d k z, e => false && match e with
    | .Call (.Attribute x m ap) [y, w] [] cp => decide (m = "setdefault") && (ap.endLine == cp.line) && notCall0 x && trB sc cl hx d x && trB sc cl hx k y && trB sc cl hx z w
    | _ => false
  | .disp _ _, _ => false
  | .fstr _, _ => false
  | .maxD _ _, _ => false
def trsB (sc : Scope) (cl : Bool) (hx : Option (Nat × Nat)) : Es → List Expr → Bool
  | .nil, es => es.isEmpty
  | .cons e es, fs => match fs with
    | f :: fs => trB sc cl hx e f && trsB sc cl hx es fs
    | [] => false
def troB (sc : Scope) (cl : Bool) (hx : Option (Nat × Nat)) : Eo → Option Expr → Bool
  | .none, o => o.isNone
  | .some e, o => match o with
    | some f => trB sc cl hx e f
    | none => false
/-- what a for walks, tg its target -/
def tiB (sc : Scope) : It → Expr → Expr → Bool
  | .seq e, _, f => trB sc true none e f
  | .rng1 e, _, f => match f with
    | .Call (.Name x _) [g] [] _ => gloB sc x && decide (x = "range") && T.bi.contains x && trB sc true none e g
    | _ => false
  | .rng2 a c, _, f => match f with
    | .Call (.Name x _) [g, h] [] _ => gloB sc x && decide (x = "range") && T.bi.contains x && trB sc true none a g && trB sc true none c h
    | _ => false
  | .zip a c, t, f => match t, f with
    | .Tuple _ _ _, .Call (.Name x _) [g, h] [] _ => gloB sc x && decide (x = "zip") && T.bi.contains x && trB sc true none a g && trB sc true none c h
    | _, _ => false
  | .rng3 a c, _, f => match f with
    | .Call (.Name x _) [g, h, .UnaryOp .USub (.Constant (.int 1) _ _) _] [] _ => gloB sc x && decide (x = "range") && T.bi.contains x && trB sc true none a g && trB sc true none c h
    | _ => false
  | .enum a, t, f => match t, f with
    | .Tuple _ _ _, .Call (.Name x _) [g] [] _ => gloB sc x && decide (x = "enumerate") && T.bi.contains x && trB sc true none a g
    | _, _ => false
end
end
end MP
end
section
set_option Elab.async false
set_option linter.all false
set_option maxRecDepth 100000
set_option maxHeartbeats 1000000
/-! MPSound6: an expression's run in the model. -/
namespace MP
open PySem PySem.Spec PyProof.Rows L2
variable [RT]
/-- a def's promise: it runs as C says -/
def spC (K : PySem.W.Frag) (T : Exc) (r : List PV → Sto → R PV) : Sp := fun vs H Q E => ∃ ρ S args, StOk K S.cells.length ρ S H ∧ RelPs K ρ H args vs ∧ At K T S.cells.length E (relE K) ρ S H (r args S) Q
/-- what the text's top leaves of an exception class -/
structure ExcK (K : PySem.W.Frag) (mg : Str → Option Value) (A : Addr) (n : Str) (fs : List Str) : Prop where
  gl : mg n = some (.ref A)
  kp : PySem.W.keepIn K (.ref A) = true
  sb : PySem.W.subIn K (.ref A) (.type "BaseException") = some true
  ty : PySem.W.typeIn K (.ref A) = some (.type "type")
  no : fs = [] → PySem.W.excIn K A [.type "ValueError", .type "Exception", .type "BaseException", .type "object"] "ValueError.__new__" = true
/-- what the text's top leaves of a class of records -/
structure RcK (K : PySem.W.Frag) (mg : Str → Option Value) (c : Nat) (p : Str × List Str) : Prop where
  gl : mg p.1 = some (.ref (RT.rc c))
  fs : RT.rf c = p.2
  nd : p.2.Nodup
  few : p.2.length < 900
  cl : Cls K (RT.rc c)
  no : ∀ f ∈ p.2, NoAttr K (RT.rc c) f
  ha : PySem.W.findIn K (.ref (RT.rc c)) "__class__" = some (some (.builtin "object.__class__"))
  hn : PySem.W.specialIn K (.builtin "object.__class__") "__get__" = some (some (.builtin "getset_descriptor.__get__"))
  htk : PySem.W.takesIn K (.builtin "object.__class__") = some true
  hm : PySem.W.mroIn K (RT.rc c) (.type "object") = some true
/-- where an expression stands -/
structure Ctx (T : Tab) (TX : Exc) (C : Nat → List PV → Sto → R PV) (X : Cx) (W : WX) (N : List Str) (sc : Scope) (cl : Bool) (ex : Option Held) : Prop where
  scope : X.env.scope = sc
  names : X.N = N
  nd : N.Nodup
  takes : Takes X W
  calm : cl = true → X.calm = true
  unit : X.A.units + 65 < cLine
  free : ∀ x, T.bi.contains x = true → (x = "gcd" → X.mg x = some (.builtin "math.gcd")) ∧ (x ≠ "gcd" → X.mg x = none)
  glb : ∀ p ∈ T.glb, ∃ w u, X.mg p.1 = some u ∧ RelV w u ∧ ∀ ρ H, RelP X.K ρ H p.2 w
  wide : WideX X
  rcs : ∀ (c : Nat) (p : Str × List Str), T.rcs[c]? = some p → RcK X.K X.mg c p
  kit : ∀ (c d : Nat), c < T.rcs.length → d < T.rcs.length → PySem.W.kitOne X.K (.ref (RT.rc d)) (.ref (RT.rc c)) = some (decide (d = c))
  inits : cl = true → ∀ (c f : Nat), T.inits.contains (c, f) = true → ∃ fa fd ps k, Mk X.K (RT.rc c) fa ∧ Binds X.K fd ps [] ∧
    FnOk X.prog X.w X.K X.mg X.base (L2.CX X.prog X.w) k fa fd ps (spC X.K TX (C f)) ∧ Room (k + 1) X.A
  meths : cl = true → ∀ (c : Nat) (m : Str) (f : Nat), T.meths.contains (c, m, f) = true → ∃ fa fd ps k p, T.rcs[c]? = some p ∧ m ∉ p.2 ∧ Meth X.K (RT.rc c) m fa ∧ Binds X.K fd ps [] ∧
    FnOk X.prog X.w X.K X.mg X.base (L2.CX X.prog X.w) k fa fd ps (spC X.K TX (C f)) ∧ Room k X.A
  fns : cl = true → ∀ (f : Nat) (x : Str), T.fns[f]? = some (some x) → ∃ fa fd ps k, X.mg x = some (.ref fa) ∧ PySem.W.keepIn X.K (.ref fa) = true ∧ Binds X.K fd ps [] ∧
    FnOk X.prog X.w X.K X.mg X.base (L2.CX X.prog X.w) k fa fd ps (spC X.K TX (C f)) ∧ Room k X.A
  num : TX.n = T.cls.length
  exc : ∀ (c : Nat) (p : Str × List Str × List Str), T.cls[c]? = some p → ExcK X.K X.mg (TX.at_ c) p.1 p.2.1
  exm : ∀ c d, c < TX.n → d < TX.n → PySem.W.exmOne X.K (.ref (TX.at_ d)) (.ref (TX.at_ c)) = some (decide (d = c))
  attrs : ∀ (c : Nat) (p : Str × List Str × List Str), T.cls[c]? = some p → TX.attrs c = p.2.1
  held : ∀ x, ex = some x → ∃ oe pn, X.calm = false ∧ (∃ Y : Cx, X = Y.suite x.a ((x.a, oe) :: pn)) ∧ Zc x.cls x.d oe ∧ (∃ vs, oe.data = .fields vs) ∧
    (∀ p : Str × List Str × List Str, T.cls[x.c]? = some p →
      (∀ f ∈ p.2.1, PySem.W.findIn X.K (.ref (TX.at_ x.c)) "__getattribute__" = some (some (.builtin "BaseException.__getattribute__")) ∧ PySem.W.findIn X.K (.ref (TX.at_ x.c)) "__getattr__" = some none ∧
        PySem.W.subIn X.K (.ref (TX.at_ x.c)) (.type "BaseException") = some true ∧ PySem.W.hasDictIn X.K (TX.at_ x.c) = true ∧ PySem.W.findIn X.K (.ref (TX.at_ x.c)) f = some none) ∧
      (p.2.1 = [] → ExcC X.K (TX.at_ x.c) ∧ ∀ z, p.2.2.contains z = true → ∃ (c : V) (cv : Value), ((X.mg z = some cv) ∨ (X.mg z = none ∧ bootBuiltins z = some cv ∧ z ≠ "__name__")) ∧ RelV c cv ∧ (∀ u, RelV c u → u = cv) ∧ PySem.W.kitOne X.K (.ref (TX.at_ x.c)) cv = some true))
def hxOf (ex : Option Held) : Option (Nat × Nat) := ex.map fun x => (x.i, x.c)
theorem kindB_ok {sc : Scope} {x : Str} {k : NameKind} (h : kindB sc x k = true) : sc.names.lookup x = some k := of_decide_eq_true h
theorem visB_ok {sc : Scope} {x : Str} (h : visB sc x = true) : Vis sc x := by
  unfold visB at h
  rw [Bool.or_eq_true, Bool.or_eq_true] at h
  rcases h with (h | h) | h
  · exact .inl (kindB_ok h)
  · exact .inr (.inl (kindB_ok h))
  · exact .inr (.inr (kindB_ok h))
theorem locB_ok {sc : Scope} {x : Str} (h : locB sc x = true) : Loc sc x := by
  unfold locB at h
  rw [Bool.or_eq_true] at h
  exact h.imp kindB_ok kindB_ok
theorem nameB_ok {x : Str} (h : nameB x = true) : (x == ("__debug__" : Str)) = false ∧ (x == ("__classdict__" : Str)) = false ∧ x ≠ "__name__" := by
  unfold nameB at h
  simp only [Bool.and_eq_true, Bool.not_eq_true'] at h
  exact ⟨h.1.1, h.1.2, fun e => by rw [e] at h; simp at h⟩
theorem atB_ok {N : List Str} {i : Nat} {x : Str} (h : atB N i x = true) : N[i]? = some x := of_decide_eq_true h
section
variable {T : Tab} {TX : Exc} {C : Nat → List PV → Sto → R PV} {X : Cx} {W : WX} {N : List Str} {sc : Scope} {cl : Bool} {ex : Option Held} {b : Nat}
theorem Ctx.gl (c : Ctx T TX C X W N sc cl ex) {x : Str} (h : gloB sc x = true) : Gl X x ∧ (x == ("__debug__" : Str)) = false ∧ (x == ("__classdict__" : Str)) = false ∧ x ≠ "__name__" := by
  have h' := Bool.and_eq_true_iff.mp h
  refine ⟨?_, nameB_ok h'.2⟩
  show X.env.scope.names.lookup x = _
  rw [c.scope]
  exact kindB_ok h'.1
/-- an expression's reading -/
abbrev tE (K : PySem.W.Frag) (TX : Exc) (b : Nat) (ex : Option Held) (W : WX) (r : Env → Sto → R PV) : TE := tG K TX b ex W (relE K) r
abbrev tTs (K : PySem.W.Frag) (TX : Exc) (b : Nat) (ex : Option Held) (W : WX) (r : Env → Sto → R Bool) : TT := tG K TX b ex W relT r
abbrev tAs (K : PySem.W.Frag) (TX : Exc) (b : Nat) (ex : Option Held) (W : WX) (r : Env → Sto → R (List PV)) : TA := tG K TX b ex W (relA K) r
abbrev tOs (K : PySem.W.Frag) (TX : Exc) (b : Nat) (ex : Option Held) (W : WX) (r : Env → Sto → R (Option Int)) : TO := tG K TX b ex W relO r
/-! ### forms that hold of every row that is looked at -/
theorem star_of {sc : Scope} {cl : Bool} {hx : Option (Nat × Nat)} {e : E} {f : Expr} (h : trB T N sc cl hx e f = true) (es : List Expr) (env : PySem.Env) : starEach (f :: es) env = (false, eval f env) :: starEach es env := by
  cases f with
  | Starred v p => cases e <;> simp [trB, constB, notStar] at h
  | _ => rfl
theorem stars_of {sc : Scope} {cl : Bool} {hx : Option (Nat × Nat)} : ∀ {es : Es} {fs : List Expr}, trsB T N sc cl hx es fs = true → ∀ (pos : Pos) (env : PySem.Env), (backTo pos (starEach fs env)).any (·.1) = false
  | .nil, [], _, _, _ => rfl
  | .nil, _ :: _, h, _, _ => by simp [trsB] at h
  | .cons _ _, [], h, _, _ => by simp [trsB] at h
  | .cons e es, f :: fs, h, pos, env => by
    have h' := Bool.and_eq_true_iff.mp (by simpa [trsB] using h)
    rw [star_of h'.1]
    have ih := stars_of h'.2 pos env
    show ((false, _) :: backTo pos (starEach fs env)).any (·.1) = false
    rw [List.any_cons, ih]
    rfl
theorem slice_of {f : Expr} (h : isSlice f = false) : PlainIx f := by
  cases f with
  | Slice _ _ _ _ => cases h
  | _ => intro _ _; rfl
end
end MP
end
section
set_option Elab.async false
set_option linter.all false
set_option maxRecDepth 100000
set_option maxHeartbeats 1000000
/-! MPSound7: each form of an expression. -/
namespace MP
open PySem PySem.Spec PyProof.Rows L2
section
variable [RT] {T : Tab} {TX : Exc} {C : Nat → List PV → Sto → R PV} {X : Cx} {W : WX} {N : List Str} {sc : Scope} {cl : Bool} {ex : Option Held} {b : Nat}
variable {x y z : Expr} {a c d : E} {pos : Pos}
theorem bd_assoc {α β γ δ : Type} {K : PySem.W.Frag} {E : XK} {rel : List Addr → Hp → γ → δ → Prop} {ρ : List Addr} {S : Sto} {H : Hp} {r : R α} {f : α → Sto → R β} {g : β → Sto → R γ} {Q : δ → Hp → Prop} (h : At K TX b E rel ρ S H ((r.bd f).bd g) Q) : At K TX b E rel ρ S H (r.bd fun v S1 => (f v S1).bd g) Q := by
  cases r <;> exact h
theorem opt_bd {α γ δ : Type} {K : PySem.W.Frag} {E : XK} {rel : List Addr → Hp → γ → δ → Prop} {ρ : List Addr} {S S1 : Sto} {H : Hp} {o : Option α} {f : α → Sto → R γ} {Q : δ → Hp → Prop} (h : At K TX b E rel ρ S H ((MP.opt o S1).bd f) Q) : ∃ v, o = some v ∧ At K TX b E rel ρ S H (f v S1) Q := by
  cases o with
  | none => exact h.elim
  | some v => exact ⟨v, rfl, h⟩
theorem s_var (cx : Ctx T TX C X W N sc cl ex) {i : Nat} {n : Str} (h1 : atB N i n = true) (h2 : visB sc n = true) (h3 : nameB n = true) (h4 : ∀ p, hxOf ex = some p → p.1 ≠ i) : PE X (.Name n pos) (tE X.K TX b ex W (ev C b (.var i))) := by
  obtain ⟨n1, n2, _⟩ := nameB_ok h3
  refine PE.weak (pe_var (i := i) (by rw [cx.names]; exact atB_ok h1) (by rw [cx.scope]; exact visB_ok h2) n1 n2) fun τ H Q ⟨ρ, σ, S, so, eo, h⟩ => ?_
  rw [ev] at h
  split at h
  · rename_i v e
    obtain ⟨w, e1, r⟩ := eo.val i v e fun q hq => h4 (q.i, q.c) (by rw [hq]; rfl)
    exact ⟨w, e1, At.ok so h r⟩
  · exact h.elim
theorem s_const (cx : Ctx T TX C X W N sc cl ex) {v : PV} (h : constB T sc v x = true) : PE X x (tE X.K TX b ex W (ev C b (.cst v))) := by
  have fin : ∀ {τ : L2.St} {H : Hp} {Q : VK} {w : V}, (∀ ρ, RelP X.K ρ H v w) → tE X.K TX b ex W (ev C b (.cst v)) τ H Q → Q w H := fun {τ H Q w} r ⟨ρ, σ, S, so, eo, h⟩ => At.ok so h (r ρ)
  unfold constB at h
  split at h
  · have e := of_decide_eq_true h
    exact PE.weak pe_int fun τ H Q q => fin (fun ρ => by rw [e]; exact .int _) q
  · have e := of_decide_eq_true h
    exact PE.weak pe_str fun τ H Q q => fin (fun ρ => by rw [e]; exact .str _) q
  · have e := of_decide_eq_true h
    exact PE.weak pe_bl fun τ H Q q => fin (fun ρ => by rw [e]; exact .bl _) q
  · have e := of_decide_eq_true h
    exact PE.weak pe_non fun τ H Q q => fin (fun ρ => by rw [e]; exact .non) q
  · have h' := Bool.and_eq_true_iff.mp h
    obtain ⟨g1, g2, _, g4⟩ := cx.gl h'.1
    obtain ⟨p, hp, e⟩ := List.any_eq_true.mp h'.2
    have e := of_decide_eq_true e
    obtain ⟨w, u, m, r, q⟩ := cx.glb p hp
    subst e
    exact PE.weak (pe_glob g1 m r g2) fun τ H Q z => fin (fun ρ => q ρ H) z
  · cases h
theorem s_tup {fs : List Expr} {es : Es} {k : Nat} (h : PA X fs (tAs X.K TX b ex W (evs C b es))) (hn : ∀ σ S vs S', evs C b es σ S = .ok vs S' → vs.length ≤ 1000) : PE X (.Tuple fs k pos) (tE X.K TX b ex W (ev C b (.tup es))) := by
  refine PE.weak (pe_tup h) fun τ H Q ⟨ρ, σ, S, so, eo, q⟩ => ?_
  rw [ev] at q
  refine ⟨ρ, σ, S, so, eo, At.mono (At.bd (rel := relA X.K) q) fun ws H1 ⟨ρ1, vs, S1, e1, g1, so1, r1, h1⟩ => ?_⟩
  refine ⟨by rw [line_eq, ← RelPs.length r1]; exact Nat.le_trans (hn _ _ _ _ e1) (by decide), fun p hp => ?_⟩
  exact h1 ρ1 _ _ (.alloc hp) (so1.alloc hp) (.tup (SqT.of upd_same) (RelPs.mono (.new hp) (List.prefix_refl _) r1))
theorem n_lst {fs : List Expr} {es : Es} (h : PA X fs (tAs X.K TX b ex W (evs C b es))) (hn : ∀ σ S vs S', evs C b es σ S = .ok vs S' → vs.length ≤ 1000) : PE X (.List fs pos) (tE X.K TX b ex W (ev C b (.new (.lst es)))) := by
  refine PE.weak (pe_lst h) fun τ H Q ⟨ρ, σ, S, so, eo, q⟩ => ?_
  rw [ev, ev] at q
  have q := bd_assoc q
  refine ⟨ρ, σ, S, so, eo, At.mono (At.bd (rel := relA X.K) q) fun ws H1 ⟨ρ1, vs, S1, e1, g1, so1, r1, h1⟩ => ?_⟩
  refine ⟨by rw [line_eq, ← RelPs.length r1]; exact Nat.le_trans (hn _ _ _ _ e1) (by decide), fun p hp => ?_⟩
  exact h1 (ρ1 ++ [p]) _ _ (.push so1.base hp) (so1.push hp r1) (.ref so1.new)
theorem s_lst {fs : List Expr} {es : Es} (h : PA X fs (tAs X.K TX b ex W (evs C b es))) (hn : ∀ σ S vs S', evs C b es σ S = .ok vs S' → vs.length ≤ 1000) : PE X (.List fs pos) (tE X.K TX b ex W (ev C b (.lst es))) := by
  refine PE.weak (PE.lock (pe_lst h)) fun τ H Q ⟨ρ, σ, S, so, eo, q⟩ => ?_
  rw [ev] at q
  refine ⟨ρ, σ, S, so, eo, At.mono (At.bd (rel := relA X.K) q) fun ws H1 ⟨ρ1, vs, S1, e1, g1, so1, r1, h1⟩ => ?_⟩
  refine ⟨by rw [line_eq, ← RelPs.length r1]; exact Nat.le_trans (hn _ _ _ _ e1) (by decide), fun p hp => ?_⟩
  exact lock_new so1 hp r1 fun H' w g s r => h1 ρ1 H' w g s r
/-- a new list, made to be changed -/
theorem thaw_ok {E : XK} {ρ : List Addr} {S : Sto} {H : Hp} {z : PV} {Q : VK} (so : StOk X.K b ρ S H) (h : At X.K TX b E (relE X.K) ρ S H (MP.thaw z S) Q) : ResV X.K b ρ S H z Q := by
  cases z with
  | lst xs => exact ResV.thaw so fun p vs hp r => h (ρ ++ [p]) _ _ (.push so.base hp) (so.push hp r) (.ref so.new)
  | _ => exact h.elim
theorem n_bin {o : Op} (cx : Ctx T TX C X W N sc cl ex) (ha : PE X x (tE X.K TX b ex W (ev C b a))) (hb : PE X y (tE X.K TX b ex W (ev C b c))) : PE X (.BinOp x (opOf o) y pos) (tE X.K TX b ex W (ev C b (.new (.bin o a c)))) := by
  refine PE.weak (pe_op (binOp_ok (b := b) cx.wide o) ha hb) fun τ H Q ⟨ρ, σ, S, so, eo, h⟩ => ?_
  rw [ev, ev] at h
  have h := bd_assoc h
  refine ⟨ρ, σ, S, so, eo, At.mono (At.bd (rel := relE X.K) h) fun w H1 ⟨ρ1, v, S1, _, g1, so1, r1, h1⟩ => ?_⟩
  have h1 := bd_assoc h1
  refine ⟨ρ1, σ, S1, so1, eo.grow g1, At.mono (At.bd (rel := relE X.K) h1) fun w2 H2 ⟨ρ2, u, S2, _, g2, so2, r2, h2⟩ => ?_⟩
  obtain ⟨z, e, h3⟩ := opt_bd h2
  exact ⟨ρ2, S2, v, u, z, so2, RelP.mono g2.keep g2.pre r1, r2, e, thaw_ok so2 h3⟩
theorem s_bin {o : Op} (cx : Ctx T TX C X W N sc cl ex) (ha : PE X x (tE X.K TX b ex W (ev C b a))) (hb : PE X y (tE X.K TX b ex W (ev C b c))) : PE X (.BinOp x (opOf o) y pos) (tE X.K TX b ex W (ev C b (.bin o a c))) := by
  refine PE.weak (PE.lock (pe_op (binOp_ok (b := b) cx.wide o) ha hb)) fun τ H Q ⟨ρ, σ, S, so, eo, h⟩ => ?_
  rw [ev] at h
  refine ⟨ρ, σ, S, so, eo, At.mono (At.bd (rel := relE X.K) h) fun w H1 ⟨ρ1, v, S1, _, g1, so1, r1, h1⟩ => ?_⟩
  refine ⟨ρ1, σ, S1, so1, eo.grow g1, At.mono (At.bd (rel := relE X.K) h1) fun w2 H2 ⟨ρ2, u, S2, _, g2, so2, r2, h2⟩ => ?_⟩
  obtain ⟨z, e, h3⟩ := At.opt h2
  exact ⟨ρ2, S2, v, u, z, so2, RelP.mono g2.keep g2.pre r1, r2, e, ResV.of so2 fun H' w g s r => h3 ρ2 H' w g s r⟩
theorem s_neg (ha : PE X x (tE X.K TX b ex W (ev C b a))) : PE X (.UnaryOp .USub x pos) (tE X.K TX b ex W (ev C b (.neg a))) := by
  refine PE.weak (pe_un un_neg ha) fun τ H Q ⟨ρ, σ, S, so, eo, h⟩ => ?_
  rw [ev] at h
  refine ⟨ρ, σ, S, so, eo, At.mono (At.bd (rel := relE X.K) h) fun w H1 ⟨ρ1, v, S1, _, g1, so1, r1, h1⟩ => ?_⟩
  split at h1
  · exact ⟨_, RelP.of_int r1, At.ok so1 h1 (.int _)⟩
  · exact h1.elim
theorem s_not (ha : PE X x (tE X.K TX b ex W (ev C b a))) : PE X (.UnaryOp .Not x pos) (tE X.K TX b ex W (ev C b (.not a))) := by
  refine PE.weak (pe_notT ha) fun τ H Q ⟨ρ, σ, S, so, eo, h⟩ => ?_
  rw [ev] at h
  refine ⟨ρ, σ, S, so, eo, At.mono (At.bd (rel := relE X.K) h) fun w H1 ⟨ρ1, v, S1, _, g1, so1, r1, h1⟩ => ?_⟩
  obtain ⟨k, e, h2⟩ := opt_bd h1
  exact ⟨k, tru_of so1 r1 e, At.ok (rel := relE X.K) so1 h2 (.bl _)⟩
theorem s_and {rest : List Expr} (ha : PE X x (tE X.K TX b ex W (ev C b a))) (hb : PE X (.BoolOp .And (y :: rest) pos) (tE X.K TX b ex W (ev C b c))) : PE X (.BoolOp .And (x :: y :: rest) pos) (tE X.K TX b ex W (ev C b (.and a c))) := by
  refine PE.weak (pe_and ha hb) fun τ H Q ⟨ρ, σ, S, so, eo, h⟩ => ?_
  rw [ev] at h
  refine ⟨ρ, σ, S, so, eo, At.mono (At.bd (rel := relE X.K) h) fun w H1 ⟨ρ1, v, S1, _, g1, so1, r1, h1⟩ => ?_⟩
  split at h1
  · exact ⟨true, RelP.of_bl r1, iteT ⟨ρ1, σ, S1, so1, eo.grow g1, h1⟩⟩
  · exact ⟨false, RelP.of_bl r1, iteF (At.ok so1 h1 (.bl _))⟩
  · exact h1.elim
theorem s_or {rest : List Expr} (ha : PE X x (tE X.K TX b ex W (ev C b a))) (hb : PE X (.BoolOp .Or (y :: rest) pos) (tE X.K TX b ex W (ev C b c))) : PE X (.BoolOp .Or (x :: y :: rest) pos) (tE X.K TX b ex W (ev C b (.or a c))) := by
  refine PE.weak (pe_or ha hb) fun τ H Q ⟨ρ, σ, S, so, eo, h⟩ => ?_
  rw [ev] at h
  refine ⟨ρ, σ, S, so, eo, At.mono (At.bd (rel := relE X.K) h) fun w H1 ⟨ρ1, v, S1, _, g1, so1, r1, h1⟩ => ?_⟩
  split at h1
  · exact ⟨true, RelP.of_bl r1, iteT (At.ok so1 h1 (.bl _))⟩
  · exact ⟨false, RelP.of_bl r1, iteF ⟨ρ1, σ, S1, so1, eo.grow g1, h1⟩⟩
  · exact h1.elim
theorem s_cmp {o : Cm} (cx : Ctx T TX C X W N sc cl ex) (ha : PE X x (tE X.K TX b ex W (ev C b a))) (hb : PE X y (tE X.K TX b ex W (ev C b c))) (hm : behindInMarks (cmOf o) y = false) : PE X (.Compare x [cmOf o] [y] pos) (tE X.K TX b ex W (ev C b (.cmp o a c))) := by
  refine PE.weak (pe_cmpR (cmOp_ok (b := b) o cx.unit) ha hb hm) fun τ H Q ⟨ρ, σ, S, so, eo, h⟩ => ?_
  rw [ev] at h
  refine ⟨ρ, σ, S, so, eo, At.mono (At.bd (rel := relE X.K) h) fun w H1 ⟨ρ1, v, S1, _, g1, so1, r1, h1⟩ => ?_⟩
  refine ⟨ρ1, σ, S1, so1, eo.grow g1, At.mono (At.bd (rel := relE X.K) h1) fun w2 H2 ⟨ρ2, u, S2, _, g2, so2, r2, h2⟩ => ?_⟩
  cases e : cmV S2 o v u with
  | none => rw [e] at h2; exact h2.elim
  | some k =>
    rw [e] at h2
    exact ⟨ρ2, S2, v, u, k, so2, RelP.mono g2.keep g2.pre r1, r2, e, At.ok (rel := relE X.K) so2 h2 (.bl k)⟩
theorem s_chain {o o' : Cm} (cx : Ctx T TX C X W N sc cl ex) (ha : PE X x (tE X.K TX b ex W (ev C b a))) (hb : PE X y (tE X.K TX b ex W (ev C b c))) (hd : PE X z (tE X.K TX b ex W (ev C b d))) (hm : lastMarks [cmOf o, cmOf o'] [y, z] = false) :
    PE X (.Compare x [cmOf o, cmOf o'] [y, z] pos) (tE X.K TX b ex W (ev C b (.chain o o' a c d))) := by
  refine PE.weak (pe_chain (cmOp_ok (b := b) o cx.unit) (cmOp_ok (b := b) o' cx.unit) ha hb hd hm) fun τ H Q ⟨ρ, σ, S, so, eo, h⟩ => ?_
  rw [ev] at h
  refine ⟨ρ, σ, S, so, eo, At.mono (At.bd (rel := relE X.K) h) fun w H1 ⟨ρ1, v, S1, _, g1, so1, r1, h1⟩ => ?_⟩
  refine ⟨ρ1, σ, S1, so1, eo.grow g1, At.mono (At.bd (rel := relE X.K) h1) fun w2 H2 ⟨ρ2, u, S2, _, g2, so2, r2, h2⟩ => ?_⟩
  have eo2 := (eo.grow g1).grow g2
  cases e : cmV S2 o v u with
  | none => rw [e] at h2; exact h2.elim
  | some k =>
    rw [e] at h2
    refine ⟨ρ2, S2, v, u, k, so2, RelP.mono g2.keep g2.pre r1, r2, e, k, rfl, ?_⟩
    cases k with
    | false => exact iteF (At.ok (rel := relE X.K) so2 h2 (.bl false))
    | true =>
      refine iteT ⟨ρ2, σ, S2, so2, eo2, At.mono (At.bd (rel := relE X.K) h2) fun w3 H3 ⟨ρ3, t, S3, _, g3, so3, r3, h3⟩ => ?_⟩
      cases e2 : cmV S3 o' u t with
      | none => rw [e2] at h3; exact h3.elim
      | some k2 =>
        rw [e2] at h3
        exact ⟨ρ3, S3, u, t, k2, so3, RelP.mono g3.keep g3.pre r2, r3, e2, At.ok (rel := relE X.K) so3 h3 (.bl k2)⟩
theorem s_ife (hc : PT X z (tTs X.K TX b ex W (evT C b d))) (ha : PE X x (tE X.K TX b ex W (ev C b a))) (hb : PE X y (tE X.K TX b ex W (ev C b c))) : PE X (.IfExp z x y pos) (tE X.K TX b ex W (ev C b (.ife d a c))) := by
  refine PE.weak (pe_ifExp hc ha hb) fun τ H Q ⟨ρ, σ, S, so, eo, h⟩ => ?_
  rw [ev] at h
  refine ⟨ρ, σ, S, so, eo, At.mono (At.bd (rel := relT) h) fun w H1 ⟨ρ1, v, S1, _, g1, so1, r1, h1⟩ => ?_⟩
  obtain rfl : v = w := r1
  cases v with
  | true => exact iteT ⟨ρ1, σ, S1, so1, eo.grow g1, h1⟩
  | false => exact iteF ⟨ρ1, σ, S1, so1, eo.grow g1, h1⟩
theorem s_ix (cx : Ctx T TX C X W N sc cl ex) (ha : PE X x (tE X.K TX b ex W (ev C b a))) (hb : PE X y (tE X.K TX b ex W (ev C b c))) (hs : isSlice y = false) : PE X (.Subscript x y pos) (tE X.K TX b ex W (ev C b (.ix a c))) := by
  refine PE.weak (pe_ix (ix_ok (b := b) cx.unit) ha hb (slice_of hs)) fun τ H Q ⟨ρ, σ, S, so, eo, h⟩ => ?_
  rw [ev] at h
  refine ⟨ρ, σ, S, so, eo, At.mono (At.bd (rel := relE X.K) h) fun w H1 ⟨ρ1, v, S1, _, g1, so1, r1, h1⟩ => ?_⟩
  refine ⟨ρ1, σ, S1, so1, eo.grow g1, At.mono (At.bd (rel := relE X.K) h1) fun w2 H2 ⟨ρ2, u, S2, _, g2, so2, r2, h2⟩ => ?_⟩
  obtain ⟨t, e, h3⟩ := At.opt h2
  exact ⟨ρ2, S2, v, u, t, so2, RelP.mono g2.keep g2.pre r1, r2, e, fun w r => At.ok so2 h3 r⟩
theorem s_slc {lo hi : Eo} {l u : Option Expr} {p2 : Pos} (ha : PE X x (tE X.K TX b ex W (ev C b a))) (hl : PO X l (tOs X.K TX b ex W (evo C b lo))) (hu : PO X u (tOs X.K TX b ex W (evo C b hi))) : PE X (.Subscript x (.Slice l u none p2) pos) (tE X.K TX b ex W (ev C b (.slc a lo hi))) := by
  refine PE.weak (PE.lock (pe_slice (sl_ok (T := TX) (b := b)) ha hl hu)) fun τ H Q ⟨ρ, σ, S, so, eo, h⟩ => ?_
  rw [ev] at h
  refine ⟨ρ, σ, S, so, eo, At.mono (At.bd (rel := relE X.K) h) fun w H1 ⟨ρ1, v, S1, _, g1, so1, r1, h1⟩ => ?_⟩
  refine ⟨ρ1, σ, S1, so1, eo.grow g1, At.mono (At.bd (rel := relO) h1) fun w2 H2 ⟨ρ2, u2, S2, _, g2, so2, r2, h2⟩ => ?_⟩
  refine ⟨ρ2, σ, S2, so2, (eo.grow g1).grow g2, At.mono (At.bd (rel := relO) h2) fun w3 H3 ⟨ρ3, u3, S3, _, g3, so3, r3, h3⟩ => ?_⟩
  obtain rfl : u2 = w2 := r2
  obtain rfl : u3 = w3 := r3
  obtain ⟨z, e, h4⟩ := At.opt h3
  exact ⟨ρ3, S3, v, z, so3, RelP.mono (g2.trans g3).keep (g2.trans g3).pre r1, e, ResV.of so3 fun H' w g s r => h4 ρ3 H' w g s r⟩
theorem n_slc {lo hi : Eo} {l u : Option Expr} {p2 : Pos} (ha : PE X x (tE X.K TX b ex W (ev C b a))) (hl : PO X l (tOs X.K TX b ex W (evo C b lo))) (hu : PO X u (tOs X.K TX b ex W (evo C b hi))) : PE X (.Subscript x (.Slice l u none p2) pos) (tE X.K TX b ex W (ev C b (.new (.slc a lo hi)))) := by
  refine PE.weak (pe_slice (sl_ok (T := TX) (b := b)) ha hl hu) fun τ H Q ⟨ρ, σ, S, so, eo, h⟩ => ?_
  rw [ev, ev] at h
  have h := bd_assoc h
  refine ⟨ρ, σ, S, so, eo, At.mono (At.bd (rel := relE X.K) h) fun w H1 ⟨ρ1, v, S1, _, g1, so1, r1, h1⟩ => ?_⟩
  have h1 := bd_assoc h1
  refine ⟨ρ1, σ, S1, so1, eo.grow g1, At.mono (At.bd (rel := relO) h1) fun w2 H2 ⟨ρ2, u2, S2, _, g2, so2, r2, h2⟩ => ?_⟩
  have h2 := bd_assoc h2
  refine ⟨ρ2, σ, S2, so2, (eo.grow g1).grow g2, At.mono (At.bd (rel := relO) h2) fun w3 H3 ⟨ρ3, u3, S3, _, g3, so3, r3, h3⟩ => ?_⟩
  obtain rfl : u2 = w2 := r2
  obtain rfl : u3 = w3 := r3
  obtain ⟨z, e, h4⟩ := opt_bd h3
  exact ⟨ρ3, S3, v, z, so3, RelP.mono (g2.trans g3).keep (g2.trans g3).pre r1, e, thaw_ok so3 h4⟩
theorem s_call (cx : Ctx T TX C X W N sc true ex) {f : Nat} {es : Es} {n : Str} {p : Pos} {g : Expr} {gs : List Expr} (hg : gloB sc n = true) (hf : T.fns[f]? = some (some n)) (h : PA X (g :: gs) (tAs X.K TX b ex W (evs C b es)))
    (he : starEach (g :: gs) X.env = (false, eval g X.env) :: starEach gs X.env) (hpl : (backTo pos (starEach gs X.env)).any (·.1) = false) : PE X (.Call (.Name n p) (g :: gs) [] pos) (tE X.K TX b ex W (ev C b (.call f es))) := by
  obtain ⟨g1, g2, _, _⟩ := cx.gl hg
  obtain ⟨fa, fd, ps, k, hm, hk, hb, F, hr⟩ := cx.fns rfl f n hf
  refine PE.weak (pe_callS F hr g1 hm hk hb (fun σ => passAt cx.takes σ) h g2 he hpl) fun τ H Q ⟨ρ, σ, S, so, eo, q⟩ => ?_
  rw [ev] at q
  refine ⟨ρ, σ, S, so, eo, At.mono (At.bd (rel := relA X.K) q) fun ws H1 ⟨ρ1, vs, S1, _, g1, so1, r1, h1⟩ => ?_⟩
  exact ⟨ρ1, S1, vs, ⟨so1.len, so1.cell, so1.inj, Nat.le_refl _⟩, r1, At.less so1.base so1.base h1⟩
theorem s_isi (cx : Ctx T TX C X W N sc cl ex) {t : Ty} {n m : Str} {p p2 : Pos} (hn : gloB sc n = true) (hm : gloB sc m = true) (en : n = "isinstance") (em : m = tyName t) (bn : T.bi.contains n = true) (bm : T.bi.contains m = true)
    (ha : PE X y (tE X.K TX b ex W (ev C b a))) (hs : ∀ es, starEach (y :: es) X.env = (false, eval y X.env) :: starEach es X.env) : PE X (.Call (.Name n p) [y, .Name m p2] [] pos) (tE X.K TX b ex W (ev C b (.isi a t))) := by
  obtain ⟨g1, g2, _, g4⟩ := cx.gl hn
  obtain ⟨k1, k2, _, k4⟩ := cx.gl hm
  subst en
  have mn : X.mg "isinstance" = none := (cx.free _ bn).2 (by decide +kernel)
  have mm : X.mg m = none := (cx.free _ bm).2 (by rw [em]; cases t <;> decide +kernel)
  have bt : bootBuiltins m = some (.type (tyName t)) := by rw [em]; cases t <;> decide +kernel
  have pm : PE X (.Name m p2) (tC (.ty (tyName t))) := pe_bltn k1 mm bt rfl k4 k2
  refine PE.weak (pe_callB call_isi g1 mn boot_isinstance (pa_cons ha (pa_cons pm pa_nil) (hs _)) g4 g2 (hs _) rfl) fun τ H Q ⟨ρ, σ, S, so, eo, h⟩ => ?_
  rw [ev] at h
  refine ⟨ρ, σ, S, so, eo, At.mono (At.bd (rel := relE X.K) h) fun w H1 ⟨ρ1, v, S1, _, g1, so1, r1, h1⟩ => ?_⟩
  cases e : isTy v t with
  | none => rw [e] at h1; exact h1.elim
  | some k =>
    rw [e] at h1
    obtain ⟨u, ty, kit⟩ := ty_ok r1 e
    exact ⟨w, .ty (tyName t), u, .type (tyName t), k, rfl, .ty _, ty, kit, At.ok (rel := relE X.K) so1 h1 (.bl k)⟩
theorem s_bi (cx : Ctx T TX C X W N sc true ex) {f : Bi} {es : Es} {n : Str} {p : Pos} {g : Expr} {gs : List Expr} (hg : gloB sc n = true) (en : biName f = n) (bn : T.bi.contains n = true) (h : PA X (g :: gs) (tAs X.K TX b ex W (evs C b es)))
    (he : starEach (g :: gs) X.env = (false, eval g X.env) :: starEach gs X.env) (hpl : (backTo pos (starEach gs X.env)).any (·.1) = false) : PE X (.Call (.Name n p) (g :: gs) [] pos) (tE X.K TX b ex W (ev C b (.bi f es))) := by
  obtain ⟨g1, g2, _, g4⟩ := cx.gl hg
  subst en
  have fin : ∀ {τ : L2.St} {H : Hp} {Q : VK}, tE X.K TX b ex W (ev C b (.bi f es)) τ H Q → tCB (rBi X.K b f) (tAs X.K TX b ex W (evs C b es)) τ H (lk Q) := fun {τ H Q} ⟨ρ, σ, S, so, eo, q⟩ => by
    rw [ev] at q
    refine ⟨ρ, σ, S, so, eo, At.mono (At.bd (rel := relA X.K) q) fun ws H1 ⟨ρ1, vs, S1, _, g1, so1, r1, h1⟩ => ?_⟩
    obtain ⟨z, e, h2⟩ := At.opt h1
    exact ⟨ρ1, S1, vs, z, so1, r1, e, ResV.of so1 fun H' w g s r => h2 ρ1 H' w g s r⟩
  have ok := bi_ok (b := b) (cx.calm rfl) f
  have fr := cx.free _ bn
  cases f with
  | gcd => exact PE.weak (PE.lock (pe_callBfun ok g1 (fr.1 rfl) h g2 he hpl)) fun τ H Q q => fin q
  | abs => exact PE.weak (PE.lock (pe_callB ok g1 (fr.2 (by decide +kernel)) (by decide +kernel) h g4 g2 he hpl)) fun τ H Q q => fin q
  | len => exact PE.weak (PE.lock (pe_callB ok g1 (fr.2 (by decide +kernel)) (by decide +kernel) h g4 g2 he hpl)) fun τ H Q q => fin q
  | max2 => exact PE.weak (PE.lock (pe_callB ok g1 (fr.2 (by decide +kernel)) (by decide +kernel) h g4 g2 he hpl)) fun τ H Q q => fin q
  | min2 => exact PE.weak (PE.lock (pe_callB ok g1 (fr.2 (by decide +kernel)) (by decide +kernel) h g4 g2 he hpl)) fun τ H Q q => fin q
  | maxL => exact PE.weak (PE.lock (pe_callB ok g1 (fr.2 (by decide +kernel)) (by decide +kernel) h g4 g2 he hpl)) fun τ H Q q => fin q
  | minL => exact PE.weak (PE.lock (pe_callB ok g1 (fr.2 (by decide +kernel)) (by decide +kernel) h g4 g2 he hpl)) fun τ H Q q => fin q
  | sum => exact PE.weak (PE.lock (pe_callB ok g1 (fr.2 (by decide +kernel)) (by decide +kernel) h g4 g2 he hpl)) fun τ H Q q => fin q
  | sorted => exact PE.weak (PE.lock (pe_callB ok g1 (fr.2 (by decide +kernel)) (by decide +kernel) h g4 g2 he hpl)) fun τ H Q q => fin q
  | all => exact PE.weak (PE.lock (pe_callB ok g1 (fr.2 (by decide +kernel)) (by decide +kernel) h g4 g2 he hpl)) fun τ H Q q => fin q
  | any => exact PE.weak (PE.lock (pe_callB ok g1 (fr.2 (by decide +kernel)) (by decide +kernel) h g4 g2 he hpl)) fun τ H Q q => fin q
  | int => exact PE.weak (PE.lock (pe_callTy ok g1 (fr.2 (by decide +kernel)) (by decide +kernel) h g4 g2 he hpl)) fun τ H Q q => fin q
  | list => exact PE.weak (PE.lock (pe_callTy ok g1 (fr.2 (by decide +kernel)) (by decide +kernel) h g4 g2 he hpl)) fun τ H Q q => fin q
  | tuple => exact PE.weak (PE.lock (pe_callTy ok g1 (fr.2 (by decide +kernel)) (by decide +kernel) h g4 g2 he hpl)) fun τ H Q q => fin q
  | str => exact PE.weak (PE.lock (pe_callTy ok g1 (fr.2 (by decide +kernel)) (by decide +kernel) h g4 g2 he hpl)) fun τ H Q q => fin q
  | bool => exact PE.weak (PE.lock (pe_callTy ok g1 (fr.2 (by decide +kernel)) (by decide +kernel) h g4 g2 he hpl)) fun τ H Q q => fin q
theorem n_bi (cx : Ctx T TX C X W N sc true ex) {f : Bi} {es : Es} {n : Str} {p : Pos} {g : Expr} {gs : List Expr} (hf : f = .list ∨ f = .sorted) (hg : gloB sc n = true) (en : biName f = n) (bn : T.bi.contains n = true) (h : PA X (g :: gs) (tAs X.K TX b ex W (evs C b es)))
    (he : starEach (g :: gs) X.env = (false, eval g X.env) :: starEach gs X.env) (hpl : (backTo pos (starEach gs X.env)).any (·.1) = false) : PE X (.Call (.Name n p) (g :: gs) [] pos) (tE X.K TX b ex W (ev C b (.new (.bi f es)))) := by
  obtain ⟨g1, g2, _, g4⟩ := cx.gl hg
  subst en
  have fin : ∀ {τ : L2.St} {H : Hp} {Q : VK}, tE X.K TX b ex W (ev C b (.new (.bi f es))) τ H Q → tCB (rBi X.K b f) (tAs X.K TX b ex W (evs C b es)) τ H Q := fun {τ H Q} ⟨ρ, σ, S, so, eo, q⟩ => by
    rw [ev, ev] at q
    have q := bd_assoc q
    refine ⟨ρ, σ, S, so, eo, At.mono (At.bd (rel := relA X.K) q) fun ws H1 ⟨ρ1, vs, S1, _, g1, so1, r1, h1⟩ => ?_⟩
    obtain ⟨z, e, h2⟩ := opt_bd h1
    exact ⟨ρ1, S1, vs, z, so1, r1, e, thaw_ok so1 h2⟩
  have ok := bi_ok (b := b) (cx.calm rfl) f
  have fr := cx.free _ bn
  rcases hf with rfl | rfl
  · exact PE.weak (pe_callTy ok g1 (fr.2 (by decide +kernel)) (by decide +kernel) h g4 g2 he hpl) fun τ H Q q => fin q
  · exact PE.weak (pe_callB ok g1 (fr.2 (by decide +kernel)) (by decide +kernel) h g4 g2 he hpl) fun τ H Q q => fin q
end
end MP
end
section
set_option Elab.async false
set_option linter.all false
set_option maxRecDepth 100000
set_option maxHeartbeats 1000000
/-! MPSoundG: attributes, methods, new instances; dicts; lists that are locked. -/
namespace MP
open PySem PySem.Spec PyProof.Rows L2
/-! ### instances that may be locked -/
section
variable {X : Cx} {pins : List (Addr × Obj)} {σ : L2.St} {H : Hp} {s : Shared} {a C dx : Addr} {fs : List (Str × V)} {f : Str} {v : V} {A : Around} {E : Value → Shared → Prop}
theorem rd_get (I : L2.Inv X pins σ H s) (e : Rd H a (.ins C dx fs)) : ∃ mA, ObjM s.heap a dx C mA ∧ ∀ f, RelO (fs.lookup f) (mA f) := by
  obtain ⟨d, z, ne, ob, mA, n, r, q⟩ := (show ObjOk X.prog X.w H s.heap a (.ins C dx fs) from e.ok I.hok)
  exact ⟨mA, ⟨ob, n, ne⟩, r⟩
theorem rd_attr {bb : Bool} {Q : Value → Shared → Prop} (I : L2.Inv X pins σ H s) (e : Rd H a (.ins C dx fs)) (c : Cls X.K C) (n : NoAttr X.K C f) (l : fs.lookup f = some v)
    (h : ∀ u s', L2.Inv X pins σ H s' → RelV v u → Q u s') : wpAny (model X.prog X.w) A (getAttr (.ref a) f bb) Q E s := by
  obtain ⟨mA, O, r⟩ := rd_get I e
  obtain ⟨u, hu, ru⟩ := RelO.some_of (v := v) (o := mA f) (by rw [← l]; exact r f)
  exact get_map I.kIn O (c.get f) c.hd n hu (handed_of ru) (h u _ (I.tok _) ru)
theorem rd_meth {m : Str} {g : Addr} {pl : Sem Bool} {Q : Value × List Value → Shared → Prop} (I : L2.Inv X pins σ H s) (e : Rd H a (.ins C dx fs)) (c : Cls X.K C) (k : Meth X.K C m g) (l : fs.lookup m = none)
    (h : Q (.ref g, [.ref a]) s) : wpAny (model X.prog X.w) A (getMethod (.ref a) m pl) Q E s := by
  obtain ⟨mA, O, r⟩ := rd_get I e
  have hn : mA m = none := RelO.none_of (by rw [← l]; exact r m)
  exact get_meth I.kIn O (c.get m) k.at_ k.fn hn h
end
section
variable [RT] {T : Tab} {TX : Exc} {C : Nat → List PV → Sto → R PV} {X : Cx} {W : WX} {N : List Str} {sc : Scope} {cl : Bool} {ex : Option Held} {b : Nat}
variable {x y z : Expr} {a c d : E} {pos : Pos}
theorem lk_zip {K : PySem.W.Frag} {ρ : List Addr} {H : Hp} : ∀ {ns : List Str} {fs : List PV} {ws : List V} {j : Nat} {f : Str} {v : PV}, ns.Nodup → RelPs K ρ H fs ws → ns[j]? = some f → fs[j]? = some v → ∃ w, (ns.zip ws).lookup f = some w ∧ RelP K ρ H v w
  | [], _, _, _, _, _, _, _, e, _ => by simp at e
  | _ :: _, [], _, _, _, _, _, .nil, _, e => by simp at e
  | g :: ns, u :: fs, w :: ws, 0, f, v, _, .cons r _, e1, e2 => by
    have e1 : g = f := by simpa using e1
    have e2 : u = v := by simpa using e2
    subst e1
    subst e2
    exact ⟨w, by simp [List.lookup], r⟩
  | g :: ns, u :: fs, w :: ws, j + 1, f, v, nd, .cons _ t, e1, e2 => by
    have nd' := List.nodup_cons.mp nd
    have e1 : ns[j]? = some f := by simpa using e1
    obtain ⟨w', h1, h2⟩ := lk_zip nd'.2 t e1 (by simpa using e2)
    refine ⟨w', ?_, h2⟩
    have ne : (f == g) = false := by
      have : f ≠ g := fun z => nd'.1 (by rw [← z]; exact List.mem_of_getElem? e1)
      simpa using this
    rw [List.zip_cons_cons, List.lookup_cons, ne]
    exact h1
theorem lk_none : ∀ {ns : List Str} {ws : List V} {m : Str}, m ∉ ns → (ns.zip ws).lookup m = none
  | [], _, _, _ => rfl
  | _ :: _, [], _, _ => rfl
  | g :: ns, w :: ws, m, h => by
    have ne : (m == g) = false := by
      have : m ≠ g := fun z => h (by rw [z]; exact List.mem_cons_self)
      simpa using this
    rw [List.zip_cons_cons, List.lookup_cons, ne]
    exact lk_none fun z => h (List.mem_cons_of_mem _ z)
/-- an instance, locked or in the store -/
theorem inst_of {ρ : List Addr} {S : Sto} {H : Hp} (so : StOk X.K b ρ S H) {v : PV} {w : V} {c : Nat} (r : RelP X.K ρ H v w) (h : clsV S v = some c) : ∃ p dx fs vs, w = .ref p ∧ Rd H p (.ins (RT.rc c) dx ((RT.rf c).zip vs)) ∧ RelPs X.K ρ H fs vs ∧
    ∀ ps, attV S v ps = (ps.lookup c).bind fun q => fs[q]? := by
  unfold clsV at h
  split at h
  · cases h
    obtain ⟨p, dx, o, vs, rfl, h1, h2⟩ := r.of_obj
    exact ⟨p, dx, _, vs, rfl, .inr ⟨o, h1⟩, h2, fun ps => rfl⟩
  · rename_i k
    obtain ⟨p, rfl, e⟩ := r.of_ref
    split at h
    · rename_i c' fs q
      cases h
      obtain ⟨dx, vs, h2, _, h1⟩ := so.cell k _ p q e
      exact ⟨p, dx, fs, vs, rfl, .inl h1, h2, fun ps => by simp only [attV, q]⟩
    · cases h
  · cases h
theorem base_of {f : Str} {env : PySem.Env} {w : Sem Value} (h : notCall0 x = true) : attributeBase x f env w = w := by
  unfold attributeBase
  split
  · simp [notCall0] at h
  · rfl
theorem att_cls {S : Sto} {v : PV} {ps : List (Nat × Nat)} {u : PV} (h : attV S v ps = some u) : ∃ c, clsV S v = some c := by
  unfold attV at h
  unfold clsV
  split at h
  · exact ⟨_, rfl⟩
  · rename_i k
    split at h
    · rename_i c fs q
      exact ⟨c, by simp only [q]⟩
    · cases h
  · cases h
theorem lookup_mem : ∀ {ps : List (Nat × Nat)} {c p : Nat}, ps.lookup c = some p → (c, p) ∈ ps
  | [], _, _, h => by cases h
  | (c', p') :: ps, c, p, h => by
    rw [List.lookup_cons] at h
    by_cases e : c == c'
    · rw [e] at h
      cases h
      have e := eq_of_beq e
      subst e
      exact List.mem_cons_self
    · rw [Bool.not_eq_true] at e
      rw [e] at h
      exact List.mem_cons_of_mem _ (lookup_mem h)
theorem att_ok (cx : Ctx T TX C X W N sc cl ex) {ρ : List Addr} {S : Sto} {H : Hp} (so : StOk X.K b ρ S H) {v : PV} {w : V} {ps : List (Nat × Nat)} {f : Str} {u : PV} (r : RelP X.K ρ H v w) (h : attV S v ps = some u) (hps : (ps.all fun q => decide ((T.rcs[q.1]?.bind fun p => p.2[q.2]?) = some f)) = true) :
    ∃ p c dx fs' w', w = .ref p ∧ Rd H p (.ins (RT.rc c) dx fs') ∧ Cls X.K (RT.rc c) ∧ NoAttr X.K (RT.rc c) f ∧ fs'.lookup f = some w' ∧ RelP X.K ρ H u w' := by
  obtain ⟨c, hc⟩ := att_cls h
  obtain ⟨p, dx, fs, vs, rfl, h1, h2, h3⟩ := inst_of so r hc
  rw [h3] at h
  obtain ⟨q, e1, e2⟩ := Option.bind_eq_some_iff.mp h
  have z := of_decide_eq_true (List.all_eq_true.mp hps _ (lookup_mem e1))
  obtain ⟨pp, g1, g2⟩ := Option.bind_eq_some_iff.mp z
  have rk := cx.rcs c pp g1
  have g2' : (RT.rf c)[q]? = some f := by rw [rk.fs]; exact g2
  obtain ⟨w', l1, l2⟩ := lk_zip (by rw [rk.fs]; exact rk.nd) h2 g2' e2
  exact ⟨p, c, dx, _, w', rfl, h1, rk.cl, rk.no f (List.mem_of_getElem? g2), l1, l2⟩
theorem s_att (cx : Ctx T TX C X W N sc cl ex) {ps : List (Nat × Nat)} {f : Str} (ha : PE X x (tE X.K TX b ex W (ev C b a))) (hb : notCall0 x = true) (hps : (ps.all fun q => decide ((T.rcs[q.1]?.bind fun p => p.2[q.2]?) = some f)) = true) : PE X (.Attribute x f pos) (tE X.K TX b ex W (ev C b (.att a ps))) := by
  refine ⟨fun pins s τ H Q I ht => ?_⟩
  obtain ⟨ρ, σ, S, so, eo, h⟩ := ht
  rw [ev] at h
  refine attr_of (base_of hb) (thn (ha.run pins s τ H _ I ⟨ρ, σ, S, so, eo, At.bd (rel := relE X.K) h⟩) fun u s1 ⟨w, H1, I1, rw', ρ1, v, S1, _, g1, so1, r1, h1⟩ => ?_)
  obtain ⟨t, e, h2⟩ := At.opt h1
  obtain ⟨p, c, dx, fs', w', rfl, e1, e2, e3, e4, e5⟩ := att_ok cx so1 r1 e hps
  obtain rfl : u = Value.ref p := rw'
  exact rd_attr I1 e1 e2 e3 e4 fun u' s2 I2 ru => ⟨w', H1, I2, ru, At.ok (rel := relE X.K) so1 h2 e5⟩
/-- a list of the store is locked -/
theorem StOk.freeze {K : PySem.W.Frag} {ρ : List Addr} {S : Sto} {H : Hp} {k : Nat} {p : Addr} {xs : List PV} {vs : List V} (so : StOk K b ρ S H) (hk : S.cells[k]? = some (.lst xs)) (e : ρ[k]? = some p) (h : H p = some (.lst vs)) (rs : RelPs K ρ H xs vs) (o : Obj) :
    Grow b ρ ρ S ⟨S.cells.set k (.ro xs), S.dirty⟩ H (upd H p (.frz o (.lst vs))) ∧ StOk K b ρ ⟨S.cells.set k (.ro xs), S.dirty⟩ (upd H p (.frz o (.lst vs))) := by
  have hkl := (List.getElem?_eq_some_iff.mp hk).1
  have kp : Keep H (upd H p (.frz o (.lst vs))) := .wlst h
  refine ⟨⟨kp, List.prefix_refl _, by simp, fun q u z n => ⟨by rw [upd_ne fun z' => n (by rw [z']; exact List.mem_of_getElem? e)]; exact z, n⟩, fun z => ⟨z, fun n hn u j c hj q => ?_⟩⟩, ?_⟩
  · by_cases hjk : k = j
    · subst hjk
      rw [List.getElem?_set_self hkl] at q
      cases q
      exact u k (.lst xs) hj hk
    · rw [List.getElem?_set_ne hjk] at q
      exact u j c hj q
  · let z := so.writeC (p := true) (d := .ro xs) hk rfl e kp ⟨vs, rs.mono kp (List.prefix_refl _), o, upd_same⟩
    exact ⟨z.len, z.cell, z.inj, z.base⟩
theorem s_frz (ha : PE X x (tE X.K TX b ex W (ev C b a))) : PE X x (tE X.K TX b ex W (ev C b (.frz a))) := by
  refine PE.weak (PE.lock ha) fun τ H Q ⟨ρ, σ, S, so, eo, h⟩ => ?_
  rw [ev] at h
  refine ⟨ρ, σ, S, so, eo, At.mono (At.bd (rel := relE X.K) h) fun w H1 ⟨ρ1, v, S1, _, g1, so1, r1, h1⟩ => ?_⟩
  unfold MP.freeze at h1
  split at h1
  · rename_i k
    obtain ⟨p, rfl, ep⟩ := RelP.of_ref r1
    split at h1
    · rename_i xs hk
      obtain ⟨vs, rs, hp⟩ := so1.lst hk ep
      refine .inr ⟨p, .lst vs, hp, trivial, fun o => ?_⟩
      obtain ⟨g, s'⟩ := so1.freeze hk ep hp rs o
      exact h1 ρ1 _ _ g s' (.lst (.inl ⟨o, upd_same⟩) (rs.mono (.wlst hp) (List.prefix_refl _)))
    · exact h1.elim
  · exact h1.elim
end
end MP
end
section
set_option Elab.async false
set_option linter.all false
set_option maxRecDepth 100000
set_option maxHeartbeats 1000000
/-! MPSound8: tests, arguments, walks, the held exception. -/
namespace MP
open PySem PySem.Spec PyProof.Rows L2
section
variable [RT] {T : Tab} {TX : Exc} {C : Nat → List PV → Sto → R PV} {X : Cx} {W : WX} {N : List Str} {sc : Scope} {cl : Bool} {ex : Option Held} {b : Nat}
variable {x y z : Expr} {a c d : E} {pos : Pos}
/-! ### tests -/
theorem t_not (ha : PT X x (tTs X.K TX b ex W (evT C b a))) : PT X (.UnaryOp .Not x pos) (tTs X.K TX b ex W (evT C b (.not a))) := by
  refine PT.weak (pt_not ha) fun τ H Q ⟨ρ, σ, S, so, eo, h⟩ => ?_
  unfold evT at h
  refine ⟨ρ, σ, S, so, eo, At.mono (At.bd (rel := relT) h) fun w H1 ⟨ρ1, v, S1, _, g1, so1, r1, h1⟩ => ?_⟩
  obtain rfl : v = w := r1
  exact At.ok (rel := relT) so1 h1 rfl
theorem t_and {rest : List Expr} (ha : PT X x (tTs X.K TX b ex W (evT C b a))) (hb : PW X (.BoolOp .And (y :: rest) pos) (tTs X.K TX b ex W (evT C b c))) : PW X (.BoolOp .And (x :: y :: rest) pos) (tTs X.K TX b ex W (evT C b (.and a c))) := by
  refine PW.weak (pw_and ha hb) fun τ H Q ⟨ρ, σ, S, so, eo, h⟩ => ?_
  unfold evT at h
  refine ⟨ρ, σ, S, so, eo, At.mono (At.bd (rel := relT) h) fun w H1 ⟨ρ1, v, S1, _, g1, so1, r1, h1⟩ => ?_⟩
  obtain rfl : v = w := r1
  cases v with
  | true => exact iteT ⟨ρ1, σ, S1, so1, eo.grow g1, h1⟩
  | false => exact iteF (At.ok (rel := relT) so1 h1 rfl)
theorem t_or {rest : List Expr} (ha : PT X x (tTs X.K TX b ex W (evT C b a))) (hb : PW X (.BoolOp .Or (y :: rest) pos) (tTs X.K TX b ex W (evT C b c))) : PW X (.BoolOp .Or (x :: y :: rest) pos) (tTs X.K TX b ex W (evT C b (.or a c))) := by
  refine PW.weak (pw_or ha hb) fun τ H Q ⟨ρ, σ, S, so, eo, h⟩ => ?_
  unfold evT at h
  refine ⟨ρ, σ, S, so, eo, At.mono (At.bd (rel := relT) h) fun w H1 ⟨ρ1, v, S1, _, g1, so1, r1, h1⟩ => ?_⟩
  obtain rfl : v = w := r1
  cases v with
  | true => exact iteT (At.ok (rel := relT) so1 h1 rfl)
  | false => exact iteF ⟨ρ1, σ, S1, so1, eo.grow g1, h1⟩
theorem t_cmp {o : Cm} (cx : Ctx T TX C X W N sc cl ex) (ha : PE X x (tE X.K TX b ex W (ev C b a))) (hb : PE X y (tE X.K TX b ex W (ev C b c))) (hm : behindInMarks (cmOf o) y = false) : PT X (.Compare x [cmOf o] [y] pos) (tTs X.K TX b ex W (evT C b (.cmp o a c))) := by
  refine PT.weak (pt_cmpR (cmOp_ok (b := b) o cx.unit) ha hb hm) fun τ H Q ⟨ρ, σ, S, so, eo, h⟩ => ?_
  unfold evT at h
  refine ⟨ρ, σ, S, so, eo, At.mono (At.bd (rel := relE X.K) h) fun w H1 ⟨ρ1, v, S1, _, g1, so1, r1, h1⟩ => ?_⟩
  refine ⟨ρ1, σ, S1, so1, eo.grow g1, At.mono (At.bd (rel := relE X.K) h1) fun w2 H2 ⟨ρ2, u, S2, _, g2, so2, r2, h2⟩ => ?_⟩
  obtain ⟨k, e, h3⟩ := At.opt h2
  exact ⟨ρ2, S2, v, u, k, so2, RelP.mono g2.keep g2.pre r1, r2, e, k, rfl, At.ok (rel := relT) so2 h3 rfl⟩
theorem t_chain {o o' : Cm} (cx : Ctx T TX C X W N sc cl ex) (ha : PE X x (tE X.K TX b ex W (ev C b a))) (hb : PE X y (tE X.K TX b ex W (ev C b c))) (hd : PE X z (tE X.K TX b ex W (ev C b d))) (hm : lastMarks [cmOf o, cmOf o'] [y, z] = false) :
    PT X (.Compare x [cmOf o, cmOf o'] [y, z] pos) (tTs X.K TX b ex W (evT C b (.chain o o' a c d))) := by
  refine PT.weak (pt_chain (cmOp_ok (b := b) o cx.unit) (cmOp_ok (b := b) o' cx.unit) ha hb hd hm) fun τ H Q ⟨ρ, σ, S, so, eo, h⟩ => ?_
  unfold evT at h
  refine ⟨ρ, σ, S, so, eo, At.mono (At.bd (rel := relE X.K) h) fun w H1 ⟨ρ1, v, S1, _, g1, so1, r1, h1⟩ => ?_⟩
  refine ⟨ρ1, σ, S1, so1, eo.grow g1, At.mono (At.bd (rel := relE X.K) h1) fun w2 H2 ⟨ρ2, u, S2, _, g2, so2, r2, h2⟩ => ?_⟩
  have eo2 := (eo.grow g1).grow g2
  cases e : cmV S2 o v u with
  | none => rw [e] at h2; exact h2.elim
  | some k =>
    rw [e] at h2
    refine ⟨ρ2, S2, v, u, k, so2, RelP.mono g2.keep g2.pre r1, r2, e, k, rfl, ?_⟩
    cases k with
    | false => exact iteF ⟨false, rfl, At.ok (rel := relT) so2 h2 rfl⟩
    | true =>
      refine iteT ⟨ρ2, σ, S2, so2, eo2, At.mono (At.bd (rel := relE X.K) h2) fun w3 H3 ⟨ρ3, t, S3, _, g3, so3, r3, h3⟩ => ?_⟩
      obtain ⟨k2, e2, h4⟩ := At.opt h3
      exact ⟨ρ3, S3, u, t, k2, so3, RelP.mono g3.keep g3.pre r2, r3, e2, k2, rfl, At.ok (rel := relT) so3 h4 rfl⟩
/-- an expression of any kind as a test -/
theorem t_tru (ha : PE X x (tE X.K TX b ex W (ev C b a))) (he : ∀ σ S, evT C b a σ S = (ev C b a σ S).bd fun v S1 => MP.opt (truV S1 v) S1)
    (hp : ∀ whole, isTrue x X.env whole = (do let v ← whole; standAt x.pos; holding [v] (truthy v))) : PT X x (tTs X.K TX b ex W (evT C b a)) := by
  refine PT.weak (pt_truth ha hp) fun τ H Q ⟨ρ, σ, S, so, eo, h⟩ => ?_
  rw [he] at h
  refine ⟨ρ, σ, S, so, eo, At.mono (At.bd (rel := relE X.K) h) fun w H1 ⟨ρ1, v, S1, _, g1, so1, r1, h1⟩ => ?_⟩
  obtain ⟨k, e, h2⟩ := At.opt h1
  exact ⟨k, tru_of so1 r1 e, At.ok (rel := relT) so1 h2 rfl⟩
/-- one whose value is a bool -/
theorem t_val (ha : PE X x (tE X.K TX b ex W (ev C b a))) (he : ∀ σ S, ev C b a σ S = (evT C b a σ S).bd fun c S1 => .ok (.bl c) S1)
    (hp : ∀ whole, isTrue x X.env whole = (do let v ← whole; standAt x.pos; holding [v] (truthy v))) : PT X x (tTs X.K TX b ex W (evT C b a)) := by
  refine PT.weak (pt_val ha hp) fun τ H Q ⟨ρ, σ, S, so, eo, h⟩ => ?_
  refine ⟨ρ, σ, S, so, eo, ?_⟩
  rw [he]
  cases e : evT C b a σ S with
  | ok k S1 =>
    rw [e] at h
    exact fun ρ' H' w g s r => ⟨k, RelP.of_bl r, h ρ' H' k g s rfl⟩
  | exc c as S1 => rw [e] at h; exact h
  | bad => rw [e] at h; exact h
/-! ### arguments, slices' parts -/
theorem a_nil : PA X [] (tAs X.K TX b ex W (evs C b .nil)) := PA.weak pa_nil fun τ H Q ⟨ρ, σ, S, so, eo, h⟩ => At.ok (rel := relA X.K) so (by unfold evs at h; exact h) .nil
theorem a_cons {es : Es} {fs : List Expr} (ha : PE X x (tE X.K TX b ex W (ev C b a))) (hr : PA X fs (tAs X.K TX b ex W (evs C b es))) (hs : starEach (x :: fs) X.env = (false, eval x X.env) :: starEach fs X.env) : PA X (x :: fs) (tAs X.K TX b ex W (evs C b (.cons a es))) := by
  refine PA.weak (pa_cons ha hr hs) fun τ H Q ⟨ρ, σ, S, so, eo, h⟩ => ?_
  unfold evs at h
  refine ⟨ρ, σ, S, so, eo, At.mono (At.bd (rel := relE X.K) h) fun w H1 ⟨ρ1, v, S1, _, g1, so1, r1, h1⟩ => ?_⟩
  refine ⟨ρ1, σ, S1, so1, eo.grow g1, At.mono (At.bd (rel := relA X.K) h1) fun ws H2 ⟨ρ2, vs, S2, _, g2, so2, r2, h2⟩ => ?_⟩
  exact At.ok (rel := relA X.K) so2 h2 (.cons (RelP.mono g2.keep g2.pre r1) r2)
theorem o_none : PO X none (tOs X.K TX b ex W (evo C b .none)) := PO.weak po_none fun τ H Q ⟨ρ, σ, S, so, eo, h⟩ => At.ok (rel := relO) so (by unfold evo at h; exact h) rfl
theorem o_some (ha : PE X x (tE X.K TX b ex W (ev C b a))) : PO X (some x) (tOs X.K TX b ex W (evo C b (.some a))) := by
  refine PO.weak (po_some ha) fun τ H Q ⟨ρ, σ, S, so, eo, h⟩ => ?_
  unfold evo at h
  refine ⟨ρ, σ, S, so, eo, At.mono (At.bd (rel := relE X.K) h) fun w H1 ⟨ρ1, v, S1, _, g1, so1, r1, h1⟩ => ?_⟩
  split at h1
  · exact ⟨_, RelP.of_int r1, At.ok (rel := relO) so1 h1 rfl⟩
  · exact h1.elim
/-! ### targets of names -/
mutual
theorem g_ok {X : Cx} (hc : X.calm = true) (hN : X.N = N) (hd : N.Nodup) (hsc : X.env.scope = sc) {lo : Bool} (hf : lo = false → ∀ x, sc.names.lookup x = some .cell → X.fn x = true) : ∀ {t : Tg} {tg : Expr}, tgB N lo sc t tg = true →
    PG X tg (fun v τ H Q => ∃ ρ σ σ' u, EnvOk X.K TX none ρ H σ τ ∧ RelP X.K ρ H u v ∧ bindT t u σ = some σ' ∧ ∀ τ', EnvOk X.K TX none ρ H σ' τ' → Q τ' H)
  | .name i, tg, h => by
    unfold tgB at h
    split at h
    · rename_i n p
      have h' := Bool.and_eq_true_iff.mp h
      have hl : Loc X.env.scope n ∧ (X.fn n = true ∨ X.env.scope.names.lookup n = some .local) := by
        rw [hsc]
        have h2 := h'.2
        cases lo with
        | true => exact ⟨.inl (kindB_ok h2), .inr (kindB_ok h2)⟩
        | false =>
          have h3 := locB_ok (sc := sc) (x := n) h2
          exact ⟨h3, h3.elim .inr fun e => .inl (hf rfl n e)⟩
      have g := pg_name (X := X) (i := i) (x := n) (pos := p) (by rw [hN]; exact hd) (by rw [hN]; exact atB_ok h'.1) hl.1 hl.2
      refine ⟨fun pins s τ H v u Q I r hq => g.run pins s τ H v u Q I r ?_⟩
      obtain ⟨ρ, σ, σ', w, eo, rp, e, k⟩ := hq
      unfold bindT at e
      cases e
      exact k _ (eo.set i rp)
    · cases h
  | .tup ts, tg, h => by
    unfold tgB at h
    split at h
    · rename_i es k p
      have ih := gs_ok hc hN hd hsc hf h
      obtain ⟨n, hn, hst⟩ : ∃ n, (assignEach es X.env).length = n ∧ (assignEach es X.env).findIdx? (·.1) = none := ⟨_, rfl, ih.2.1⟩
      refine ⟨fun pins s τ H v u Q I r hq => ?_⟩
      obtain ⟨ρ, σ, σ', w, eo, rp, e, kk⟩ := hq
      unfold bindT at e
      cases w with
      | tup xs =>
        obtain ⟨a, vs, rfl, hq, rs⟩ := rp.of_tup
        have e' : bindTs ts xs σ = some σ' := e
        refine (pg_tup hc ih.1 hn hst).run pins s τ H _ u Q I r ⟨a, vs, rfl, hq, ?_, ρ, σ, σ', xs, eo, rs, e', kk⟩
        rw [← rs.length, ← hn]
        exact ih.2.2 σ σ' xs e'
      | lst xs =>
        obtain ⟨a, vs, rfl, hq, rs⟩ := rp.of_lst
        have e' : bindTs ts xs σ = some σ' := e
        refine (pg_unl hc ih.1 hn hst).run pins s τ H _ u Q I r ⟨a, vs, rfl, hq.sq, ?_, ρ, σ, σ', xs, eo, rs, e', kk⟩
        rw [← rs.length, ← hn]
        exact ih.2.2 σ σ' xs e'
      | _ => cases e
    · cases h
theorem gs_ok {X : Cx} (hc : X.calm = true) (hN : X.N = N) (hd : N.Nodup) (hsc : X.env.scope = sc) {lo : Bool} (hf : lo = false → ∀ x, sc.names.lookup x = some .cell → X.fn x = true) : ∀ {ts : Tgs} {es : List Expr}, tgsB N lo sc ts es = true →
    PGs X es (fun vs τ H Q => ∃ ρ σ σ' us, EnvOk X.K TX none ρ H σ τ ∧ RelPs X.K ρ H us vs ∧ bindTs ts us σ = some σ' ∧ ∀ τ', EnvOk X.K TX none ρ H σ' τ' → Q τ' H) ∧
      (assignEach es X.env).findIdx? (·.1) = none ∧ ∀ σ σ' us, bindTs ts us σ = some σ' → us.length = (assignEach es X.env).length
  | .nil, [], _ => by
    refine ⟨⟨fun pins s τ H vs us Q I r hq => pgs_nil.run pins s τ H vs us Q I r ?_⟩, rfl, fun σ σ' us e => ?_⟩
    · obtain ⟨ρ, σ, σ', us', eo, rs, e, k⟩ := hq
      cases us' with
      | nil =>
        cases rs
        unfold bindTs at e
        cases e
        exact ⟨rfl, k _ eo⟩
      | cons _ _ => simp [bindTs] at e
    · cases us with
      | nil => rfl
      | cons _ _ => simp [bindTs] at e
  | .nil, _ :: _, h => by simp [tgsB] at h
  | .cons _ _, [], h => by simp [tgsB] at h
  | .cons t ts, e :: es, h => by
    have h' := Bool.and_eq_true_iff.mp (by simpa [tgsB] using h)
    have g1 := g_ok hc hN hd hsc hf h'.1
    obtain ⟨g2, g3, g4⟩ := gs_ok hc hN hd hsc hf h'.2
    have ha : assignEach (e :: es) X.env = (false, assign e X.env) :: assignEach es X.env := by
      have h1 := h'.1
      cases t with
      | name i => cases e <;> first | rfl | simp [tgB] at h1
      | tup ts => cases e <;> first | rfl | simp [tgB] at h1
    refine ⟨⟨fun pins s τ H vs us Q I r hq => (pgs_cons g1 g2 (by rw [ha]; rfl)).run pins s τ H vs us Q I r ?_⟩, ?_, fun σ σ' us e => ?_⟩
    · obtain ⟨ρ, σ, σ', us', eo, rs, e, k⟩ := hq
      cases rs with
      | nil => simp [bindTs] at e
      | cons r1 r2 =>
        unfold bindTs at e
        split at e
        · rename_i σ1 e1
          exact ⟨_, _, rfl, ρ, σ, σ1, _, eo, r1, e1, fun τ' eo' => ⟨ρ, σ1, σ', _, eo', r2, e, k⟩⟩
        · cases e
    · rw [ha, List.findIdx?_cons]
      simp [g3]
    · cases us with
      | nil => simp [bindTs] at e
      | cons u us =>
        unfold bindTs at e
        split at e
        · rename_i σ1 e1
          rw [ha, List.length_cons, List.length_cons, g4 σ1 σ' us e]
        · cases e
end
end
end MP
end
section
set_option Elab.async false
set_option linter.all false
set_option maxRecDepth 100000
set_option maxHeartbeats 1000000
/-! MPSound9: what a for walks, comprehensions, the held exception. -/
namespace MP
open PySem PySem.Spec PyProof.Rows L2
section
variable {X : Cx} {tg l : Expr} {tl : TE}
/-- a list or a tuple, walked -/
def iSeq (K : PySem.W.Frag) (tl : TE) : TI := fun σ H R => tl σ H fun x H1 => ∃ a, x = .ref a ∧ (((∃ vs, SqL K H1 a vs) ∧ R (Itl K a) H1) ∨ ((∃ vs, SqT K H1 a vs) ∧ R (Itt K a) H1))
theorem pi_seq (hl : PE X l tl) : PI X tg l (iSeq X.K tl) := by
  refine ⟨fun pins s σ H R I h => ?_⟩
  refine thn (hl.run pins s σ H _ I h) fun v s1 ⟨x, H1, I1, r1, a, e, q⟩ => ?_
  subst e
  cases r1
  have fresh : ∀ bb ∈ [s1.heap.objs.size], FpOk X pins H1 bb := fun bb hb => by
    obtain rfl : bb = s1.heap.objs.size := by simpa using hb
    exact I1.fpOk (Nat.le_refl _) (I1.hok.fresh (Nat.le_refl _))
  have kept : ∀ (o : Obj) (bb : Addr) (u : Obj), s1.heap.get? bb = some u → (s1.heap.push o).get? bb = some u := fun o bb u e => Heap.get?_push_of_some _ e
  rcases q with ⟨⟨vs, hq⟩, q⟩ | ⟨⟨vs, hq⟩, q⟩
  · obtain ⟨its, rv, p, hz⟩ := I1.list hq
    exact wpAny_pyIter_list p.isList ⟨_, [s1.heap.objs.size], _, _, H1, rfl, I1.kept (t' := s1.toks) (kept _), turn_list a _, ⟨_, Heap.get?_push_size _ rfl, rfl, rfl⟩, fresh, q⟩
  · obtain ⟨its, rv, p, hz⟩ := I1.tuple hq
    exact wpAny_pyIter_tuple (show s1.heap.IsTuple a its.toArray from p) ⟨_, [s1.heap.objs.size], _, _, H1, rfl, I1.kept (t' := s1.toks) (kept _), turn_tuple a _, ⟨_, Heap.get?_push_size _ rfl, rfl, rfl⟩, fresh, q⟩
end
section
variable [RT] {T : Tab} {TX : Exc} {C : Nat → List PV → Sto → R PV} {X : Cx} {W : WX} {N : List Str} {sc : Scope} {b : Nat}
variable {x y z tg : Expr} {a c d : E} {pos : Pos}
abbrev tI (K : PySem.W.Frag) (TX : Exc) (b : Nat) (W : WX) (r : Env → Sto → R MP.Walk) : TI := tG K TX b none W (WalkOk K b) r
section
variable {K : PySem.W.Frag} {ρ : List Addr} {H : Hp} {S : Sto}
theorem stands_get {S : Sto} {g : List (Nat × List PV)} (h : stands S g = true) {k : Nat} {xs : List PV} (m : (k, xs) ∈ g) : S.lst? k = some xs := by
  unfold stands at h
  exact of_decide_eq_true (List.all_eq_true.mp h (k, xs) m)
/-- a list that is walked: locked, or as it stands in the store -/
def Side (K : PySem.W.Frag) (b : Nat) (ρ : List Addr) (H : Hp) (xs : List PV) (g : List (Nat × List PV)) (p : Addr) : Prop :=
  (∃ vs, RelPs K ρ H xs vs ∧ SqL K H p vs) ∧ ∀ ρ' S' H', Keep H H' → ρ <+: ρ' → StOk K b ρ' S' H' → stands S' g = true → ∃ vs, RelPs K ρ' H' xs vs ∧ SqL K H' p vs
theorem side_ok (so : StOk K b ρ S H) {v : PV} {w : V} {q : MP.Walk} (r : RelP K ρ H v w) (e : walkV S v = some q) (nt : isTup v = false) : ∃ p, w = .ref p ∧ Side K b ρ H q.1 q.2 p := by
  unfold walkV at e
  split at e
  · cases nt
  · cases e
    obtain ⟨p, vs, rfl, h, rs⟩ := r.of_lst
    exact ⟨p, rfl, ⟨vs, rs, h.sq⟩, fun ρ' S' H' k pr so st => ⟨vs, rs.mono k pr, (k.roL h).sq⟩⟩
  · rename_i kk
    obtain ⟨p, rfl, ep⟩ := r.of_ref
    cases e1 : S.lst? kk with
    | none => rw [e1] at e; cases e
    | some xs =>
      rw [e1] at e
      cases e
      obtain ⟨vs, rs, hs⟩ := so.sql e1 ep
      exact ⟨p, rfl, ⟨vs, rs, hs⟩, fun ρ' S' H' k pr so st => so.sql (stands_get st (List.mem_singleton.mpr rfl)) (pre_get pr ep)⟩
  · cases e
theorem stands_app {S : Sto} {g g' : List (Nat × List PV)} (h : stands S (g ++ g') = true) : stands S g = true ∧ stands S g' = true := by
  unfold stands at h
  rw [List.all_append] at h
  exact Bool.and_eq_true_iff.mp h
theorem walk_lst {xs : List PV} {g : List (Nat × List PV)} {p : Addr} (sd : Side K b ρ H xs g p) : WalkOk K b ρ H (xs, g) (Itl K p) := by
  refine ⟨xs.length, fun H' => ∃ vs, SqL K H' p vs ∧ vs.length = xs.length, fun i H' w H2 => H2 = H' ∧ ∀ vs, SqL K H' p vs → vs[i]? = some w,
    ⟨fun i H' hi ⟨vs, q, hl⟩ => ⟨vs, vs[i], q, by simp [show i < vs.length by omega]⟩, fun H' ⟨vs, q, hl⟩ => ⟨vs, q, by omega⟩, fun i H' w H2 hi ⟨vs, q, hl⟩ y => y⟩, rfl, ?_, ?_⟩
  · intro ρ' S' H' k' pr so st
    obtain ⟨vs, r, q⟩ := sd.2 ρ' S' H' k' pr so st
    exact ⟨vs, q, r.length.symm⟩
  · rintro ρ' S' H' i w it H2 k' pr so st hi ⟨rfl, y⟩
    obtain ⟨vs, r, q⟩ := sd.2 ρ' S' _ k' pr so st
    obtain ⟨v, h1, h2⟩ := r.get hi
    have e := y vs q
    rw [h1] at e
    cases e
    exact ⟨.refl, so, h2⟩
theorem walk_tp {xs : List PV} {vs : List V} {p : Addr} (h : SqT K H p vs) (r : RelPs K ρ H xs vs) : WalkOk K b ρ H (xs, []) (Itt K p) := by
  refine ⟨xs.length, fun H' => SqT K H' p vs, fun i H' w H2 => H2 = H' ∧ vs[i]? = some w,
    ⟨fun i H' hi q => ⟨vs, vs[i]'(by rw [← r.length]; exact hi), q, by simp⟩, fun H' q => ⟨vs, q, by rw [r.length]; exact Nat.le_refl _⟩, fun i H' w H2 hi q y => ⟨y.1, y.2 vs q⟩⟩, rfl, fun ρ' S' H' k pr so st => k.sqT h, ?_⟩
  rintro ρ' S' H' i w it H2 k' pr so st hi ⟨rfl, y⟩
  obtain ⟨v, h1, h2⟩ := r.get hi
  rw [h1] at y
  cases y
  exact ⟨.refl, so, h2.mono k' pr⟩
theorem walk_rng {lo : Int} {n : Nat} : WalkOk K b ρ H (rngL lo n, []) (Itr lo n) := by
  refine ⟨n, fun _ => True, _, walk_range, by simp [rngL], fun _ _ _ _ _ _ _ => trivial, ?_⟩
  rintro ρ' S' H' i w it H2 k' pr so st hi ⟨rfl, rfl⟩
  unfold rngL at hi
  rw [List.getElem?_map] at hi
  cases e : (List.range n)[i]? with
  | none => rw [e] at hi; cases hi
  | some j =>
    rw [e] at hi
    cases hi
    have : j = i := by
      have h2 := List.getElem?_eq_some_iff.mp e
      obtain ⟨_, h3⟩ := h2
      simpa using h3.symm
    subst this
    exact ⟨.refl, so, .int _⟩
theorem walk_rngD {lo : Int} {n : Nat} : WalkOk K b ρ H (rngD lo n, []) (Itc lo (-1) n) := by
  refine ⟨n, fun _ => True, fun i H x H' => H' = H ∧ x = .int (lo + (i : Nat) * (-1)), ⟨fun i H' hi _ => hi, fun H' _ => Nat.le_refl _, fun i H' w H2 hi _ y => y⟩, by simp [rngD], fun _ _ _ _ _ _ _ => trivial, ?_⟩
  rintro ρ' S' H' i w it H2 k' pr so st hi ⟨rfl, rfl⟩
  unfold rngD at hi
  rw [List.getElem?_map] at hi
  cases e : (List.range n)[i]? with
  | none => rw [e] at hi; cases hi
  | some j =>
    rw [e] at hi
    cases hi
    have : j = i := by
      have h2 := List.getElem?_eq_some_iff.mp e
      obtain ⟨_, h3⟩ := h2
      simpa using h3.symm
    subst this
    refine ⟨.refl, so, ?_⟩
    show RelP K ρ' _ (.int (lo - (j : Int))) _
    rw [show lo - (j : Int) = lo + (j : Nat) * (-1) by omega]
    exact .int _
theorem pair_ok {ρ' : List Addr} {S' : Sto} {H' : Hp} {u v : PV} {p q : V} {t : Addr} (so : StOk K b ρ' S' H') (h : H' t = none) (r1 : RelP K ρ' H' u p) (r2 : RelP K ρ' H' v q) :
    Grow b ρ' ρ' S' S' H' (upd H' t (.tup [p, q])) ∧ StOk K b ρ' S' (upd H' t (.tup [p, q])) ∧ RelP K ρ' (upd H' t (.tup [p, q])) (.tup [u, v]) (.ref t) :=
  ⟨.alloc h, so.alloc h, .tup (SqT.of upd_same) (.cons (r1.mono (.new h) (List.prefix_refl _)) (.cons (r2.mono (.new h) (List.prefix_refl _)) .nil))⟩
theorem enumL_get : ∀ {xs : List PV} {n i : Nat} {it : PV}, (enumL n xs)[i]? = some it → ∃ x, xs[i]? = some x ∧ it = .tup [.int ((n + i : Nat) : Int), x]
  | [], _, _, _, h => by simp [enumL] at h
  | x :: xs, n, 0, it, h => by
    have e : PV.tup [.int (n : Int), x] = it := by simpa [enumL] using h
    exact ⟨x, rfl, by rw [← e]; simp⟩
  | x :: xs, n, i + 1, it, h => by
    obtain ⟨y, h1, h2⟩ := enumL_get (xs := xs) (n := n + 1) (i := i) (it := it) (by simpa [enumL] using h)
    exact ⟨y, by simpa using h1, by rw [h2]; congr 3; omega⟩
theorem enumL_len : ∀ (xs : List PV) (n : Nat), (enumL n xs).length = xs.length
  | [], _ => rfl
  | x :: xs, n => by simp [enumL, enumL_len xs (n + 1)]
theorem walk_en {xs : List PV} {g : List (Nat × List PV)} {p : Addr} (sd : Side K b ρ H xs g p) : WalkOk K b ρ H (enumL 0 xs, g) (Ite K p) := by
  refine ⟨xs.length, fun H' => ∃ vs, SqL K H' p vs ∧ vs.length = xs.length, fun i H' w H2 => ∃ t u, w = .ref t ∧ H' t = none ∧ H2 = upd H' t (.tup [.int (i : Nat), u]) ∧ ∀ vs, SqL K H' p vs → vs[i]? = some u,
    ⟨fun i H' hi ⟨vs, q, hl⟩ => ⟨vs, vs[i], q, by simp [show i < vs.length by omega]⟩, fun H' ⟨vs, q, hl⟩ => ⟨vs, q, by omega⟩, fun i H' w H2 hi ⟨vs, q, hl⟩ y => y⟩, enumL_len xs 0, ?_, ?_⟩
  · intro ρ' S' H' k' pr so st
    obtain ⟨vs, r, q⟩ := sd.2 ρ' S' H' k' pr so st
    exact ⟨vs, q, r.length.symm⟩
  · rintro ρ' S' H' i w it H2 k' pr so st hi ⟨t, u, rfl, ht, rfl, y⟩
    obtain ⟨vs, r, q⟩ := sd.2 ρ' S' H' k' pr so st
    obtain ⟨x, hx, rfl⟩ := enumL_get hi
    obtain ⟨v, h1, h2⟩ := r.get hx
    have e := y vs q
    rw [h1] at e
    cases e
    rw [Nat.zero_add]
    exact pair_ok so ht (.int _) h2
theorem pairs_get {xs ys : List PV} {i : Nat} {it : PV} (h : (pairs xs ys)[i]? = some it) : ∃ x y, xs[i]? = some x ∧ ys[i]? = some y ∧ it = .tup [x, y] := by
  unfold pairs at h
  rw [List.getElem?_map] at h
  cases e : (xs.zip ys)[i]? with
  | none => rw [e] at h; cases h
  | some p =>
    rw [e] at h
    cases h
    obtain ⟨h1, h2⟩ := List.getElem?_zip_eq_some.mp e
    exact ⟨p.1, p.2, h1, h2, rfl⟩
theorem walk_zp {xs ys : List PV} {g g' : List (Nat × List PV)} {p q : Addr} (sd : Side K b ρ H xs g p) (sd' : Side K b ρ H ys g' q) : WalkOk K b ρ H (pairs xs ys, g ++ g') (Itz K p q) := by
  refine ⟨min xs.length ys.length, fun H' => (∃ vs, SqL K H' p vs ∧ vs.length = xs.length) ∧ ∃ vs, SqL K H' q vs ∧ vs.length = ys.length,
    fun i H' w H2 => ∃ t u v, w = .ref t ∧ H' t = none ∧ H2 = upd H' t (.tup [u, v]) ∧ (∀ vs, SqL K H' p vs → vs[i]? = some u) ∧ ∀ vs, SqL K H' q vs → vs[i]? = some v,
    ⟨fun i H' hi ⟨⟨vs, h1, l1⟩, ws, h2, l2⟩ => ?_, fun H' ⟨⟨vs, h1, l1⟩, ws, h2, l2⟩ => ⟨vs, ws, h1, h2, by omega⟩, fun i H' w H2 hi _ y => y⟩, by simp [pairs], ?_, ?_⟩
  · have a1 : i < vs.length := by omega
    have a2 : i < ws.length := by omega
    exact ⟨vs, ws, vs[i], ws[i], h1, h2, by simp [a1], by simp [a2]⟩
  · intro ρ' S' H' k' pr so st
    obtain ⟨s1, s2⟩ := stands_app st
    obtain ⟨vs, r, h⟩ := sd.2 ρ' S' H' k' pr so s1
    obtain ⟨ws, r2, h2⟩ := sd'.2 ρ' S' H' k' pr so s2
    exact ⟨⟨vs, h, r.length.symm⟩, ws, h2, r2.length.symm⟩
  · rintro ρ' S' H' i w it H2 k' pr so st hi ⟨t, u, v, rfl, ht, rfl, y1, y2⟩
    obtain ⟨s1, s2⟩ := stands_app st
    obtain ⟨vs, r, h⟩ := sd.2 ρ' S' H' k' pr so s1
    obtain ⟨ws, r2, h2⟩ := sd'.2 ρ' S' H' k' pr so s2
    obtain ⟨x, z, hx, hz, rfl⟩ := pairs_get hi
    obtain ⟨u', e1, q1⟩ := r.get hx
    obtain ⟨v', e2, q2⟩ := r2.get hz
    have f1 := y1 vs h
    have f2 := y2 ws h2
    rw [e1] at f1
    rw [e2] at f2
    cases f1
    cases f2
    exact pair_ok so ht q1 q2
theorem walk_zt {xs ys : List PV} {vs ws : List V} {p q : Addr} (h : SqT K H p vs) (r : RelPs K ρ H xs vs) (h2 : SqT K H q ws) (r2 : RelPs K ρ H ys ws) : WalkOk K b ρ H (pairs xs ys, []) (RZ.ItzT K p q) := by
  have l1 := r.length
  have l2 := r2.length
  refine ⟨min xs.length ys.length, fun H' => SqT K H' p vs ∧ SqT K H' q ws,
    fun i H' w H2 => ∃ t u v, w = .ref t ∧ H' t = none ∧ H2 = upd H' t (.tup [u, v]) ∧ vs[i]? = some u ∧ ws[i]? = some v,
    ⟨fun i H' hi ⟨h1, h2⟩ => ?_, fun H' ⟨h1, h2⟩ => ⟨vs, ws, h1, h2, by omega⟩, fun i H' w H2 hi ⟨h1, h2⟩ ⟨t, u, v, e1, e2, e3, y1, y2⟩ => ⟨t, u, v, e1, e2, e3, y1 vs h1, y2 ws h2⟩⟩, by simp [pairs], fun ρ' S' H' k pr so st => ⟨k.sqT h, k.sqT h2⟩, ?_⟩
  · have a1 : i < vs.length := by omega
    have a2 : i < ws.length := by omega
    exact ⟨vs, ws, vs[i], ws[i], h1, h2, by simp [a1], by simp [a2]⟩
  · rintro ρ' S' H' i w it H2 k' pr so st hi ⟨t, u, v, rfl, ht, rfl, y1, y2⟩
    obtain ⟨x, z, hx, hz, rfl⟩ := pairs_get hi
    obtain ⟨u', e1, q1⟩ := r.get hx
    obtain ⟨v', e2, q2⟩ := r2.get hz
    rw [e1] at y1
    rw [e2] at y2
    cases y1
    cases y2
    exact pair_ok so ht (q1.mono k' pr) (q2.mono k' pr)
end
theorem i_seq (ha : PE X x (tE X.K TX b none W (ev C b a))) : PI X tg x (tI X.K TX b W (evi C b (.seq a))) := by
  refine ⟨fun pins s τ H R I hq => (pi_seq ha).run pins s τ H R I ?_⟩
  obtain ⟨ρ, σ, S, so, eo, h⟩ := hq
  unfold evi at h
  refine ⟨ρ, σ, S, so, eo, At.mono (At.bd (rel := relE X.K) h) fun w H1 ⟨ρ1, v, S1, _, g1, so1, r1, h1⟩ => ?_⟩
  obtain ⟨k, e, h2⟩ := At.opt h1
  by_cases nt : isTup v = true
  · cases v with
    | tup xs =>
      cases e
      obtain ⟨p, vs, rfl, hq, rs⟩ := RelP.of_tup r1
      exact ⟨p, rfl, .inr ⟨⟨vs, hq⟩, At.ok (rel := WalkOk X.K b) so1 h2 (walk_tp hq rs)⟩⟩
    | _ => cases nt
  · obtain ⟨p, rfl, sd⟩ := side_ok so1 r1 e (by simpa using nt)
    obtain ⟨vs, rs, hs⟩ := sd.1
    exact ⟨p, rfl, .inl ⟨⟨vs, hs⟩, At.ok (rel := WalkOk X.K b) so1 h2 (walk_lst sd)⟩⟩
theorem small_ok {i : Int} (h : small i = true) : -(2 ^ 62) ≤ i ∧ i < 2 ^ 62 := by
  have h' := Bool.and_eq_true_iff.mp h
  exact ⟨of_decide_eq_true h'.1, of_decide_eq_true h'.2⟩
theorem i_rng1 {p : Pos} (hg : Gl X "range") (hm : X.mg "range" = none) (ha : PE X x (tE X.K TX b none W (ev C b a))) (hs : starEach [x] X.env = [(false, eval x X.env)]) : PI X tg (.Call (.Name "range" p) [x] [] pos) (tI X.K TX b W (evi C b (.rng1 a))) := by
  refine ⟨fun pins s τ H R I hq => (pi_range1 hg hm (pa_cons ha pa_nil hs) hs).run pins s τ H R I ?_⟩
  obtain ⟨ρ, σ, S, so, eo, h⟩ := hq
  unfold evi at h
  refine ⟨ρ, σ, S, so, eo, At.mono (At.bd (rel := relE X.K) h) fun w H1 ⟨ρ1, v, S1, _, g1, so1, r1, h1⟩ => ?_⟩
  split at h1
  · split at h1
    · rename_i hs
      obtain ⟨s1, s2⟩ := small_ok hs
      obtain rfl := RelP.of_int r1
      exact ⟨_, rfl, s1, s2, At.ok (rel := WalkOk X.K b) so1 h1 walk_rng⟩
    · exact h1.elim
  · exact h1.elim
theorem i_rng2 {p : Pos} (hg : Gl X "range") (hm : X.mg "range" = none) (ha : PE X x (tE X.K TX b none W (ev C b a))) (hb : PE X y (tE X.K TX b none W (ev C b c))) (hs : ∀ es, starEach (x :: es) X.env = (false, eval x X.env) :: starEach es X.env)
    (hs2 : starEach [y] X.env = [(false, eval y X.env)]) : PI X tg (.Call (.Name "range" p) [x, y] [] pos) (tI X.K TX b W (evi C b (.rng2 a c))) := by
  refine ⟨fun pins s τ H R I hq => (pi_range2 hg hm (pa_cons ha (pa_cons hb pa_nil hs2) (hs _)) (by rw [hs, hs2]) hs2).run pins s τ H R I ?_⟩
  obtain ⟨ρ, σ, S, so, eo, h⟩ := hq
  unfold evi at h
  refine ⟨ρ, σ, S, so, eo, At.mono (At.bd (rel := relE X.K) h) fun w H1 ⟨ρ1, v, S1, _, g1, so1, r1, h1⟩ => ?_⟩
  refine ⟨ρ1, σ, S1, so1, eo.grow g1, At.mono (At.bd (rel := relE X.K) h1) fun w2 H2 ⟨ρ2, u, S2, _, g2, so2, r2, h2⟩ => ?_⟩
  split at h2
  · split at h2
    · rename_i hs
      have hs' := Bool.and_eq_true_iff.mp hs
      obtain ⟨s1, s2⟩ := small_ok hs'.1
      obtain ⟨s3, s4⟩ := small_ok hs'.2
      obtain rfl := RelP.of_int r1
      obtain rfl := RelP.of_int r2
      exact ⟨_, _, rfl, ⟨s1, s2, s3, s4⟩, At.ok (rel := WalkOk X.K b) so2 h2 walk_rng⟩
    · exact h2.elim
  · exact h2.elim
theorem i_zip {elts : List Expr} {kk : Nat} {p tpos : Pos} (hg : Gl X "zip") (hm : X.mg "zip" = none) (ha : PE X x (tE X.K TX b none W (ev C b a))) (hb : PE X y (tE X.K TX b none W (ev C b c))) (hs : ∀ es, starEach (x :: es) X.env = (false, eval x X.env) :: starEach es X.env)
    (hs2 : starEach [y] X.env = [(false, eval y X.env)]) : PI X (.Tuple elts kk tpos) (.Call (.Name "zip" p) [x, y] [] pos) (tI X.K TX b W (evi C b (.zip a c))) := by
  refine ⟨fun pins s τ H R I hq => (RZ.pi_zipA hg hm (pa_cons ha (pa_cons hb pa_nil hs2) (hs _)) (hs _) (by rw [hs2]; rfl)).run pins s τ H R I ?_⟩
  obtain ⟨ρ, σ, S, so, eo, h⟩ := hq
  unfold evi at h
  refine ⟨ρ, σ, S, so, eo, At.mono (At.bd (rel := relE X.K) h) fun w H1 ⟨ρ1, v, S1, _, g1, so1, r1, h1⟩ => ?_⟩
  refine ⟨ρ1, σ, S1, so1, eo.grow g1, At.mono (At.bd (rel := relE X.K) h1) fun w2 H2 ⟨ρ2, u, S2, _, g2, so2, r2, h2⟩ => ?_⟩
  have r1' := RelP.mono g2.keep g2.pre r1
  obtain ⟨k, e, h3⟩ := At.opt h2
  unfold zipV at e
  split at e
  · rename_i t1 t2
    split at e
    · rename_i wa wb f1 f2
      cases e
      cases v with
      | tup xs =>
        cases u with
        | tup ys =>
          cases f1
          cases f2
          obtain ⟨p1, vs, rfl, q1, rs1⟩ := r1'.of_tup
          obtain ⟨p2, ws, rfl, q2, rs2⟩ := RelP.of_tup r2
          exact ⟨p1, p2, vs, ws, rfl, .inr ⟨q1, q2, At.ok (rel := WalkOk X.K b) so2 h3 (walk_zt q1 rs1 q2 rs2)⟩⟩
        | _ => cases t2
      | _ => cases t1
    · cases e
  · rename_i t1 t2
    split at e
    · rename_i wa wb f1 f2
      cases e
      obtain ⟨p1, rfl, sd⟩ := side_ok so2 r1' f1 t1
      obtain ⟨p2, rfl, sd'⟩ := side_ok so2 r2 f2 t2
      obtain ⟨vs, rs1, q1⟩ := sd.1
      obtain ⟨ws, rs2, q2⟩ := sd'.1
      exact ⟨p1, p2, vs, ws, rfl, .inl ⟨q1, q2, At.ok (rel := WalkOk X.K b) so2 h3 (walk_zp sd sd')⟩⟩
    · cases e
  · cases e
theorem i_rng3 {p p2 p3 : Pos} {k3 : Nat} (hg : Gl X "range") (hm : X.mg "range" = none) (ha : PE X x (tE X.K TX b none W (ev C b a))) (hb : PE X y (tE X.K TX b none W (ev C b c))) (hs : ∀ es, starEach (x :: es) X.env = (false, eval x X.env) :: starEach es X.env)
    (hs2 : ∀ es, starEach (y :: es) X.env = (false, eval y X.env) :: starEach es X.env) : PI X tg (.Call (.Name "range" p) [x, y, .UnaryOp .USub (.Constant (.int 1) k3 p3) p2] [] pos) (tI X.K TX b W (evi C b (.rng3 a c))) := by
  have pm : PE X (.UnaryOp .USub (.Constant (.int 1) k3 p3) p2) (tC (.int (-1))) := PE.weak (pe_un un_neg pe_int) fun τ H Q q => ⟨1, rfl, q⟩
  refine ⟨fun pins s τ H R I hq => (pi_range3 hg hm (pa_cons ha (pa_cons hb (pa_cons pm pa_nil) (hs2 _)) (hs _)) (hs _) (by rw [hs2]; rfl)).run pins s τ H R I ?_⟩
  obtain ⟨ρ, σ, S, so, eo, h⟩ := hq
  unfold evi at h
  refine ⟨ρ, σ, S, so, eo, At.mono (At.bd (rel := relE X.K) h) fun w H1 ⟨ρ1, v, S1, _, g1, so1, r1, h1⟩ => ?_⟩
  refine ⟨ρ1, σ, S1, so1, eo.grow g1, At.mono (At.bd (rel := relE X.K) h1) fun w2 H2 ⟨ρ2, u, S2, _, g2, so2, r2, h2⟩ => ?_⟩
  split at h2
  · split at h2
    · rename_i hs
      have hs' := Bool.and_eq_true_iff.mp hs
      obtain ⟨s1, s2⟩ := small_ok hs'.1
      obtain ⟨s3, s4⟩ := small_ok hs'.2
      obtain rfl := RelP.of_int r1
      obtain rfl := RelP.of_int r2
      exact ⟨_, _, _, _, rfl, .neg s1 s2 s3 s4, At.ok (rel := WalkOk X.K b) so2 h2 walk_rngD⟩
    · exact h2.elim
  · exact h2.elim
theorem i_enum {elts : List Expr} {kk : Nat} {p tpos : Pos} (hg : Gl X "enumerate") (hm : X.mg "enumerate" = none) (ha : PE X x (tE X.K TX b none W (ev C b a))) (hs : starEach [x] X.env = [(false, eval x X.env)]) :
    PI X (.Tuple elts kk tpos) (.Call (.Name "enumerate" p) [x] [] pos) (tI X.K TX b W (evi C b (.enum a))) := by
  refine ⟨fun pins s τ H R I hq => (pi_enum hg hm (pa_cons ha pa_nil hs) hs).run pins s τ H R I ?_⟩
  obtain ⟨ρ, σ, S, so, eo, h⟩ := hq
  unfold evi at h
  refine ⟨ρ, σ, S, so, eo, At.mono (At.bd (rel := relE X.K) h) fun w H1 ⟨ρ1, v, S1, _, g1, so1, r1, h1⟩ => ?_⟩
  obtain ⟨k, e, h2⟩ := At.opt h1
  unfold enumV at e
  split at e
  · rename_i wv nt e1
    cases e
    obtain ⟨p, rfl, sd⟩ := side_ok so1 r1 e1 nt
    obtain ⟨vs, rs, q⟩ := sd.1
    exact ⟨p, vs, rfl, q, At.ok (rel := WalkOk X.K b) so1 h2 (walk_en sd)⟩
  · cases e
end
end MP
end
section
set_option Elab.async false
set_option linter.all false
set_option maxRecDepth 100000
set_option maxHeartbeats 1000000
/-! MPSound10: comprehensions, the held exception; every expression that is looked at runs like its MP. -/
namespace MP
open PySem PySem.Spec PyProof.Rows L2
section
variable [RT] {T : Tab} {TX : Exc} {C : Nat → List PV → Sto → R PV} {X : Cx} {W : WX} {N : List Str} {sc : Scope} {b : Nat} {cl : Bool} {ex : Option Held}
variable {x y z tg : Expr} {a c d : E} {pos : Pos}
/-! ### an exception's attribute, isinstance of it -/
theorem zip_lookup {K : PySem.W.Frag} {ρ : List Addr} {H : Hp} : ∀ {fs : List Str} {as : List PV} {ws : List V} {j : Nat} {f : Str} {v : PV}, fs.Nodup → RelPs K ρ H as ws → fs[j]? = some f → as[j]? = some v → ∃ w, (fs.zip ws).lookup f = some w ∧ RelP K ρ H v w
  | [], _, _, _, _, _, _, _, e, _ => by simp at e
  | _ :: _, [], _, _, _, _, _, .nil, _, e => by simp at e
  | g :: fs, u :: as, w :: ws, 0, f, v, _, .cons r _, e1, e2 => by
    have e1 : g = f := by simpa using e1
    have e2 : u = v := by simpa using e2
    subst e1
    subst e2
    exact ⟨w, by simp [List.lookup], r⟩
  | g :: fs, u :: as, w :: ws, j + 1, f, v, nd, .cons _ t, e1, e2 => by
    have nd' := List.nodup_cons.mp nd
    have e1 : fs[j]? = some f := by simpa using e1
    obtain ⟨w', h1, h2⟩ := zip_lookup nd'.2 t e1 (by simpa using e2)
    refine ⟨w', ?_, h2⟩
    have ne : (f == g) = false := by
      have : f ≠ g := fun z => nd'.1 (by rw [← z]; exact List.mem_of_getElem? e1)
      simpa using this
    rw [List.zip_cons_cons, List.lookup_cons, ne]
    exact h1
theorem s_eat (cx : Ctx T TX C X W N sc cl ex) {i j k : Nat} {n f : Str} {p : Pos} {kc : Nat} (hh : hxOf ex = some (k, kc)) (hk : k = i) (h1 : atB N i n = true) (h2 : visB sc n = true) (h3 : nameB n = true) (hf : (T.cls[kc]?.bind fun p => p.2.1[j]?) = some f)
    (hnd : ∀ p, T.cls[kc]? = some p → p.2.1.Nodup) : PE X (.Attribute (.Name n p) f pos) (tE X.K TX b ex W (ev C b (.eat i j))) := by
  obtain ⟨q, hq, e1, e2⟩ : ∃ q, ex = some q ∧ q.i = k ∧ q.c = kc := by
    cases ex with
    | none => cases hh
    | some q => have e : (q.i, q.c) = (k, kc) := by simpa [hxOf] using hh
                exact ⟨q, rfl, congrArg Prod.fst e, congrArg Prod.snd e⟩
  subst hk
  subst e1
  subst e2
  obtain ⟨oe, pn, calm, ⟨Y, hY⟩, hz, ⟨vs, hv⟩, tab⟩ := cx.held q hq
  cases hp : T.cls[q.c]? with
  | none => rw [hp] at hf; cases hf
  | some pp =>
    rw [hp] at hf
    have hf : pp.2.1[j]? = some f := hf
    obtain ⟨t1, _⟩ := tab pp hp
    obtain ⟨ga, gg, sb, hd, nf⟩ := t1 f (List.mem_of_getElem? hf)
    have at_ := cx.attrs q.c pp hp
    have nd := hnd pp hp
    obtain ⟨n1, n2, _⟩ := nameB_ok h3
    have pn' : PE X (.Name n p) (tVar q.i) := pe_var (by rw [cx.names]; exact atB_ok h1) (by rw [cx.scope]; exact visB_ok h2) n1 n2
    refine ⟨fun pins s τ H Q I ht => ?_⟩
    obtain ⟨ρ, σ, S, so, eo, h⟩ := ht
    obtain ⟨as, s1, s2, x0, x1, x2, x3⟩ := eo.held q hq
    unfold ev at h
    rw [s1] at h
    obtain ⟨v, ev', h⟩ := At.opt (show At _ _ _ _ _ _ _ _ (MP.opt as[j]? S) Q from h)
    refine attr_of (by rfl) (thn (pn'.run pins s τ H (fun w H1 => w = .ref q.a ∧ H1 = H) I ⟨_, s2, rfl, rfl⟩) fun u s1' ⟨w, H1, I1, rw', e3, e4⟩ => ?_)
    subst e3
    subst e4
    obtain rfl : u = Value.ref q.a := rw'
    rcases x3 with ⟨z, _⟩ | ⟨_, dd, ws, e5, e6, r⟩
    · rw [at_] at z
      rw [z] at hf
      simp at hf
    · rw [at_] at e6
      obtain ⟨w, l1, l2⟩ := zip_lookup nd r hf ev'
      obtain ⟨mA, ns, hr⟩ : ObjOk X.prog X.w H1 s1'.heap dd (.xd (pp.2.1.zip ws)) := I1.hok dd _ e6
      obtain ⟨od, ho, hl⟩ := lookIn_ns ns
      obtain ⟨u, hu, ru⟩ := RelO.some_of (v := w) (o := mA f) (by rw [← l1]; exact hr f)
      have pin : s1'.heap.get? q.a = some oe := by
        have hm : (q.a, oe) ∈ X.pn := by rw [hY]; exact List.mem_cons_self
        exact (I1.pin (q.a, oe) (List.mem_append_left _ hm)).1
      have J : PySem.W.InstAt s1'.heap q.a oe (TX.at_ q.c) (some od) := ⟨pin, by rw [hz.1, x1], by unfold PySem.W.notCls; rw [hv] <;> rfl, by rw [hz.2, e5]; exact ho⟩
      exact HandSPX.exc_get I1.kIn J ga gg sb (PySem.W.findObj_own hd nf rfl (by rw [hl, hu])) (handed_of ru) ⟨w, H1, I1.tok _, ru, At.ok so h l2⟩
theorem s_eisi (cx : Ctx T TX C X W N sc cl ex) {i k kc : Nat} {n m g : Str} {p p2 p3 : Pos} (hh : hxOf ex = some (k, kc)) (hk : k = i) (h1 : atB N i n = true) (h2 : visB sc n = true) (h3 : nameB n = true) (hm : gloB sc m = true) (em : m = "isinstance") (bm : T.bi.contains m = true)
    (hg : gloB sc g = true) (hc : ((T.cls[kc]?).any fun p => p.2.1.isEmpty && p.2.2.contains g) = true) : PE X (.Call (.Name m p) [.Name n p2, .Name g p3] [] pos) (tE X.K TX b ex W (ev C b (.eisi i))) := by
  obtain ⟨q, hq, e1, e2⟩ : ∃ q, ex = some q ∧ q.i = k ∧ q.c = kc := by
    cases ex with
    | none => cases hh
    | some q => have e : (q.i, q.c) = (k, kc) := by simpa [hxOf] using hh
                exact ⟨q, rfl, congrArg Prod.fst e, congrArg Prod.snd e⟩
  subst hk
  subst e1
  subst e2
  obtain ⟨oe, pn, calm, ⟨Y, hY⟩, hz, hv, tab⟩ := cx.held q hq
  cases hp : T.cls[q.c]? with
  | none => rw [hp] at hc; simp at hc
  | some pp =>
    rw [hp] at hc
    have hc := Bool.and_eq_true_iff.mp (show (pp.2.1.isEmpty && pp.2.2.contains g) = true by simpa using hc)
    have emp : pp.2.1 = [] := by simpa using hc.1
    obtain ⟨_, t2⟩ := tab pp hp
    obtain ⟨g1, g2, _, g4⟩ := cx.gl hm
    obtain ⟨k1, k2, _, k4⟩ := cx.gl hg
    subst em
    have mn : X.mg "isinstance" = none := (cx.free _ bm).2 (by decide +kernel)
    obtain ⟨n1, n2, _⟩ := nameB_ok h3
    have pn' : PE X (.Name n p2) (tVar q.i) := pe_var (by rw [cx.names]; exact atB_ok h1) (by rw [cx.scope]; exact visB_ok h2) n1 n2
    refine ⟨fun pins s τ H Q I ht => ?_⟩
    obtain ⟨ρ, σ, S, so, eo, h⟩ := ht
    obtain ⟨as, s1, s2, x0, x1, x2, x3⟩ := eo.held q hq
    unfold ev at h
    rw [s1] at h
    have h : At X.K TX b _ (relE X.K) ρ S H (.ok (.bl true) S) Q := h
    obtain ⟨EC, sup⟩ := t2 emp
    have at_ := cx.attrs q.c pp hp
    have dn : q.d = none := by
      rcases x3 with ⟨_, z⟩ | ⟨z, _⟩
      · exact z
      · exact absurd (at_.trans emp) z
    obtain ⟨cv, u, hu, ru, un, kit⟩ := sup g hc.2
    have pg' : PE X (.Name g p3) (tC cv) := by
      rcases hu with hu | ⟨hu, hb, _⟩
      · exact pe_glob k1 hu ru k2
      · exact pe_bltn k1 hu hb ru k4 k2
    have ci : CallR X (.builtin "isinstance") (rIsE X.K (TX.at_ q.c) q.a) := by
      have hz' : Zc (.ref (TX.at_ q.c)) none oe := by rw [← x1, ← dn]; exact hz
      have z := call_isE (X := Y) (a := q.a) (D := TX.at_ q.c) (oe := oe) (pn := pn) (by have e := EC; rw [hY] at e; exact e) hz' hv
      rw [hY]
      exact z
    exact (pe_callB ci g1 mn boot_isinstance (pa_cons pn' (pa_cons pg' pa_nil)) g4 g2).run pins s τ H Q I ⟨_, s2, cv, u, true, rfl, un, kit, At.ok (rel := relE X.K) so h (.bl true)⟩
/-! ### comprehensions -/
/-- a list that no number tells of, made meanwhile -/
theorem Grow.aside {ρ ρ' : List Addr} {S S' : Sto} {H H' : Hp} {D : Addr} {vs : List V} {o : HO} (g : Grow b ρ ρ' S S' H H') (hD : H D = none) (h : H' D = some (.lst vs)) : Grow b ρ ρ' S S' H (upd H' D o) :=
  ⟨g.keep.trans (.wlst h), g.pre, g.len, fun a u e n => let ⟨e1, n1⟩ := g.frame a u e n; ⟨by rw [upd_ne (ne_of_none e hD)]; exact e1, n1⟩, g.und⟩
theorem StOk.aside {K : PySem.W.Frag} {ρ : List Addr} {S : Sto} {H : Hp} {D : Addr} {vs : List V} {o : HO} (so : StOk K b ρ S H) (nd : D ∉ ρ) (h : H D = some (.lst vs)) : StOk K b ρ S (upd H D o) :=
  ⟨so.len, fun k c a q e => (so.cell k c a q e).keep (.wlst h) (List.prefix_refl _) fun _ u _ z => by rw [upd_ne fun (z' : a = D) => nd (by rw [← z']; exact List.mem_of_getElem? e)]; exact z, so.inj, so.base⟩
/-- it becomes a cell -/
theorem StOk.adopt {K : PySem.W.Frag} {ρ : List Addr} {S : Sto} {H : Hp} {D : Addr} {xs : List PV} {vs : List V} (so : StOk K b ρ S H) (nd : D ∉ ρ) (h : H D = some (.lst vs)) (r : RelPs K ρ H xs vs) : StOk K b (ρ ++ [D]) (S.push (.lst xs)) H := by
  have pp : ρ <+: ρ ++ [D] := List.prefix_append _ _
  have L := so.len
  have gc : ∀ {k : Nat} {d : Cell}, (S.push (.lst xs)).cells[k]? = some d → (k < S.cells.length ∧ S.cells[k]? = some d) ∨ (k = S.cells.length ∧ d = .lst xs) := fun {k d} q => by
    rcases get_snoc (show (S.cells ++ [.lst xs])[k]? = some d from q) with q | q
    · exact .inl ⟨(List.getElem?_eq_some_iff.mp q).1, q⟩
    · exact .inr q
  have ga : ∀ {k : Nat} {a : Addr}, (ρ ++ [D])[k]? = some a → (k < S.cells.length ∧ ρ[k]? = some a) ∨ (k = S.cells.length ∧ a = D) := fun {k a} e => by
    rcases get_snoc e with e | ⟨e, f⟩
    · have := (List.getElem?_eq_some_iff.mp e).1
      exact .inl ⟨by omega, e⟩
    · exact .inr ⟨by omega, f⟩
  have old : ∀ {k : Nat} {a : Addr}, ρ[k]? = some a → a ≠ D := fun e z => nd (by rw [← z]; exact List.mem_of_getElem? e)
  refine ⟨by simp [Sto.push, so.len], fun k d a q e => ?_, fun j k a d d' e1 e2 q1 q2 n1 n2 => ?_, by have := so.base; simp [Sto.push]; omega⟩
  · rcases gc q with ⟨l1, q⟩ | ⟨l1, hd⟩ <;> rcases ga e with ⟨l2, e⟩ | ⟨l2, ha⟩
    · exact (so.cell k d a q e).keep (.refl _) pp fun _ u _ z => z
    · omega
    · omega
    · rw [hd, ha]; exact ⟨vs, r.mono (.refl _) pp, h⟩
  · rcases gc q1 with ⟨l1, q1⟩ | ⟨l1, hd1⟩ <;> rcases gc q2 with ⟨l2, q2⟩ | ⟨l2, hd2⟩ <;> rcases ga e1 with ⟨m1, f1⟩ | ⟨m1, f1⟩ <;> rcases ga e2 with ⟨m2, f2⟩ | ⟨m2, f2⟩ <;> try omega
    · exact so.inj j k a d d' f1 f2 q1 q2 n1 n2
    · exact absurd f2 (old f1)
    · exact absurd f1 (old f2)
theorem Grow.adopt {ρ ρ' : List Addr} {S S' : Sto} {H H' : Hp} {D : Addr} {c : Cell} (g : Grow b ρ ρ' S S' H H') (hb : b ≤ S'.cells.length) (hD : H D = none) : Grow b ρ (ρ' ++ [D]) S (S'.push c) H H' :=
  ⟨g.keep, g.pre.trans (List.prefix_append _ _), Nat.le_trans g.len (by simp [Sto.push]), fun a u e n => let ⟨e1, n1⟩ := g.frame a u e n; ⟨e1, fun m => (List.mem_append.mp m).elim n1 fun z => ne_of_none e hD (List.mem_singleton.mp z)⟩, fun e => by
    obtain ⟨h1, h2⟩ := g.und e
    refine ⟨h1, fun n hn u k d hk q => ?_⟩
    rw [show (S'.push c).cells = S'.cells ++ [c] from rfl, List.getElem?_append_left (by omega)] at q
    exact h2 n hn u k d hk q⟩
theorem noExc_At {α β : Type} {K : PySem.W.Frag} {E E' : XK} {rel : List Addr → Hp → α → β → Prop} {ρ : List Addr} {S : Sto} {H : Hp} {r : R α} {Q : β → Hp → Prop} (h : At K TX b E rel ρ S H (noExc r) Q) : At K TX b E' rel ρ S H r Q := by
  cases r with
  | ok v S' => exact h
  | exc c as S' => exact h.elim
  | bad => exact h
/-- the turns' reading: from any place of the walk -/
theorem At.noE {α β : Type} {K : PySem.W.Frag} {E E' : XK} {rel : List Addr → Hp → α → β → Prop} {ρ : List Addr} {S : Sto} {H : Hp} {r : R α} {Q : β → Hp → Prop} (h : At K TX b (fun _ _ _ => False) rel ρ S H r Q) : At K TX b E rel ρ S H r Q := by
  cases r with
  | ok v S' => exact h
  | exc c as S' => exact fun ρ' H' cls d g so x => (h ρ' H' cls d g so x).elim
  | bad => exact h
end
end MP
end
section
set_option Elab.async false
set_option linter.all false
set_option maxRecDepth 100000
set_option maxHeartbeats 1000000
/-! MPSound11: comprehensions; every expression that is looked at runs like its MP. -/
namespace MP
open PySem PySem.Spec PyProof.Rows L2
section
variable [RT] {T : Tab} {TX : Exc} {C : Nat → List PV → Sto → R PV} {X : Cx} {W : WX} {N : List Str} {sc : Scope} {b : Nat} {cl : Bool} {ex : Option Held}
variable {x y z tg : Expr} {a c d : E} {pos : Pos}
abbrev noW : WX := fun _ _ _ _ => False
theorem Ctx.blk (cx : Ctx T TX C X W N sc true none) (s : Shared) (H : Hp) (scope : Scope) (A : Addr) (cs : List (Str × Addr)) (fp : List Addr) : Ctx T TX C (X.blk s H scope (compEnvC scope cs A X.env) fp) noW N (relS scope sc) true none :=
  ⟨by rw [← cx.scope]; rfl, cx.names, cx.nd, takes0, cx.calm, cx.unit, cx.free, cx.glb, ⟨cx.wide.depth, cx.wide.seer, cx.wide.tree, cx.wide.top⟩, cx.rcs, cx.kit, cx.inits, cx.meths, cx.fns, cx.num, cx.exc, cx.exm, cx.attrs, fun x hx => by cases hx⟩
theorem wipe_env {K : PySem.W.Frag} {ρ : List Addr} {H : Hp} {σ : Env} {τ : L2.St} (e : EnvOk K TX none ρ H σ τ) (own : List Nat) : EnvOk K TX none ρ H (MP.wipe σ own) (L2.wipe τ own) := e.wipe own
/-- a target stores nowhere but at its own names -/
theorem own_len (τ : L2.St) (own : List Nat) : (L2.wipe τ own).length = τ.length := wipe_length τ own
/-- slots set at places of own are forgotten by wipe -/
theorem wipe_set {τ : L2.St} {own : List Nat} {i : Nat} {o : Option V} (h : i ∈ own) : L2.wipe (τ.set i o) own = L2.wipe τ own := by
  induction own with
  | nil => cases h
  | cons v vs ih =>
    show (L2.wipe (τ.set i o) vs).set v none = (L2.wipe τ vs).set v none
    rcases List.mem_cons.mp h with rfl | h
    · by_cases hm : i ∈ vs
      · rw [ih hm]
      · have e : ∀ (us : List Nat), i ∉ us → ∀ τ : L2.St, L2.wipe (τ.set i o) us = (L2.wipe τ us).set i o := by
          intro us
          induction us with
          | nil => intro _ τ; rfl
          | cons u us ihu =>
            intro hn τ
            have hn' : i ≠ u ∧ i ∉ us := ⟨fun z => hn (by rw [z]; exact List.mem_cons_self), fun z => hn (List.mem_cons_of_mem _ z)⟩
            show (L2.wipe (τ.set i o) us).set u none = ((L2.wipe τ us).set u none).set i o
            rw [ihu hn'.2 τ, List.set_comm _ _ hn'.1]
        rw [e vs hm, List.set_set]
    · rw [ih h]
theorem wipe_wipe {τ : L2.St} {own : List Nat} : L2.wipe (L2.wipe τ own) own = L2.wipe τ own := by
  have e : ∀ us : List Nat, (∀ u ∈ us, u ∈ own) → L2.wipe (L2.wipe τ us) own = L2.wipe τ own := by
    intro us
    induction us with
    | nil => intro _; rfl
    | cons u us ih =>
      intro h
      show L2.wipe ((L2.wipe τ us).set u none) own = _
      rw [wipe_set (h u List.mem_cons_self), ih fun v hv => h v (List.mem_cons_of_mem _ hv)]
  exact e own fun u h => h
mutual
theorem g_own {X : Cx} (hc : X.calm = true) (hN : X.N = N) (hd : N.Nodup) (hsc : X.env.scope = sc) {lo : Bool} (hf : lo = false → ∀ x, sc.names.lookup x = some .cell → X.fn x = true) {own : List Nat} : ∀ {t : Tg} {tg : Expr}, tgB N lo sc t tg = true → (∀ i ∈ t.slots, i ∈ own) →
    PG X tg (fun v τ H Q => ∃ ρ σ σ' u, EnvOk X.K TX none ρ H σ τ ∧ RelP X.K ρ H u v ∧ bindT t u σ = some σ' ∧ ∀ τ', EnvOk X.K TX none ρ H σ' τ' → L2.wipe τ' own = L2.wipe τ own → Q τ' H)
  | .name i, tg, h, hi => by
    unfold tgB at h
    split at h
    · rename_i n p
      have h' := Bool.and_eq_true_iff.mp h
      have hl : Loc X.env.scope n ∧ (X.fn n = true ∨ X.env.scope.names.lookup n = some .local) := by
        rw [hsc]
        have h2 := h'.2
        cases lo with
        | true => exact ⟨.inl (kindB_ok h2), .inr (kindB_ok h2)⟩
        | false =>
          have h3 := locB_ok (sc := sc) (x := n) h2
          exact ⟨h3, h3.elim .inr fun e => .inl (hf rfl n e)⟩
      have g := pg_name (X := X) (i := i) (x := n) (pos := p) (by rw [hN]; exact hd) (by rw [hN]; exact atB_ok h'.1) hl.1 hl.2
      refine ⟨fun pins s τ H v u Q I r hq => g.run pins s τ H v u Q I r ?_⟩
      obtain ⟨ρ, σ, σ', w, eo, rp, e, k⟩ := hq
      unfold bindT at e
      cases e
      exact k _ (eo.set i rp) (wipe_set (hi i (by simp [Tg.slots])))
    · cases h
  | .tup ts, tg, h, hi => by
    unfold tgB at h
    split at h
    · rename_i es k p
      have ih := gs_own hc hN hd hsc hf (own := own) h (by simpa [Tg.slots] using hi)
      refine ⟨fun pins s τ H v u Q I r hq => ?_⟩
      obtain ⟨ρ, σ, σ', w, eo, rp, e, kk⟩ := hq
      unfold bindT at e
      cases w with
      | tup xs =>
        obtain ⟨a, vs, rfl, hq, rs⟩ := rp.of_tup
        have e' : bindTs ts xs σ = some σ' := e
        refine (pg_tup hc ih.1 rfl ih.2.1).run pins s τ H _ u Q I r ⟨a, vs, rfl, hq, ?_, ρ, σ, σ', xs, eo, rs, e', kk⟩
        rw [← rs.length]
        exact ih.2.2 σ σ' xs e'
      | lst xs =>
        obtain ⟨a, vs, rfl, hq, rs⟩ := rp.of_lst
        have e' : bindTs ts xs σ = some σ' := e
        refine (pg_unl hc ih.1 rfl ih.2.1).run pins s τ H _ u Q I r ⟨a, vs, rfl, hq.sq, ?_, ρ, σ, σ', xs, eo, rs, e', kk⟩
        rw [← rs.length]
        exact ih.2.2 σ σ' xs e'
      | _ => cases e
    · cases h
theorem gs_own {X : Cx} (hc : X.calm = true) (hN : X.N = N) (hd : N.Nodup) (hsc : X.env.scope = sc) {lo : Bool} (hf : lo = false → ∀ x, sc.names.lookup x = some .cell → X.fn x = true) {own : List Nat} : ∀ {ts : Tgs} {es : List Expr}, tgsB N lo sc ts es = true → (∀ i ∈ ts.slots, i ∈ own) →
    PGs X es (fun vs τ H Q => ∃ ρ σ σ' us, EnvOk X.K TX none ρ H σ τ ∧ RelPs X.K ρ H us vs ∧ bindTs ts us σ = some σ' ∧ ∀ τ', EnvOk X.K TX none ρ H σ' τ' → L2.wipe τ' own = L2.wipe τ own → Q τ' H) ∧
      (assignEach es X.env).findIdx? (·.1) = none ∧ ∀ σ σ' us, bindTs ts us σ = some σ' → us.length = (assignEach es X.env).length
  | .nil, [], _, _ => by
    have g := gs_ok (TX := TX) hc hN hd hsc hf (ts := .nil) (es := []) rfl
    refine ⟨⟨fun pins s τ H vs us Q I r hq => pgs_nil.run pins s τ H vs us Q I r ?_⟩, g.2⟩
    obtain ⟨ρ, σ, σ', us', eo, rs, e, k⟩ := hq
    cases us' with
    | nil =>
      cases rs
      unfold bindTs at e
      cases e
      exact ⟨rfl, k _ eo rfl⟩
    | cons _ _ => simp [bindTs] at e
  | .nil, _ :: _, h, _ => by simp [tgsB] at h
  | .cons _ _, [], h, _ => by simp [tgsB] at h
  | .cons t ts, e :: es, h, hi => by
    have g := gs_ok (TX := TX) hc hN hd hsc hf (ts := .cons t ts) (es := e :: es) h
    have h' := Bool.and_eq_true_iff.mp (by simpa [tgsB] using h)
    have hi' : (∀ i ∈ t.slots, i ∈ own) ∧ ∀ i ∈ ts.slots, i ∈ own :=
      ⟨fun i q => hi i (by simp [Tgs.slots, q]), fun i q => hi i (by simp [Tgs.slots, q])⟩
    have g1 := g_own hc hN hd hsc hf (own := own) h'.1 hi'.1
    obtain ⟨g2, g3, g4⟩ := gs_own hc hN hd hsc hf (own := own) h'.2 hi'.2
    have ha : assignEach (e :: es) X.env = (false, assign e X.env) :: assignEach es X.env := by
      have h1 := h'.1
      cases t with
      | name i => cases e <;> first | rfl | simp [tgB] at h1
      | tup ts => cases e <;> first | rfl | simp [tgB] at h1
    refine ⟨⟨fun pins s τ H vs us Q I r hq => (pgs_cons g1 g2 (by rw [ha]; rfl)).run pins s τ H vs us Q I r ?_⟩, g.2⟩
    obtain ⟨ρ, σ, σ', us', eo, rs, e, k⟩ := hq
    cases rs with
    | nil => simp [bindTs] at e
    | cons r1 r2 =>
      unfold bindTs at e
      split at e
      · rename_i σ1 e1
        exact ⟨_, _, rfl, ρ, σ, σ1, _, eo, r1, e1, fun τ' eo' w' => ⟨ρ, σ1, σ', _, eo', r2, e, fun τ'' eo'' w'' => k τ'' eo'' (w''.trans w')⟩⟩
      · cases e
end
abbrev gO (K : PySem.W.Frag) (TX : Exc) (own : List Nat) (t : Tg) : TG := fun v τ H Q => ∃ ρ σ σ' u, EnvOk K TX none ρ H σ τ ∧ RelP K ρ H u v ∧ bindT t u σ = some σ' ∧ ∀ τ', EnvOk K TX none ρ H σ' τ' → L2.wipe τ' own = L2.wipe τ own → Q τ' H
/-- a comprehension's run tells its reading; Z: what becomes of the list -/
theorem lc_core {K : PySem.W.Frag} {t : Tg} {own : List Nat} {it : It} {co : Eo} {e : E} {τ : L2.St} {H : Hp} {Q : VK} {ρ : List Addr} {σ : Env} {S : Sto} {Z : List PV → Sto → R PV} (so : StOk K b ρ S H) (eo : EnvOk K TX none ρ H σ τ)
    (h : At K TX b (fun cls d H' => W cls d τ H') (WalkOk K b) ρ S H (evi C b it σ S) fun J H1 => ∃ ρ1 w S1, Grow b ρ ρ1 S S1 H H1 ∧ StOk K b ρ1 S1 H1 ∧ WalkOk K b ρ1 H1 w J ∧
      At K TX b (fun _ _ _ => False) (relE K) ρ1 S1 H1 ((lcLoop (fun S => stands S w.2) (fun x => bindT t x (MP.wipe σ own)) (evc C b co) (ev C b e) w.1 [] S1).bd Z) Q)
    (fin : ∀ (D : Addr) (ρ1 : List Addr) (S1 : Sto) (H1 : Hp) (ρi : List Addr) (Si : Sto) (acc : List PV) (vs : List V) (Hc : Hp), H1 D = none → StOk K b ρ1 S1 H1 → Grow b ρ1 ρi S1 Si H1 Hc → StOk K b ρi Si Hc → D ∉ ρi → Hc D = some (.lst vs) → RelPs K ρi Hc acc vs → At K TX b (fun _ _ _ => False) (relE K) ρ1 S1 H1 (Z acc Si) Q → lk Q (.ref D) Hc) :
    tLc (tI K TX b W (evi C b it)) (gO K TX own t) (tTs K TX b none noW (evc C b co)) (tE K TX b none noW (ev C b e)) ((own.map fun i => ((N[i]?).getD Str.empty, i)).map (·.2)) τ H (lk Q) := by
  have mapown : (own.map fun i => ((N[i]?).getD Str.empty, i)).map (·.2) = own := by
    rw [List.map_map]
    exact List.map_id' own
  rw [mapown]
  refine ⟨ρ, σ, S, so, eo, At.mono h fun J H1 ⟨ρ1, w, S1, g1, so1, wo, h1⟩ => fun D hD => ?_⟩
  have eo1 := eo.grow g1
  obtain ⟨n, G, Y, wk, hn, hG, hY⟩ := wo.ex
  have nD : D ∉ ρ1 := so1.nin hD
  let run (xs acc : List PV) (Si : Sto) : R PV := (lcLoop (fun S => stands S w.2) (fun x => bindT t x (MP.wipe σ own)) (evc C b co) (ev C b e) xs acc Si).bd Z
  refine lc_it wk (fun i Hc => ∃ ρi Si acc vs, Grow b ρ1 ρi S1 Si H1 Hc ∧ StOk K b ρi Si Hc ∧ D ∉ ρi ∧ Hc D = some (.lst vs) ∧ RelPs K ρi Hc acc vs ∧ At K TX b (fun _ _ _ => False) (relE K) ρ1 S1 H1 (run (w.1.drop i) acc Si) Q)
    ⟨ρ1, S1, [], [], .alloc hD, so1.alloc hD, nD, upd_same, .nil, by simpa [run] using h1⟩ ?_ ?_ ?_
  · rintro i Hc hi ⟨ρi, Si, acc, vs, gi, soi, ni, hDi, rs, hq⟩
    refine hG ρi Si Hc gi.keep gi.pre soi ?_
    cases hst : stands Si w.2 with
    | true => rfl
    | false =>
      exfalso
      have : run (w.1.drop i) acc Si = .bad := by
        show R.bd _ _ = _
        cases w.1.drop i with
        | nil => unfold lcLoop; rw [hst]; rfl
        | cons x xs => unfold lcLoop; rw [hst]; rfl
      rw [this] at hq
      exact hq
  · rintro i xv Hc Hc' hin ⟨ρi, Si, acc, vs, gi, soi, ni, hDi, rs, hq⟩ hy
    have hlt : i < w.1.length := by rw [hn]; exact hin
    have hget : w.1[i]? = some (w.1[i]) := by simp [hlt]
    have hst : stands Si w.2 = true := by
      cases hst : stands Si w.2 with
      | true => rfl
      | false =>
        exfalso
        have : run (w.1.drop i) acc Si = .bad := by
          show R.bd _ _ = _
          cases w.1.drop i with
          | nil => unfold lcLoop; rw [hst]; rfl
          | cons x xs => unfold lcLoop; rw [hst]; rfl
        rw [this] at hq
        exact hq
    obtain ⟨gy, soy, ry⟩ := hY ρi Si Hc i xv _ Hc' gi.keep gi.pre soi hst hget hy
    have gi' := gi.trans gy
    obtain ⟨hDy, ny⟩ := gy.frame D _ hDi ni
    have rs' : RelPs K ρi Hc' acc vs := rs.mono gy.keep gy.pre
    rw [List.drop_eq_getElem_cons hlt] at hq
    have hq : At K TX b (fun _ _ _ => False) (relE K) ρ1 S1 H1 ((lcLoop (fun S => stands S w.2) (fun x => bindT t x (MP.wipe σ own)) (evc C b co) (ev C b e) (w.1[i] :: w.1.drop (i + 1)) acc Si).bd Z) Q := hq
    unfold lcLoop at hq
    rw [hst, if_pos rfl] at hq
    have eoi := ((eo1.grow gi').wipe own)
    cases hbd : bindT t w.1[i] (MP.wipe σ own) with
    | none => rw [hbd] at hq; exact hq.elim
    | some σ1 =>
      rw [hbd] at hq
      refine ⟨ρi, MP.wipe σ own, σ1, w.1[i], eoi, ry, hbd, fun τ1 eo1' hw => ⟨hw.trans wipe_wipe, ?_⟩⟩
      have hq : At K TX b (fun _ _ _ => False) (relE K) ρ1 S1 H1 ((((evc C b co) σ1 Si).bd fun c S1' => _).bd Z) Q := hq
      refine ⟨ρi, σ1, Si, soy, eo1', ?_⟩
      -- the test, then the element
      cases hc : evc C b co σ1 Si with
      | bad => rw [hc] at hq; exact hq.elim
      | exc c as S' => rw [hc] at hq; exact fun ρ' H' cls d g s x => hq ρ' H' cls d (gi'.trans g) s x
      | ok c S2 =>
        rw [hc] at hq
        intro ρ2 H2 c' g2 so2 ec
        obtain rfl : c = c' := ec
        obtain ⟨hD2, n2⟩ := g2.frame D _ hDy ny
        have rs2 := rs'.mono g2.keep g2.pre
        cases c with
        | false => exact iteF ⟨ρ2, S2, acc, vs, gi'.trans g2, so2, n2, hD2, rs2, hq⟩
        | true =>
          refine iteT ⟨ρ2, σ1, S2, so2, eo1'.grow g2, ?_⟩
          have hq : At K TX b (fun _ _ _ => False) (relE K) ρ1 S1 H1 (((ev C b e σ1 S2).bd fun y S3 => _).bd Z) Q := hq
          cases hv : ev C b e σ1 S2 with
          | bad => rw [hv] at hq; exact hq.elim
          | exc c as S' => rw [hv] at hq; exact fun ρ' H' cls d g s x => hq ρ' H' cls d ((gi'.trans g2).trans g) s x
          | ok y S3 =>
            rw [hv] at hq
            intro ρ3 H3 yv g3 so3 ry3
            obtain ⟨hD3, n3⟩ := g3.frame D _ hD2 n2
            have rs3 := rs2.mono g3.keep g3.pre
            have g03 := (gi'.trans g2).trans g3
            have hq : At K TX b (fun _ _ _ => False) (relE K) ρ1 S1 H1 ((if acc.length < lenMax then lcLoop (fun S => stands S w.2) (fun x => bindT t x (MP.wipe σ own)) (evc C b co) (ev C b e) (w.1.drop (i + 1)) (acc ++ [y]) S3 else (R.bad : R (List PV))).bd Z) Q := hq
            split at hq
            · rename_i hlen
              refine ⟨vs, hD3, by rw [line_eq, ← rs3.length]; exact hlen, ρ3, S3, acc ++ [y], vs ++ [yv], g03.aside hD hD3, so3.aside n3 hD3, n3, upd_same, (rs3.app (.cons ry3 .nil)).mono (.wlst hD3) (List.prefix_refl _), hq⟩
            · exact hq.elim
  · rintro Hc ⟨ρi, Si, acc, vs, gi, soi, ni, hDi, rs, hq⟩
    have en : w.1.drop n = [] := by rw [← hn]; exact List.drop_length
    rw [en] at hq
    have hq : At K TX b (fun _ _ _ => False) (relE K) ρ1 S1 H1 ((lcLoop (fun S => stands S w.2) (fun x => bindT t x (MP.wipe σ own)) (evc C b co) (ev C b e) [] acc Si).bd Z) Q := hq
    unfold lcLoop at hq
    split at hq
    · exact fin D ρ1 S1 H1 ρi Si acc vs Hc hD so1 gi soi ni hDi rs hq
    · exact hq.elim
theorem lc_read {K : PySem.W.Frag} {t : Tg} {own : List Nat} {it : It} {co : Eo} {e : E} {τ : L2.St} {H : Hp} {Q : VK} (hq : tE K TX b none W (ev C b (.lc t own it co e)) τ H Q) :
    tLc (tI K TX b W (evi C b it)) (gO K TX own t) (tTs K TX b none noW (evc C b co)) (tE K TX b none noW (ev C b e)) ((own.map fun i => ((N[i]?).getD Str.empty, i)).map (·.2)) τ H (lk Q) := by
  obtain ⟨ρ, σ, S, so, eo, h⟩ := hq
  unfold ev at h
  refine lc_core (Z := fun ys S2 => .ok (.lst ys) S2) so eo (At.mono (At.bd (rel := WalkOk K b) h) fun J H1 ⟨ρ1, w, S1, _, g1, so1, wo, h1⟩ => ⟨ρ1, w, S1, g1, so1, wo, noExc_At h1⟩) fun D ρ1 S1 H1 ρi Si acc vs Hc hD so1 gi soi ni hDi rs hz => ?_
  refine .inr ⟨D, .lst vs, hDi, trivial, fun o => ?_⟩
  exact hz ρi _ _ (gi.aside hD hDi) (soi.aside ni hDi) (.lst (.inl ⟨o, upd_same⟩) (rs.mono (.wlst hDi) (List.prefix_refl _)))
theorem noExc_bd {α β γ : Type} {K : PySem.W.Frag} {E E' : XK} {rel : List Addr → Hp → γ → β → Prop} {ρ : List Addr} {S : Sto} {H : Hp} {r : R α} {f : α → Sto → R γ} {Q : β → Hp → Prop} (hf : ∀ a S c as S', f a S ≠ .exc c as S') (h : At K TX b E rel ρ S H ((noExc r).bd f) Q) : At K TX b E' rel ρ S H (r.bd f) Q := by
  cases r with
  | ok v S' =>
    have h : At K TX b E rel ρ S H (f v S') Q := h
    show At K TX b E' rel ρ S H (f v S') Q
    cases e : f v S' with
    | ok w S2 => rw [e] at h; exact h
    | exc c as S2 => exact absurd e (hf _ _ _ _ _)
    | bad => rw [e] at h; exact h
  | exc c as S' => exact h.elim
  | bad => exact h
theorem lc_readN {K : PySem.W.Frag} {t : Tg} {own : List Nat} {it : It} {co : Eo} {e : E} {τ : L2.St} {H : Hp} {Q : VK} (hq : tE K TX b none W (ev C b (.new (.lc t own it co e))) τ H Q) :
    tLc (tI K TX b W (evi C b it)) (gO K TX own t) (tTs K TX b none noW (evc C b co)) (tE K TX b none noW (ev C b e)) ((own.map fun i => ((N[i]?).getD Str.empty, i)).map (·.2)) τ H (lk Q) := by
  obtain ⟨ρ, σ, S, so, eo, h⟩ := hq
  rw [ev, ev] at h
  have h := bd_assoc h
  refine lc_core (Z := fun ys S2 => .ok (.ref S2.len) (S2.push (.lst ys))) so eo (At.mono (At.bd (rel := WalkOk K b) h) fun J H1 ⟨ρ1, w, S1, _, g1, so1, wo, h1⟩ => ⟨ρ1, w, S1, g1, so1, wo, ?_⟩) fun D ρ1 S1 H1 ρi Si acc vs Hc hD so1 gi soi ni hDi rs hz => ?_
  · have h1 := noExc_bd (E' := fun _ _ _ => False) (fun a S c as S' => by cases a <;> (intro z; cases z)) h1
    exact bd_assoc h1
  · exact .inl (hz (ρi ++ [D]) Hc (.ref D) (gi.adopt soi.base hD) (soi.adopt ni hDi rs) (.ref soi.new))
theorem s_lc (cx : Ctx T TX C X W N sc true none) {t : Tg} {own : List Nat} {it : It} {co : Eo} {e : E} {elt iter : Expr} {ifs : List Expr} {scope : Scope} (hb : blkC N sc scope (own.map fun i => ((N[i]?).getD Str.empty, i)) = true)
    (htg : tgB N true (relS scope sc) t tg = true) (hown : ∀ i ∈ t.slots, i ∈ own) (hi : PI X tg iter (tI X.K TX b W (evi C b it))) (hs : ∀ x, foldedSetIterable iter X.env x = pure x)
    (ht : ∀ Y : Cx, Y.K = X.K → Ctx T TX C Y noW N (relS scope sc) true none → PTs Y ifs (tTs Y.K TX b none noW (evc C b co)))
    (he : ∀ Y : Cx, Y.K = X.K → Ctx T TX C Y noW N (relS scope sc) true none → PE Y elt (tE Y.K TX b none noW (ev C b e))) :
    PE X (.ListComp elt [⟨tg, iter, ifs, 0⟩] scope pos) (tE X.K TX b none W (ev C b (.lc t own it co e))) := by
  refine PE.weak (PE.lock (pe_lc (g := gO X.K TX own t) (tt := tTs X.K TX b none noW (evc C b co)) (te := tE X.K TX b none noW (ev C b e)) (cx.calm rfl) (by rw [cx.names]; exact cx.nd) hi (blkOk_by (by rw [cx.names, cx.scope]; exact hb))
    (fun s H A cs fp => g_own (X := X.blk s H scope (compEnvC scope cs A X.env) fp) (TX := TX) (own := own) (cx.calm rfl) cx.names cx.nd (cx.blk s H scope A cs fp).scope (lo := true) (fun q => by cases q) htg hown)
    (fun s H A cs fp => ht (X.blk s H scope (compEnvC scope cs A X.env) fp) rfl (cx.blk s H scope A cs fp)) (fun s H A cs fp => he (X.blk s H scope (compEnvC scope cs A X.env) fp) rfl (cx.blk s H scope A cs fp)) hs)) fun τ H Q q => lc_read q
theorem n_lc (cx : Ctx T TX C X W N sc true none) {t : Tg} {own : List Nat} {it : It} {co : Eo} {e : E} {elt iter : Expr} {ifs : List Expr} {scope : Scope} (hb : blkC N sc scope (own.map fun i => ((N[i]?).getD Str.empty, i)) = true)
    (htg : tgB N true (relS scope sc) t tg = true) (hown : ∀ i ∈ t.slots, i ∈ own) (hi : PI X tg iter (tI X.K TX b W (evi C b it))) (hs : ∀ x, foldedSetIterable iter X.env x = pure x)
    (ht : ∀ Y : Cx, Y.K = X.K → Ctx T TX C Y noW N (relS scope sc) true none → PTs Y ifs (tTs Y.K TX b none noW (evc C b co)))
    (he : ∀ Y : Cx, Y.K = X.K → Ctx T TX C Y noW N (relS scope sc) true none → PE Y elt (tE Y.K TX b none noW (ev C b e))) :
    PE X (.ListComp elt [⟨tg, iter, ifs, 0⟩] scope pos) (tE X.K TX b none W (ev C b (.new (.lc t own it co e)))) := by
  refine PE.weak (PE.lock (pe_lc (g := gO X.K TX own t) (tt := tTs X.K TX b none noW (evc C b co)) (te := tE X.K TX b none noW (ev C b e)) (cx.calm rfl) (by rw [cx.names]; exact cx.nd) hi (blkOk_by (by rw [cx.names, cx.scope]; exact hb))
    (fun s H A cs fp => g_own (X := X.blk s H scope (compEnvC scope cs A X.env) fp) (TX := TX) (own := own) (cx.calm rfl) cx.names cx.nd (cx.blk s H scope A cs fp).scope (lo := true) (fun q => by cases q) htg hown)
    (fun s H A cs fp => ht (X.blk s H scope (compEnvC scope cs A X.env) fp) rfl (cx.blk s H scope A cs fp)) (fun s H A cs fp => he (X.blk s H scope (compEnvC scope cs A X.env) fp) rfl (cx.blk s H scope A cs fp)) hs)) fun τ H Q q => lc_readN q
end
end MP
end
section
set_option Elab.async false
set_option linter.all false
set_option maxRecDepth 100000
set_option maxHeartbeats 1000000
/-! MPSound12: every expression that is looked at runs like its MP. -/
namespace MP
open PySem PySem.Spec PyProof.Rows L2
section
variable [RT] {T : Tab} {TX : Exc} {C : Nat → List PV → Sto → R PV} {N : List Str} {b : Nat}
/-- the attributes of each class have their own names -/
def Tab.ok (T : Tab) : Bool := T.cls.all fun p => decide p.2.1.Nodup
theorem Tab.nd (h : T.ok = true) {k : Nat} {p : Str × List Str × List Str} (e : T.cls[k]? = some p) : p.2.1.Nodup := of_decide_eq_true (List.all_eq_true.mp h p (List.mem_of_getElem? e))
theorem evs_len : ∀ {es : Es} {fs : List Expr} {sc : Scope} {cl : Bool} {hx : Option (Nat × Nat)}, trsB T N sc cl hx es fs = true → ∀ {σ : Env} {S : Sto} {vs : List PV} {S' : Sto}, evs C b es σ S = .ok vs S' → vs.length = fs.length
  | .nil, [], _, _, _, _, σ, S, vs, S', h => by unfold evs at h; cases h; rfl
  | .nil, _ :: _, _, _, _, q, _, _, _, _, _ => by simp [trsB] at q
  | .cons _ _, [], _, _, _, q, _, _, _, _, _ => by simp [trsB] at q
  | .cons e es, f :: fs, _, _, _, q, σ, S, vs, S', h => by
    have q' := Bool.and_eq_true_iff.mp (by simpa [trsB] using q)
    unfold evs at h
    cases h1 : ev C b e σ S with
    | bad => rw [h1] at h; cases h
    | exc c as S1 => rw [h1] at h; cases h
    | ok v S1 =>
      rw [h1] at h
      have h : (evs C b es σ S1).bd (fun vs S2 => R.ok (v :: vs) S2) = .ok vs S' := h
      cases h2 : evs C b es σ S1 with
      | bad => rw [h2] at h; cases h
      | exc c as S2 => rw [h2] at h; cases h
      | ok us S2 =>
        rw [h2] at h
        have ih := evs_len q'.2 h2
        cases h
        simp [ih]
theorem plain_of {sc : Scope} {cl : Bool} {hx : Option (Nat × Nat)} {e : E} {f : Expr} (h : trB T N sc cl hx e f = true) (env : PySem.Env)
    (ne : ∀ op p x, f ≠ .UnaryOp op x p) (nb : ∀ op vs p, f ≠ .BoolOp op vs p) (ni : ∀ t x y p, f ≠ .IfExp t x y p) (nc : ∀ x ops cs p, f ≠ .Compare x ops cs p) :
    ∀ whole, isTrue f env whole = (do let v ← whole; standAt f.pos; holding [v] (truthy v)) := by
  intro whole
  cases f with
  | UnaryOp op x p => exact absurd rfl (ne op p x)
  | BoolOp op vs p => exact absurd rfl (nb op vs p)
  | IfExp t x y p => exact absurd rfl (ni t x y p)
  | Compare x ops cs p => exact absurd rfl (nc x ops cs p)
  | _ => rfl
theorem no_set {sc : Scope} {cl : Bool} {hx : Option (Nat × Nat)} {es : List Expr} {k : Nat} {p : Pos} : ∀ e : E, trB T N sc cl hx e (.Set es k p) = true → False
  | .new e, h => by
    unfold trB at h
    simp only [Bool.and_eq_true] at h
    exact no_set e h.1.1
  | .frz e, h => by
    unfold trB at h
    simp only [Bool.and_eq_true] at h
    exact no_set e h.1.1
  | .var _, h | .cst _, h | .tup _, h | .lst _, h | .bin _ _ _, h | .neg _, h | .not _, h | .and _ _, h | .or _ _, h | .cmp _ _ _, h | .chain _ _ _ _ _, h | .ife _ _ _, h | .ix _ _, h | .slc _ _ _, h | .call _ _, h | .bi _ _, h | .isi _ _, h | .eat _ _, h | .eisi _, h | .lc _ _ _ _ _, h | .att _ _, h | .meth _ _ _ _, h | .mk _ _ _ _, h | .isr _ _, h | .dnew _, h | .dget _ _ _, h | .sdef _ _ _, h | .disp _ _, h | .fstr _, h | .maxD _ _, h => by simp [trB, constB] at h
theorem folded_of {sc : Scope} {it : It} {tg f : Expr} (h : tiB T N sc it tg f = true) (env : PySem.Env) : ∀ x, foldedSetIterable f env x = pure x := by
  intro x
  cases f with
  | Set es k p =>
    exfalso
    cases it with
    | seq e => unfold tiB at h; exact no_set e h
    | rng1 e => simp [tiB] at h
    | rng2 a c => simp [tiB] at h
    | rng3 a c => simp [tiB] at h
    | zip a c => unfold tiB at h; split at h <;> simp_all
    | enum a => unfold tiB at h; split at h <;> simp_all
  | _ => rfl
mutual
theorem sE (hT : T.ok = true) : ∀ (e : E) {f : Expr} {X : Cx} {W : WX} {sc : Scope} {cl : Bool} {ex : Option Held}, Ctx T TX C X W N sc cl ex → trB T N sc cl (hxOf ex) e f = true → PE X f (tE X.K TX b ex W (ev C b e))
  | .var i, f, X, W, sc, cl, ex, cx, h => by
    unfold trB at h
    split at h
    · simp only [Bool.and_eq_true] at h
      obtain ⟨⟨⟨h1, h2⟩, h3⟩, h4⟩ := h
      refine s_var cx h1 h2 h3 fun p hp e => ?_
      rw [hp] at h4
      simp [e] at h4
    · cases h
  | .cst v, f, X, W, sc, cl, ex, cx, h => s_const cx (by unfold trB at h; exact h)
  | .tup es, f, X, W, sc, cl, ex, cx, h => by
    unfold trB at h
    split at h
    · have h' := Bool.and_eq_true_iff.mp h
      exact s_tup (sEs hT es cx h'.1) fun σ S vs S' q => by rw [evs_len h'.1 q]; exact of_decide_eq_true h'.2
    · cases h
  | .lst es, f, X, W, sc, cl, ex, cx, h => by
    unfold trB at h
    split at h
    · have h' := Bool.and_eq_true_iff.mp h
      exact s_lst (sEs hT es cx h'.1) fun σ S vs S' q => by rw [evs_len h'.1 q]; exact of_decide_eq_true h'.2
    · cases h
  | .bin o a c, f, X, W, sc, cl, ex, cx, h => by
    unfold trB at h
    split at h
    · simp only [Bool.and_eq_true] at h
      rw [opB_ok h.1.1]
      exact s_bin cx (sE hT a cx h.1.2) (sE hT c cx h.2)
    · cases h
  | .neg a, f, X, W, sc, cl, ex, cx, h => by
    unfold trB at h
    split at h
    · exact s_neg (sE hT a cx h)
    · cases h
  | .not a, f, X, W, sc, cl, ex, cx, h => by
    unfold trB at h
    split at h
    · exact s_not (sE hT a cx h)
    · cases h
  | .and a c, f, X, W, sc, cl, ex, cx, h => by
    unfold trB at h
    split at h
    · have h' := Bool.and_eq_true_iff.mp h
      exact s_and (sE hT a cx h'.1) (pe_one (sE hT c cx h'.2))
    · have h' := Bool.and_eq_true_iff.mp h
      exact s_and (sE hT a cx h'.1) (sE hT c cx h'.2)
    · cases h
  | .or a c, f, X, W, sc, cl, ex, cx, h => by
    unfold trB at h
    split at h
    · have h' := Bool.and_eq_true_iff.mp h
      exact s_or (sE hT a cx h'.1) (pe_one (sE hT c cx h'.2))
    · have h' := Bool.and_eq_true_iff.mp h
      exact s_or (sE hT a cx h'.1) (sE hT c cx h'.2)
    · cases h
  | .cmp o a c, f, X, W, sc, cl, ex, cx, h => by
    unfold trB at h
    split at h
    · simp only [Bool.and_eq_true, Bool.not_eq_true'] at h
      obtain ⟨⟨⟨h1, h2⟩, h3⟩, h4⟩ := h
      have e := cmB_ok h1
      subst e
      exact s_cmp cx (sE hT a cx h2) (sE hT c cx h3) h4
    · cases h
  | .chain o o' a c d, f, X, W, sc, cl, ex, cx, h => by
    unfold trB at h
    split at h
    · simp only [Bool.and_eq_true, Bool.not_eq_true'] at h
      obtain ⟨⟨⟨⟨⟨h1, h1'⟩, h2⟩, h3⟩, h4⟩, h5⟩ := h
      have e := cmB_ok h1
      have e' := cmB_ok h1'
      subst e
      subst e'
      exact s_chain cx (sE hT a cx h2) (sE hT c cx h3) (sE hT d cx h4) h5
    · cases h
  | .ife c a d, f, X, W, sc, cl, ex, cx, h => by
    unfold trB at h
    split at h
    · simp only [Bool.and_eq_true] at h
      exact s_ife (sT hT c cx h.1.1) (sE hT a cx h.1.2) (sE hT d cx h.2)
    · cases h
  | .ix a c, f, X, W, sc, cl, ex, cx, h => by
    unfold trB at h
    split at h
    · simp only [Bool.and_eq_true, Bool.not_eq_true'] at h
      exact s_ix cx (sE hT a cx h.1.1) (sE hT c cx h.1.2) h.2
    · cases h
  | .slc a lo hi, f, X, W, sc, cl, ex, cx, h => by
    unfold trB at h
    split at h
    · simp only [Bool.and_eq_true] at h
      exact s_slc (sE hT a cx h.1.1) (sEo hT lo cx h.1.2) (sEo hT hi cx h.2)
    · cases h
  | .call n es, f, X, W, sc, cl, ex, cx, h => by
    unfold trB at h
    split at h
    · simp only [Bool.and_eq_true] at h
      obtain ⟨⟨⟨h1, h2⟩, h3⟩, h4⟩ := h
      subst h1
      have hs := h4
      cases es with
      | nil => simp [trsB] at h4
      | cons e1 es1 =>
        have h4' := Bool.and_eq_true_iff.mp (by simpa [trsB] using h4)
        exact s_call cx h2 (of_decide_eq_true h3) (sEs hT (.cons e1 es1) cx hs) (star_of h4'.1 _ _) (stars_of h4'.2 _ _)
    · cases h
  | .bi n es, f, X, W, sc, cl, ex, cx, h => by
    unfold trB at h
    split at h
    · simp only [Bool.and_eq_true] at h
      obtain ⟨⟨⟨⟨h1, h2⟩, h3⟩, h4⟩, h5⟩ := h
      subst h1
      have hs := h5
      cases es with
      | nil => simp [trsB] at h5
      | cons e1 es1 =>
        have h5' := Bool.and_eq_true_iff.mp (by simpa [trsB] using h5)
        exact s_bi cx h2 (of_decide_eq_true h3) h4 (sEs hT (.cons e1 es1) cx hs) (star_of h5'.1 _ _) (stars_of h5'.2 _ _)
    · cases h
  | .isi a t, f, X, W, sc, cl, ex, cx, h => by
    unfold trB at h
    split at h
    · simp only [Bool.and_eq_true] at h
      obtain ⟨⟨⟨⟨⟨⟨h1, h2⟩, h3⟩, h4⟩, h5⟩, h6⟩, h7⟩ := h
      exact s_isi cx h1 h2 (of_decide_eq_true h3) (of_decide_eq_true h4) h5 h6 (sE hT a cx h7) fun es => star_of h7 es _
    · cases h
  | .eat i j, f, X, W, sc, cl, ex, cx, h => by
    unfold trB at h
    split at h
    · split at h
      · rename_i k c hh
        simp only [Bool.and_eq_true] at h
        obtain ⟨⟨⟨⟨h1, h2⟩, h3⟩, h4⟩, h5⟩ := h
        exact s_eat cx hh (of_decide_eq_true h1) h2 h3 h4 (of_decide_eq_true h5) fun p hp => Tab.nd hT hp
      · cases h
    · cases h
  | .eisi i, f, X, W, sc, cl, ex, cx, h => by
    unfold trB at h
    split at h
    · split at h
      · rename_i k c hh
        simp only [Bool.and_eq_true] at h
        obtain ⟨⟨⟨⟨⟨⟨⟨⟨h1, h2⟩, h3⟩, h4⟩, h5⟩, h6⟩, h7⟩, h8⟩, h9⟩ := h
        exact s_eisi cx hh (of_decide_eq_true h1) h2 h3 h4 h5 (of_decide_eq_true h6) h7 h8 h9
      · cases h
    · cases h
  | .lc t own it co e, f, X, W, sc, cl, ex, cx, h => by
    unfold trB at h
    split at h
    · simp only [Bool.and_eq_true] at h
      obtain ⟨⟨⟨⟨⟨⟨⟨h1, h2⟩, h3⟩, h4⟩, h0⟩, h5⟩, h6⟩, h7⟩ := h
      subst h1
      have hn : ex = none := by
        cases ex with
        | none => rfl
        | some x => simp [hxOf] at h2
      subst hn
      refine s_lc cx h3 h4 (fun i hi => of_decide_eq_true (List.all_eq_true.mp h0 i hi)) (sIt hT it cx h5) (folded_of h5 _) (fun Y hY cy => ?_) fun Y hY cy => sE hT e cy h7
      split at h6
      · split at h6
        · exact ⟨fun pins s τ H Q I hq => pts_nil.run pins s τ H Q I (by
            obtain ⟨ρ, σ, S, so, eo, q⟩ := hq
            exact At.ok (rel := relT) so (by unfold evc at q; exact q) rfl)⟩
        · cases h6
      · have h6' := Bool.and_eq_true_iff.mp h6
        cases co with
        | none => exact absurd h6'.2 (by simp)
        | some c =>
          have q := h6'.1
          unfold troB at q
          have p := sT hT c (ex := none) cy q
          refine ⟨fun pins s τ H Q I hq => (pts_one p).run pins s τ H Q I ?_⟩
          obtain ⟨ρ, σ, S, so, eo, q⟩ := hq
          exact ⟨ρ, σ, S, so, eo, by unfold evc at q; exact q⟩
      · cases h6
    · cases h
  | .new (.lst es), f, X, W, sc, cl, ex, cx, h => by
    unfold trB at h
    simp only [Bool.and_eq_true] at h
    have h := h.1.1
    unfold trB at h
    split at h
    · have h' := Bool.and_eq_true_iff.mp h
      exact n_lst (sEs hT es cx h'.1) fun σ S vs S' q => by rw [evs_len h'.1 q]; exact of_decide_eq_true h'.2
    · cases h
  | .new (.bin o a c), f, X, W, sc, cl, ex, cx, h => by
    unfold trB at h
    simp only [Bool.and_eq_true] at h
    have h := h.1.1
    unfold trB at h
    split at h
    · simp only [Bool.and_eq_true] at h
      rw [opB_ok h.1.1]
      exact n_bin cx (sE hT a cx h.1.2) (sE hT c cx h.2)
    · cases h
  | .new (.slc a lo hi), f, X, W, sc, cl, ex, cx, h => by
    unfold trB at h
    simp only [Bool.and_eq_true] at h
    have h := h.1.1
    unfold trB at h
    split at h
    · simp only [Bool.and_eq_true] at h
      exact n_slc (sE hT a cx h.1.1) (sEo hT lo cx h.1.2) (sEo hT hi cx h.2)
    · cases h
  | .new (.bi n es), f, X, W, sc, cl, ex, cx, h => by
    unfold trB at h
    simp only [Bool.and_eq_true] at h
    have hf : n = .list ∨ n = .sorted := by
      have z := h.1.2
      cases n <;> first | exact .inl rfl | exact .inr rfl | cases z
    have h := h.1.1
    unfold trB at h
    split at h
    · simp only [Bool.and_eq_true] at h
      obtain ⟨⟨⟨⟨h1, h2⟩, h3⟩, h4⟩, h5⟩ := h
      subst h1
      have hs := h5
      cases es with
      | nil => simp [trsB] at h5
      | cons e1 es1 =>
        have h5' := Bool.and_eq_true_iff.mp (by simpa [trsB] using h5)
        exact n_bi cx hf h2 (of_decide_eq_true h3) h4 (sEs hT (.cons e1 es1) cx hs) (star_of h5'.1 _ _) (stars_of h5'.2 _ _)
    · cases h
  | .new (.lc t own it co e), f, X, W, sc, cl, ex, cx, h => by
    unfold trB at h
    simp only [Bool.and_eq_true] at h
    have h := h.1.1
    unfold trB at h
    split at h
    · simp only [Bool.and_eq_true] at h
      obtain ⟨⟨⟨⟨⟨⟨⟨h1, h2⟩, h3⟩, h4⟩, h0⟩, h5⟩, h6⟩, h7⟩ := h
      subst h1
      have hn : ex = none := by
        cases ex with
        | none => rfl
        | some x => simp [hxOf] at h2
      subst hn
      refine n_lc cx h3 h4 (fun i hi => of_decide_eq_true (List.all_eq_true.mp h0 i hi)) (sIt hT it cx h5) (folded_of h5 _) (fun Y hY cy => ?_) fun Y hY cy => sE hT e cy h7
      split at h6
      · split at h6
        · exact ⟨fun pins s τ H Q I hq => pts_nil.run pins s τ H Q I (by
            obtain ⟨ρ, σ, S, so, eo, q⟩ := hq
            exact At.ok (rel := relT) so (by unfold evc at q; exact q) rfl)⟩
        · cases h6
      · have h6' := Bool.and_eq_true_iff.mp h6
        cases co with
        | none => exact absurd h6'.2 (by simp)
        | some c =>
          have q := h6'.1
          unfold troB at q
          have p := sT hT c (ex := none) cy q
          refine ⟨fun pins s τ H Q I hq => (pts_one p).run pins s τ H Q I ?_⟩
          obtain ⟨ρ, σ, S, so, eo, q⟩ := hq
          exact ⟨ρ, σ, S, so, eo, by unfold evc at q; exact q⟩
      · cases h6
    · cases h
  | .new (.var _), f, X, W, sc, cl, ex, cx, h => by
    unfold trB at h
    simp [E.fresh] at h
  | .new (.cst _), f, X, W, sc, cl, ex, cx, h => by
    unfold trB at h
    simp [E.fresh] at h
  | .new (.tup _), f, X, W, sc, cl, ex, cx, h => by
    unfold trB at h
    simp [E.fresh] at h
  | .new (.neg _), f, X, W, sc, cl, ex, cx, h => by
    unfold trB at h
    simp [E.fresh] at h
  | .new (.not _), f, X, W, sc, cl, ex, cx, h => by
    unfold trB at h
    simp [E.fresh] at h
  | .new (.and _ _), f, X, W, sc, cl, ex, cx, h => by
    unfold trB at h
    simp [E.fresh] at h
  | .new (.or _ _), f, X, W, sc, cl, ex, cx, h => by
    unfold trB at h
    simp [E.fresh] at h
  | .new (.cmp _ _ _), f, X, W, sc, cl, ex, cx, h => by
    unfold trB at h
    simp [E.fresh] at h
  | .new (.chain _ _ _ _ _), f, X, W, sc, cl, ex, cx, h => by
    unfold trB at h
    simp [E.fresh] at h
  | .new (.ife _ _ _), f, X, W, sc, cl, ex, cx, h => by
    unfold trB at h
    simp [E.fresh] at h
  | .new (.ix _ _), f, X, W, sc, cl, ex, cx, h => by
    unfold trB at h
    simp [E.fresh] at h
  | .new (.call _ _), f, X, W, sc, cl, ex, cx, h => by
    unfold trB at h
    simp [E.fresh] at h
  | .new (.isi _ _), f, X, W, sc, cl, ex, cx, h => by
    unfold trB at h
    simp [E.fresh] at h
  | .new (.eat _ _), f, X, W, sc, cl, ex, cx, h => by
    unfold trB at h
    simp [E.fresh] at h
  | .new (.eisi _), f, X, W, sc, cl, ex, cx, h => by
    unfold trB at h
    simp [E.fresh] at h
  | .new (.new _), f, X, W, sc, cl, ex, cx, h => by
    unfold trB at h
    simp [E.fresh] at h
  | .new (.frz _), f, X, W, sc, cl, ex, cx, h => by
    unfold trB at h
    simp [E.fresh] at h
  | .new (.att _ _), f, X, W, sc, cl, ex, cx, h => by
    unfold trB at h
    simp [E.fresh] at h
  | .new (.meth _ _ _ _), f, X, W, sc, cl, ex, cx, h => by
    unfold trB at h
    simp [E.fresh] at h
  | .new (.mk _ _ _ _), f, X, W, sc, cl, ex, cx, h => by
    unfold trB at h
    simp [E.fresh] at h
  | .new (.isr _ _), f, X, W, sc, cl, ex, cx, h => by
    unfold trB at h
    simp [E.fresh] at h
  | .new (.dnew _), f, X, W, sc, cl, ex, cx, h => by
    unfold trB at h
    simp [E.fresh] at h
  | .new (.dget _ _ _), f, X, W, sc, cl, ex, cx, h => by
    unfold trB at h
    simp [E.fresh] at h
  | .new (.sdef _ _ _), f, X, W, sc, cl, ex, cx, h => by
    unfold trB at h
    simp [E.fresh] at h
  | .new (.disp _ _), f, X, W, sc, cl, ex, cx, h => by
    unfold trB at h
    simp [E.fresh] at h
  | .new (.fstr _), f, X, W, sc, cl, ex, cx, h => by
    unfold trB at h
    simp [E.fresh] at h
  | .new (.maxD _ _), f, X, W, sc, cl, ex, cx, h => by
    unfold trB at h
    simp [E.fresh] at h
  | .frz e, f, X, W, sc, cl, ex, cx, h => by
    unfold trB at h
    simp only [Bool.and_eq_true] at h
    exact s_frz (sE hT e cx h.1.1)
  | .att e ps, f, X, W, sc, cl, ex, cx, h => by
    unfold trB at h
    split at h
    · simp only [Bool.and_eq_true] at h
      exact s_att cx (sE hT e cx h.1.1) h.1.2 h.2
    · cases h
  | .meth _ _ _ _, f, X, W, sc, cl, ex, cx, h => by simp [trB] at h
  | .mk _ _ _ _, f, X, W, sc, cl, ex, cx, h => by simp [trB] at h
  | .isr _ _, f, X, W, sc, cl, ex, cx, h => by simp [trB] at h
  | .dnew _, f, X, W, sc, cl, ex, cx, h => by simp [trB] at h
  | .dget _ _ _, f, X, W, sc, cl, ex, cx, h => by simp [trB] at h
  | .sdef _ _ _, f, X, W, sc, cl, ex, cx, h => by simp [trB] at h
  | .disp _ _, f, X, W, sc, cl, ex, cx, h => by simp [trB] at h
  | .fstr _, f, X, W, sc, cl, ex, cx, h => by simp [trB] at h
  | .maxD _ _, f, X, W, sc, cl, ex, cx, h => by simp [trB] at h
theorem sT (hT : T.ok = true) : ∀ (e : E) {f : Expr} {X : Cx} {W : WX} {sc : Scope} {cl : Bool} {ex : Option Held}, Ctx T TX C X W N sc cl ex → trB T N sc cl (hxOf ex) e f = true → PT X f (tTs X.K TX b ex W (evT C b e))
  | .not a, f, X, W, sc, cl, ex, cx, h => by
    unfold trB at h
    split at h
    · exact t_not (sT hT a cx h)
    · cases h
  | .and a c, f, X, W, sc, cl, ex, cx, h => by
    unfold trB at h
    split at h
    · have h' := Bool.and_eq_true_iff.mp h
      exact (t_and (sT hT a cx h'.1) (pw_and1 (sT hT c cx h'.2))).pt
    · have h' := Bool.and_eq_true_iff.mp h
      exact (t_and (sT hT a cx h'.1) (sW hT c .And rfl cx h'.2)).pt
    · cases h
  | .or a c, f, X, W, sc, cl, ex, cx, h => by
    unfold trB at h
    split at h
    · have h' := Bool.and_eq_true_iff.mp h
      exact (t_or (sT hT a cx h'.1) (pw_or1 (sT hT c cx h'.2))).pt
    · have h' := Bool.and_eq_true_iff.mp h
      exact (t_or (sT hT a cx h'.1) (sW hT c .Or rfl cx h'.2)).pt
    · cases h
  | .cmp o a c, f, X, W, sc, cl, ex, cx, h => by
    unfold trB at h
    split at h
    · simp only [Bool.and_eq_true, Bool.not_eq_true'] at h
      obtain ⟨⟨⟨h1, h2⟩, h3⟩, h4⟩ := h
      have e := cmB_ok h1
      subst e
      exact t_cmp cx (sE hT a cx h2) (sE hT c cx h3) h4
    · cases h
  | .chain o o' a c d, f, X, W, sc, cl, ex, cx, h => by
    unfold trB at h
    split at h
    · simp only [Bool.and_eq_true, Bool.not_eq_true'] at h
      obtain ⟨⟨⟨⟨⟨h1, h1'⟩, h2⟩, h3⟩, h4⟩, h5⟩ := h
      have e := cmB_ok h1
      have e' := cmB_ok h1'
      subst e
      subst e'
      exact t_chain cx (sE hT a cx h2) (sE hT c cx h3) (sE hT d cx h4) h5
    · cases h
  | .var i, f, X, W, sc, cl, ex, cx, h => by
    unfold trB at h
    split at h
    · simp only [Bool.and_eq_true] at h
      obtain ⟨⟨⟨h1, h2⟩, h3⟩, h4⟩ := h
      refine t_tru (s_var cx h1 h2 h3 fun p hp e => ?_) (fun σ S => ?_) fun _ => rfl
      · rw [hp] at h4
        simp [e] at h4
      · rw [evT, ev]
        split <;> rfl
    · cases h
  | .ix a c, f, X, W, sc, cl, ex, cx, h => by
    have h0 := h
    unfold trB at h
    split at h
    · simp only [Bool.and_eq_true, Bool.not_eq_true'] at h
      have p := s_ix (pos := by assumption) cx (sE hT a cx h.1.1) (sE hT c cx h.1.2) h.2
      refine t_tru p (fun σ S => ?_) fun _ => rfl
      rw [evT, ev]
      cases ev C b a σ S with
      | ok v S1 =>
        show ((ev C b c σ S1).bd _) = ((ev C b c σ S1).bd _).bd _
        cases ev C b c σ S1 <;> rfl
      | exc c as S1 => rfl
      | bad => rfl
    · cases h
  | .call n es, f, X, W, sc, cl, ex, cx, h => by
    have h0 := h
    unfold trB at h
    split at h
    · simp only [Bool.and_eq_true] at h
      obtain ⟨⟨⟨h1, h2⟩, h3⟩, h4⟩ := h
      subst h1
      have hs := h4
      cases es with
      | nil => simp [trsB] at h4
      | cons e1 es1 =>
        have h4' := Bool.and_eq_true_iff.mp (by simpa [trsB] using h4)
        exact t_tru (s_call cx h2 (of_decide_eq_true h3) (sEs hT (.cons e1 es1) cx hs) (star_of h4'.1 _ _) (stars_of h4'.2 _ _)) (fun σ S => by rw [evT, ev]) fun _ => rfl
    · cases h
  | .bi n es, f, X, W, sc, cl, ex, cx, h => by
    have h0 := h
    unfold trB at h
    split at h
    · simp only [Bool.and_eq_true] at h
      obtain ⟨⟨⟨⟨h1, h2⟩, h3⟩, h4⟩, h5⟩ := h
      subst h1
      have hs := h5
      cases es with
      | nil => simp [trsB] at h5
      | cons e1 es1 =>
        have h5' := Bool.and_eq_true_iff.mp (by simpa [trsB] using h5)
        exact t_tru (s_bi cx h2 (of_decide_eq_true h3) h4 (sEs hT (.cons e1 es1) cx hs) (star_of h5'.1 _ _) (stars_of h5'.2 _ _)) (fun σ S => by rw [evT, ev]) fun _ => rfl
    · cases h
  | .isi a t, f, X, W, sc, cl, ex, cx, h => by
    unfold trB at h
    split at h
    · simp only [Bool.and_eq_true] at h
      obtain ⟨⟨⟨⟨⟨⟨h1, h2⟩, h3⟩, h4⟩, h5⟩, h6⟩, h7⟩ := h
      refine t_val (s_isi cx h1 h2 (of_decide_eq_true h3) (of_decide_eq_true h4) h5 h6 (sE hT a cx h7) fun es => star_of h7 es _) (fun σ S => ?_) fun _ => rfl
      rw [evT, ev]
      cases ev C b a σ S <;> rfl
    · cases h
  | .eisi i, f, X, W, sc, cl, ex, cx, h => by
    unfold trB at h
    split at h
    · split at h
      · rename_i k c hh
        simp only [Bool.and_eq_true] at h
        obtain ⟨⟨⟨⟨⟨⟨⟨⟨h1, h2⟩, h3⟩, h4⟩, h5⟩, h6⟩, h7⟩, h8⟩, h9⟩ := h
        refine t_val (s_eisi cx hh (of_decide_eq_true h1) h2 h3 h4 h5 (of_decide_eq_true h6) h7 h8 h9) (fun σ S => ?_) fun _ => rfl
        rw [evT, ev]
        split <;> rfl
      · cases h
    · cases h
  | .att e ps, f, X, W, sc, cl, ex, cx, h => by
    have h0 := h
    unfold trB at h
    split at h
    · simp only [Bool.and_eq_true] at h
      exact t_tru (s_att cx (sE hT e cx h.1.1) h.1.2 h.2) (fun σ S => by rw [evT, ev]) fun _ => rfl
    · cases h
  | .meth _ _ _ _, f, X, W, sc, cl, ex, cx, h => by simp [trB] at h
  | .isr _ _, f, X, W, sc, cl, ex, cx, h => by simp [trB] at h
  | .new _, _, X, W, sc, cl, ex, cx, h => ⟨fun _ _ _ _ _ _ ⟨ρ, σ, S, so, eo, q⟩ => by unfold evT at q; exact q.elim⟩
  | .frz _, _, X, W, sc, cl, ex, cx, h => ⟨fun _ _ _ _ _ _ ⟨ρ, σ, S, so, eo, q⟩ => by unfold evT at q; exact q.elim⟩
  | .mk _ _ _ _, _, X, W, sc, cl, ex, cx, h => ⟨fun _ _ _ _ _ _ ⟨ρ, σ, S, so, eo, q⟩ => by unfold evT at q; exact q.elim⟩
  | .dnew _, _, X, W, sc, cl, ex, cx, h => ⟨fun _ _ _ _ _ _ ⟨ρ, σ, S, so, eo, q⟩ => by unfold evT at q; exact q.elim⟩
  | .dget _ _ _, _, X, W, sc, cl, ex, cx, h => ⟨fun _ _ _ _ _ _ ⟨ρ, σ, S, so, eo, q⟩ => by unfold evT at q; exact q.elim⟩
  | .sdef _ _ _, _, X, W, sc, cl, ex, cx, h => ⟨fun _ _ _ _ _ _ ⟨ρ, σ, S, so, eo, q⟩ => by unfold evT at q; exact q.elim⟩
  | .disp _ _, _, X, W, sc, cl, ex, cx, h => ⟨fun _ _ _ _ _ _ ⟨ρ, σ, S, so, eo, q⟩ => by unfold evT at q; exact q.elim⟩
  | .fstr _, _, X, W, sc, cl, ex, cx, h => ⟨fun _ _ _ _ _ _ ⟨ρ, σ, S, so, eo, q⟩ => by unfold evT at q; exact q.elim⟩
  | .maxD _ _, _, X, W, sc, cl, ex, cx, h => ⟨fun _ _ _ _ _ _ ⟨ρ, σ, S, so, eo, q⟩ => by unfold evT at q; exact q.elim⟩
  | .cst _, _, X, W, sc, cl, ex, cx, h => ⟨fun _ _ _ _ _ _ ⟨ρ, σ, S, so, eo, q⟩ => by unfold evT at q; exact q.elim⟩
  | .tup _, _, X, W, sc, cl, ex, cx, h => ⟨fun _ _ _ _ _ _ ⟨ρ, σ, S, so, eo, q⟩ => by unfold evT at q; exact q.elim⟩
  | .lst _, _, X, W, sc, cl, ex, cx, h => ⟨fun _ _ _ _ _ _ ⟨ρ, σ, S, so, eo, q⟩ => by unfold evT at q; exact q.elim⟩
  | .bin _ _ _, _, X, W, sc, cl, ex, cx, h => ⟨fun _ _ _ _ _ _ ⟨ρ, σ, S, so, eo, q⟩ => by unfold evT at q; exact q.elim⟩
  | .neg _, _, X, W, sc, cl, ex, cx, h => ⟨fun _ _ _ _ _ _ ⟨ρ, σ, S, so, eo, q⟩ => by unfold evT at q; exact q.elim⟩
  | .ife _ _ _, _, X, W, sc, cl, ex, cx, h => ⟨fun _ _ _ _ _ _ ⟨ρ, σ, S, so, eo, q⟩ => by unfold evT at q; exact q.elim⟩
  | .slc _ _ _, _, X, W, sc, cl, ex, cx, h => ⟨fun _ _ _ _ _ _ ⟨ρ, σ, S, so, eo, q⟩ => by unfold evT at q; exact q.elim⟩
  | .eat _ _, _, X, W, sc, cl, ex, cx, h => ⟨fun _ _ _ _ _ _ ⟨ρ, σ, S, so, eo, q⟩ => by unfold evT at q; exact q.elim⟩
  | .lc _ _ _ _ _, _, X, W, sc, cl, ex, cx, h => ⟨fun _ _ _ _ _ _ ⟨ρ, σ, S, so, eo, q⟩ => by unfold evT at q; exact q.elim⟩
/-- the rest of a chain of and, or -/
theorem sW (hT : T.ok = true) : ∀ (e : E) {f : Expr} {X : Cx} {W : WX} {sc : Scope} {cl : Bool} {ex : Option Held} (op : BoolOp) {x y : Expr} {r : List Expr} {p : Pos}, f = .BoolOp op (x :: y :: r) p → Ctx T TX C X W N sc cl ex → trB T N sc cl (hxOf ex) e f = true → PW X f (tTs X.K TX b ex W (evT C b e))
  | .and a c, f, X, W, sc, cl, ex, op, _, _, _, _, hf, cx, h => by
    unfold trB at h
    split at h
    · have h' := Bool.and_eq_true_iff.mp h
      exact (t_and (sT hT a cx h'.1) (pw_and1 (sT hT c cx h'.2)))
    · have h' := Bool.and_eq_true_iff.mp h
      exact (t_and (sT hT a cx h'.1) (sW hT c .And rfl cx h'.2))
    · cases h
  | .or a c, f, X, W, sc, cl, ex, op, _, _, _, _, hf, cx, h => by
    unfold trB at h
    split at h
    · have h' := Bool.and_eq_true_iff.mp h
      exact (t_or (sT hT a cx h'.1) (pw_or1 (sT hT c cx h'.2)))
    · have h' := Bool.and_eq_true_iff.mp h
      exact (t_or (sT hT a cx h'.1) (sW hT c .Or rfl cx h'.2))
    · cases h
  | .var _, f, X, W, sc, cl, ex, op, _, _, _, _, hf, cx, h => by subst hf; simp [trB, constB] at h
  | .cst _, f, X, W, sc, cl, ex, op, _, _, _, _, hf, cx, h => by subst hf; simp [trB, constB] at h
  | .tup _, f, X, W, sc, cl, ex, op, _, _, _, _, hf, cx, h => by subst hf; simp [trB, constB] at h
  | .lst _, f, X, W, sc, cl, ex, op, _, _, _, _, hf, cx, h => by subst hf; simp [trB, constB] at h
  | .bin _ _ _, f, X, W, sc, cl, ex, op, _, _, _, _, hf, cx, h => by subst hf; simp [trB, constB] at h
  | .neg _, f, X, W, sc, cl, ex, op, _, _, _, _, hf, cx, h => by subst hf; simp [trB, constB] at h
  | .not _, f, X, W, sc, cl, ex, op, _, _, _, _, hf, cx, h => by subst hf; simp [trB, constB] at h
  | .cmp _ _ _, f, X, W, sc, cl, ex, op, _, _, _, _, hf, cx, h => by subst hf; simp [trB, constB] at h
  | .chain _ _ _ _ _, f, X, W, sc, cl, ex, op, _, _, _, _, hf, cx, h => by subst hf; simp [trB, constB] at h
  | .ife _ _ _, f, X, W, sc, cl, ex, op, _, _, _, _, hf, cx, h => by subst hf; simp [trB, constB] at h
  | .ix _ _, f, X, W, sc, cl, ex, op, _, _, _, _, hf, cx, h => by subst hf; simp [trB, constB] at h
  | .slc _ _ _, f, X, W, sc, cl, ex, op, _, _, _, _, hf, cx, h => by subst hf; simp [trB, constB] at h
  | .call _ _, f, X, W, sc, cl, ex, op, _, _, _, _, hf, cx, h => by subst hf; simp [trB, constB] at h
  | .bi _ _, f, X, W, sc, cl, ex, op, _, _, _, _, hf, cx, h => by subst hf; simp [trB, constB] at h
  | .isi _ _, f, X, W, sc, cl, ex, op, _, _, _, _, hf, cx, h => by subst hf; simp [trB, constB] at h
  | .eat _ _, f, X, W, sc, cl, ex, op, _, _, _, _, hf, cx, h => by subst hf; simp [trB, constB] at h
  | .eisi _, f, X, W, sc, cl, ex, op, _, _, _, _, hf, cx, h => by subst hf; simp [trB, constB] at h
  | .lc _ _ _ _ _, f, X, W, sc, cl, ex, op, _, _, _, _, hf, cx, h => by subst hf; simp [trB, constB] at h
  | .new _, _, X, W, sc, cl, ex, op, _, _, _, _, hf, cx, h => ⟨fun _ _ _ _ _ _ _ ⟨ρ, σ, S, so, eo, q⟩ => by unfold evT at q; exact q.elim⟩
  | .frz _, _, X, W, sc, cl, ex, op, _, _, _, _, hf, cx, h => ⟨fun _ _ _ _ _ _ _ ⟨ρ, σ, S, so, eo, q⟩ => by unfold evT at q; exact q.elim⟩
  | .mk _ _ _ _, _, X, W, sc, cl, ex, op, _, _, _, _, hf, cx, h => ⟨fun _ _ _ _ _ _ _ ⟨ρ, σ, S, so, eo, q⟩ => by unfold evT at q; exact q.elim⟩
  | .dnew _, _, X, W, sc, cl, ex, op, _, _, _, _, hf, cx, h => ⟨fun _ _ _ _ _ _ _ ⟨ρ, σ, S, so, eo, q⟩ => by unfold evT at q; exact q.elim⟩
  | .dget _ _ _, _, X, W, sc, cl, ex, op, _, _, _, _, hf, cx, h => ⟨fun _ _ _ _ _ _ _ ⟨ρ, σ, S, so, eo, q⟩ => by unfold evT at q; exact q.elim⟩
  | .sdef _ _ _, _, X, W, sc, cl, ex, op, _, _, _, _, hf, cx, h => ⟨fun _ _ _ _ _ _ _ ⟨ρ, σ, S, so, eo, q⟩ => by unfold evT at q; exact q.elim⟩
  | .disp _ _, _, X, W, sc, cl, ex, op, _, _, _, _, hf, cx, h => ⟨fun _ _ _ _ _ _ _ ⟨ρ, σ, S, so, eo, q⟩ => by unfold evT at q; exact q.elim⟩
  | .fstr _, _, X, W, sc, cl, ex, op, _, _, _, _, hf, cx, h => ⟨fun _ _ _ _ _ _ _ ⟨ρ, σ, S, so, eo, q⟩ => by unfold evT at q; exact q.elim⟩
  | .maxD _ _, _, X, W, sc, cl, ex, op, _, _, _, _, hf, cx, h => ⟨fun _ _ _ _ _ _ _ ⟨ρ, σ, S, so, eo, q⟩ => by unfold evT at q; exact q.elim⟩
  | .att _ _, f, X, W, sc, cl, ex, op, _, _, _, _, hf, cx, h => by subst hf; simp [trB, constB] at h
  | .meth _ _ _ _, f, X, W, sc, cl, ex, op, _, _, _, _, hf, cx, h => by subst hf; simp [trB, constB] at h
  | .isr _ _, f, X, W, sc, cl, ex, op, _, _, _, _, hf, cx, h => by subst hf; simp [trB, constB] at h
theorem sEs (hT : T.ok = true) : ∀ (es : Es) {fs : List Expr} {X : Cx} {W : WX} {sc : Scope} {cl : Bool} {ex : Option Held}, Ctx T TX C X W N sc cl ex → trsB T N sc cl (hxOf ex) es fs = true → PA X fs (tAs X.K TX b ex W (evs C b es))
  | .nil, [], X, W, sc, cl, ex, cx, h => a_nil
  | .nil, _ :: _, X, W, sc, cl, ex, cx, h => by simp [trsB] at h
  | .cons _ _, [], X, W, sc, cl, ex, cx, h => by simp [trsB] at h
  | .cons e es, f :: fs, X, W, sc, cl, ex, cx, h => by
    have h' := Bool.and_eq_true_iff.mp (by simpa [trsB] using h)
    exact a_cons (sE hT e cx h'.1) (sEs hT es cx h'.2) (star_of h'.1 _ _)
theorem sEo (hT : T.ok = true) : ∀ (e : Eo) {f : Option Expr} {X : Cx} {W : WX} {sc : Scope} {cl : Bool} {ex : Option Held}, Ctx T TX C X W N sc cl ex → troB T N sc cl (hxOf ex) e f = true → PO X f (tOs X.K TX b ex W (evo C b e))
  | .none, none, X, W, sc, cl, ex, cx, h => o_none
  | .none, some _, X, W, sc, cl, ex, cx, h => by simp [troB] at h
  | .some e, none, X, W, sc, cl, ex, cx, h => by simp [troB] at h
  | .some e, some f, X, W, sc, cl, ex, cx, h => o_some (sE hT e cx (by unfold troB at h; exact h))
theorem sIt (hT : T.ok = true) : ∀ (it : It) {tg f : Expr} {X : Cx} {W : WX} {sc : Scope}, Ctx T TX C X W N sc true none → tiB T N sc it tg f = true → PI X tg f (tI X.K TX b W (evi C b it))
  | .seq e, tg, f, X, W, sc, cx, h => i_seq (sE hT e cx (by unfold tiB at h; exact h))
  | .rng1 e, tg, f, X, W, sc, cx, h => by
    unfold tiB at h
    split at h
    · simp only [Bool.and_eq_true] at h
      obtain ⟨⟨⟨h1, h2⟩, h3⟩, h4⟩ := h
      have e2 := of_decide_eq_true h2
      subst e2
      exact i_rng1 (cx.gl h1).1 ((cx.free _ h3).2 (by decide +kernel)) (sE hT e cx h4) (star_of h4 _ _)
    · cases h
  | .rng2 a c, tg, f, X, W, sc, cx, h => by
    unfold tiB at h
    split at h
    · simp only [Bool.and_eq_true] at h
      obtain ⟨⟨⟨⟨h1, h2⟩, h3⟩, h4⟩, h5⟩ := h
      have e2 := of_decide_eq_true h2
      subst e2
      exact i_rng2 (cx.gl h1).1 ((cx.free _ h3).2 (by decide +kernel)) (sE hT a cx h4) (sE hT c cx h5) (fun es => star_of h4 es _) (star_of h5 _ _)
    · cases h
  | .rng3 a c, tg, f, X, W, sc, cx, h => by
    unfold tiB at h
    split at h
    · simp only [Bool.and_eq_true] at h
      obtain ⟨⟨⟨⟨h1, h2⟩, h3⟩, h4⟩, h5⟩ := h
      have e2 := of_decide_eq_true h2
      subst e2
      exact i_rng3 (cx.gl h1).1 ((cx.free _ h3).2 (by decide +kernel)) (sE hT a cx h4) (sE hT c cx h5) (fun es => star_of h4 es _) (fun es => star_of h5 es _)
    · cases h
  | .zip a c, tg, f, X, W, sc, cx, h => by
    unfold tiB at h
    split at h
    · simp only [Bool.and_eq_true] at h
      obtain ⟨⟨⟨⟨h1, h2⟩, h3⟩, h4⟩, h5⟩ := h
      have e2 := of_decide_eq_true h2
      subst e2
      exact i_zip (cx.gl h1).1 ((cx.free _ h3).2 (by decide +kernel)) (sE hT a cx h4) (sE hT c cx h5) (fun es => star_of h4 es _) (star_of h5 _ _)
    · cases h
  | .enum a, tg, f, X, W, sc, cx, h => by
    unfold tiB at h
    split at h
    · simp only [Bool.and_eq_true] at h
      obtain ⟨⟨⟨h1, h2⟩, h3⟩, h4⟩ := h
      have e2 := of_decide_eq_true h2
      subst e2
      exact i_enum (cx.gl h1).1 ((cx.free _ h3).2 (by decide +kernel)) (sE hT a cx h4) (star_of h4 _ _)
    · cases h
end
end
end MP
end
section
set_option Elab.async false
set_option linter.all false
set_option maxRecDepth 100000
set_option maxHeartbeats 1000000
/-! MPSound13: the look at statements; forms of statements. -/
namespace MP
open PySem PySem.Spec PyProof.Rows L2
section
variable (T : Tab) (N : List Str)
/-- a value that is no comprehension and may be given to names -/
def notComp : Expr → Bool
  | .ListComp _ _ _ _ => false
  | .SetComp _ _ _ _ => false
  | .DictComp _ _ _ _ _ => false
  | _ => true
/-- a tuple that is written out is unpacked as it stands only if its parts are constants -/
def unpackB : Expr → Bool
  | .Tuple vs _ _ => vs.all (foldedForSure 8)
  | _ => true
def isLc : E → Bool
  | .lc _ _ _ _ _ => true
  | .new (.lc _ _ _ _ _) => true
  | _ => false
mutual
def trS (sc : Scope) (cl : Bool) (hx : Option (Nat × Nat)) : St → Stmt → Bool
  | .asg t e, s => match s with
    | .Assign [g] v pos => match t with
      | .of (.name i) => match g with
        | .Name x p => atB N i x && locB sc x && !(hx.any fun q => decide (q.1 = i)) && trB T N sc cl hx e v && (notComp v || match v with
          | .ListComp _ _ s vp => isLc e && cl && decide (sc.kind = .function) && kindB sc x .local && (p.line == vp.line) && !(s.names.any fun q => q.1 == x && (q.2 == .local || q.2 == .cell))
          | _ => false)
        | _ => false
      | .of (.tup ts) => cl && tgB N false sc (.tup ts) g && trB T N sc cl hx e v && notComp v && unpackB v
      | .sub a i => cl && (match g with
        | .Subscript x y _ => trB T N sc cl hx a x && trB T N sc cl hx i y && !isSlice y
        | _ => false) && trB T N sc cl hx e v && notComp v
      | .att _ _ => false
    | _ => false
  | .augA _ _ _, _ => false
  | .par i j a c, s => match s with
    | .Assign [.Tuple [.Name x px, .Name y py] _ _] (.Tuple [u, v] _ _) _ => cl && atB N i x && atB N j y && !decide (i = j) && kindB sc x .local && kindB sc y .local && decide (sc.kind = .function) && (px.line == py.line) && !decide (x = y)
        && !([u, v].all (foldedForSure 8)) && !([u, v].all (constantsAlone 8)) && trB T N sc cl hx a u && trB T N sc cl hx c v
    | _ => false
  | .aug i o e, s => match s with
    | .AugAssign (.Name x _) .Add v _ => cl && (match o with
      | .add => true
      | _ => false) && atB N i x && locB sc x && trB T N sc cl hx e v
    | _ => false
  | .expr e, s => match s with
    | .Expr v _ => trB T N sc cl hx e v && notComp v
    | _ => false
  | .append a e, s => match s with
    | .Expr (.Call (.Attribute x f ap) [v] [] cp) _ => cl && decide (f = "append") && (ap.endLine == cp.line) && trB T N sc cl hx a x && trB T N sc cl hx e v && (match x with
      | .Name _ _ => true
      | .Subscript _ _ _ => true
      | _ => false)
    | _ => false
  | .ifs c p q, s => match s with
    | .If t u v _ => trB T N sc cl hx c t && trSs sc cl hx p u && trSs sc cl hx q v
    | _ => false
  | .fors t it p, s => match s with
    | .For g f u [] _ => cl && hx.isNone && tgB N false sc t g && tiB T N sc it g f && trSs sc cl hx p u
    | _ => false
  | .whiles c p, s => match s with
    | .While t u [] _ => cl && hx.isNone && trB T N sc cl hx c t && trSs sc cl hx p u
    | _ => false
  | .ret e, s => match s with
    | .Return (some v) _ => trB T N sc cl hx e v
    | _ => false
  | .retN, s => match s with
    | .Return none _ => true
    | _ => false
  | .raise c es, s => match s with
    | .Raise (some (.Call (.Name x _) [] [] _)) none _ => cl && gloB sc x && decide ((T.cls[c]?.map fun p => (p.1, p.2.1)) = some (x, [])) && (match es with
      | .nil => true
      | _ => false)
    | _ => false
  | .tryo p c i h, s => match s with
    | .Try u [.ExceptHandler (some (.Name x _)) n (v :: vs) _] [] [] _ => cl && hx.isNone && gloB sc x && decide ((T.cls[c]?.map (·.1)) = some x) && trSs sc cl hx p u && (match i, n with
      | some k, some y => atB N k y && kindB sc y .local && trSs sc false (some (k, c)) h (v :: vs)
      | none, none => trSs sc false none h (v :: vs)
      | _, _ => false)
    | _ => false
  | .pass, s => match s with
    | .Pass _ => true
    | _ => false
  | .brk, s => match s with
    | .Break _ => true
    | _ => false
  | .cont, s => match s with
    | .Continue _ => true
    | _ => false
def trSs (sc : Scope) (cl : Bool) (hx : Option (Nat × Nat)) : Ss → List Stmt → Bool
  | .nil, ss => ss.isEmpty
  | .cons s ss, ts => match ts with
    | t :: ts => trS sc cl hx s t && trSs sc cl hx ss ts
    | [] => false
end
end
/-- where a statement stands -/
structure CtxS [RT] (T : Tab) (TX : Exc) (C : Nat → List PV → Sto → R PV) (X : Cx) (W : WX) (N : List Str) (sc : Scope) (cl : Bool) (ex : Option Held) : Prop extends Ctx T TX C X W N sc cl ex where
  stk : X.stack = X.env :: X.outer
  frame : X.env.frame = some X.env.locals
  po : cl = true → PassesOwn (model X.prog X.w) X.A X.env X.xe
  fn : ∀ x, X.fn x = true
section
variable [RT] {T : Tab} {TX : Exc} {C : Nat → List PV → Sto → R PV} {X : Cx} {W : WX} {N : List Str} {sc : Scope} {b : Nat} {cl : Bool} {ex : Option Held}
variable {x y z tg : Expr} {a c d : E} {pos : Pos}
abbrev tSt (K : PySem.W.Frag) (TX : Exc) (b : Nat) (ex : Option Held) (W : WX) (r : Env → Sto → RS) : TS := tS K TX b ex W r
theorem swaps_of {v : Expr} (h : notComp v = true) (o : Option Expr) (l : Nat) (env : PySem.Env) : swapsWith v o l env = pure false := by
  cases v <;> first | rfl | cases h
theorem sole_of {v : Expr} (h : notComp v = true) (t : Expr) (l : Nat) (env : PySem.Env) : swapsWithSole [t] v l env = pure false := swaps_of h _ _ _
theorem stores_sub {v u i : Expr} {p : Pos} (env : PySem.Env) : swappedStores [.Subscript u i p] v env = pure none := by
  cases v <;> rfl
theorem stores_tup {v : Expr} {ts : List Expr} {k : Nat} {p : Pos} (h : unpackB v = true) (env : PySem.Env) : swappedStores [.Tuple ts k p] v env = pure none := by
  cases v with
  | Tuple vs k2 p2 =>
    have h : vs.all (foldedForSure 8) = true := h
    unfold swappedStores
    simp only [pure_bind]
    split
    · rfl
    · split
      · rfl
      · split
        · rfl
        · first | rfl | rw [if_pos h]
  | _ => rfl
theorem stores_par {u v : Expr} {x y : Str} {px py p p2 : Pos} {k k2 : Nat} (env : PySem.Env) (hk : env.scope.kind = .function) (hx : env.scope.names.lookup x = some .local) (hy : env.scope.names.lookup y = some .local) (hl : (px.line == py.line) = true) (hne : x ≠ y)
    (h1 : ([u, v].all (foldedForSure 8)) = false) (h2 : ([u, v].all (constantsAlone 8)) = false) (su : ∀ w q, u ≠ .Starred w q) (sv : ∀ w q, v ≠ .Starred w q) : swappedStores [.Tuple [.Name x px, .Name y py] k p] (.Tuple [u, v] k2 p2) env = pure (some [x, y]) := by
  have hb : env.blockKind = .function := by unfold Env.blockKind; rw [hk]; rfl
  have kx : env.kindOf x = some .local := hx
  have ky : env.kindOf y = some .local := hy
  have hl' : px.line = py.line := by simpa using hl
  have nu : (match u with
    | .Starred .. => true
    | _ => false) = false := by cases u <;> first | rfl | exact absurd rfl (su _ _)
  have nv : (match v with
    | .Starred .. => true
    | _ => false) = false := by cases v <;> first | rfl | exact absurd rfl (sv _ _)
  unfold swappedStores
  simp only [pure_bind, List.length_cons, List.length_nil, hb, bne_self_eq_false, Bool.or_false, List.any_cons, List.any_nil, nu, nv, kx, ky, List.head?_cons, Option.map_some, Option.getD_some, Expr.pos, List.filterMap_cons, hl', beq_self_eq_true, Bool.and_self, if_true, List.filterMap_nil, h1, h2, Bool.false_eq_true, if_false]
  have e2 : ([x, y] : List Str).eraseDups.length = 2 := by
    have : (y == x) = false := by simpa using fun e => hne e.symm
    simp [List.eraseDups_cons, List.filter, this]
  simp [e2]
end
end MP
end
section
set_option Elab.async false
set_option linter.all false
set_option maxRecDepth 100000
set_option maxHeartbeats 1000000
/-! MPSound14: each form of a statement. -/
namespace MP
open PySem PySem.Spec PyProof.Rows L2
section
variable [RT] {T : Tab} {TX : Exc} {C : Nat → List PV → Sto → R PV} {X : Cx} {W : WX} {N : List Str} {sc : Scope} {b : Nat} {cl : Bool} {ex : Option Held}
variable {x y z tg : Expr} {a c d : E} {pos : Pos}
theorem u_name (cx : CtxS T TX C X W N sc cl ex) {i : Nat} {n : Str} {v : Expr} {p : Pos} (h1 : atB N i n = true) (h2 : locB sc n = true) (h3 : ∀ q, hxOf ex = some q → q.1 ≠ i) (he : PE X v (tE X.K TX b ex W (ev C b a))) (hs : swapsWith v (some (.Name n p)) pos.line X.env = pure false) :
    PS X (.Assign [.Name n p] v pos) (tSt X.K TX b ex W (xst C b (.asg (.of (.name i)) a))) := by
  refine PS.weak (ps_set (i := i) (by rw [cx.names]; exact cx.nd) (by rw [cx.names]; exact atB_ok h1) (by rw [cx.scope]; exact locB_ok h2) he hs (.inl (cx.fn n))) fun D τ H ⟨ρ, σ, S, so, eo, h⟩ => ?_
  unfold xst at h
  refine ⟨ρ, σ, S, so, eo, At.mono (AtS.st (rel := relE X.K) eo h) fun w H1 ⟨ρ1, v, S1, _, g1, so1, eo1, r1, h1⟩ => ?_⟩
  unfold bindT at h1
  exact h1 ρ1 H1 _ .refl so1 (eo1.setH i r1 fun q hq => h3 (q.i, q.c) (by rw [hq]; rfl))
/-- the ends, or they are met once a thing is locked -/
def lkD (D : Ends) : Ends := { D with nx := fun σ H => D.nx σ H ∨ ∃ p u, H p = some u ∧ Mut (some u) ∧ ∀ o, D.nx σ (upd H p (.frz o u)) }
theorem PS.lock {X : Cx} {s : Stmt} {t : TS} (h : PS X s t) : PS X s (fun D σ H => t (lkD D) σ H) :=
  ⟨fun pins s σ H D I q => thn (h.run pins s σ H _ I q) fun f s' z => by
    cases f with
    | next =>
      obtain ⟨σ', H', J, z⟩ := z
      rcases z with z | ⟨p, u, e, mu, z⟩
      · exact ⟨σ', H', J, z⟩
      · obtain ⟨o, J'⟩ := J.lock e mu
        exact ⟨σ', _, J', z o⟩
    | _ => exact z⟩
theorem u_lc (cx : CtxS T TX C X W N sc true none) {i : Nat} {n : Str} {p : Pos} {t : Tg} {own : List Nat} {it : It} {co : Eo} {e : E} {elt iter : Expr} {ifs : List Expr} {scope : Scope} {vp : Pos} (h1 : atB N i n = true) (h2 : kindB sc n .local = true) (hkf : sc.kind = .function) (hl : (p.line == vp.line) = true)
    (hnm : (scope.names.any fun q => q.1 == n && (q.2 == .local || q.2 == .cell)) = false) (hb : blkC N sc scope (own.map fun i => ((N[i]?).getD Str.empty, i)) = true)
    (htg : tgB N true (relS scope sc) t tg = true) (hown : ∀ i ∈ t.slots, i ∈ own) (hi : PI X tg iter (tI X.K TX b W (evi C b it))) (hs : ∀ x, foldedSetIterable iter X.env x = pure x)
    (ht : ∀ Y : Cx, Y.K = X.K → Ctx T TX C Y noW N (relS scope sc) true none → PTs Y ifs (tTs Y.K TX b none noW (evc C b co)))
    (he : ∀ Y : Cx, Y.K = X.K → Ctx T TX C Y noW N (relS scope sc) true none → PE Y elt (tE Y.K TX b none noW (ev C b e))) :
    PS X (.Assign [.Name n p] (.ListComp elt [⟨tg, iter, ifs, 0⟩] scope vp) pos) (tSt X.K TX b none W (xst C b (.asg (.of (.name i)) (.lc t own it co e)))) := by
  have cx' := cx.toCtx
  have ln : X.env.scope.names.lookup n = some .local := by rw [cx.scope]; exact kindB_ok h2
  refine PS.weak (PS.lock (ps_setLc (i := i) (g := gO X.K TX own t) (tt := tTs X.K TX b none noW (evc C b co)) (te := tE X.K TX b none noW (ev C b e)) (cx.calm rfl) (by rw [cx.names]; exact cx.nd) (by rw [cx.names]; exact atB_ok h1) ln
    (sw_true (by rw [cx.scope]; exact hkf) ln hl hnm) hi (blkOk_by (by rw [cx.names, cx.scope]; exact hb))
    (fun s H A cs fp => g_own (X := X.blk s H scope (compEnvC scope cs A X.env) fp) (TX := TX) (own := own) (cx.calm rfl) cx.names cx.nd (cx'.blk s H scope A cs fp).scope (lo := true) (fun q => by cases q) htg hown)
    (fun s H A cs fp => ht (X.blk s H scope (compEnvC scope cs A X.env) fp) rfl (cx'.blk s H scope A cs fp)) (fun s H A cs fp => he (X.blk s H scope (compEnvC scope cs A X.env) fp) rfl (cx'.blk s H scope A cs fp)) hs)) fun D τ H ⟨ρ, σ, S, so, eo, h⟩ => ?_
  unfold xst at h
  exact lc_read (N := N) (C := C) (it := it) ⟨ρ, σ, S, so, eo, At.mono (AtS.st (rel := relE X.K) eo h) fun w H1 ⟨ρ1, v, S1, _, g1, so1, eo1, r1, h1⟩ => by
    unfold bindT at h1
    exact h1 ρ1 H1 _ .refl so1 (eo1.set i r1)⟩
theorem u_lcN (cx : CtxS T TX C X W N sc true none) {i : Nat} {n : Str} {p : Pos} {t : Tg} {own : List Nat} {it : It} {co : Eo} {e : E} {elt iter : Expr} {ifs : List Expr} {scope : Scope} {vp : Pos} (h1 : atB N i n = true) (h2 : kindB sc n .local = true) (hkf : sc.kind = .function) (hl : (p.line == vp.line) = true)
    (hnm : (scope.names.any fun q => q.1 == n && (q.2 == .local || q.2 == .cell)) = false) (hb : blkC N sc scope (own.map fun i => ((N[i]?).getD Str.empty, i)) = true)
    (htg : tgB N true (relS scope sc) t tg = true) (hown : ∀ i ∈ t.slots, i ∈ own) (hi : PI X tg iter (tI X.K TX b W (evi C b it))) (hs : ∀ x, foldedSetIterable iter X.env x = pure x)
    (ht : ∀ Y : Cx, Y.K = X.K → Ctx T TX C Y noW N (relS scope sc) true none → PTs Y ifs (tTs Y.K TX b none noW (evc C b co)))
    (he : ∀ Y : Cx, Y.K = X.K → Ctx T TX C Y noW N (relS scope sc) true none → PE Y elt (tE Y.K TX b none noW (ev C b e))) :
    PS X (.Assign [.Name n p] (.ListComp elt [⟨tg, iter, ifs, 0⟩] scope vp) pos) (tSt X.K TX b none W (xst C b (.asg (.of (.name i)) (.new (.lc t own it co e))))) := by
  have cx' := cx.toCtx
  have ln : X.env.scope.names.lookup n = some .local := by rw [cx.scope]; exact kindB_ok h2
  refine PS.weak (PS.lock (ps_setLc (i := i) (g := gO X.K TX own t) (tt := tTs X.K TX b none noW (evc C b co)) (te := tE X.K TX b none noW (ev C b e)) (cx.calm rfl) (by rw [cx.names]; exact cx.nd) (by rw [cx.names]; exact atB_ok h1) ln
    (sw_true (by rw [cx.scope]; exact hkf) ln hl hnm) hi (blkOk_by (by rw [cx.names, cx.scope]; exact hb))
    (fun s H A cs fp => g_own (X := X.blk s H scope (compEnvC scope cs A X.env) fp) (TX := TX) (own := own) (cx.calm rfl) cx.names cx.nd (cx'.blk s H scope A cs fp).scope (lo := true) (fun q => by cases q) htg hown)
    (fun s H A cs fp => ht (X.blk s H scope (compEnvC scope cs A X.env) fp) rfl (cx'.blk s H scope A cs fp)) (fun s H A cs fp => he (X.blk s H scope (compEnvC scope cs A X.env) fp) rfl (cx'.blk s H scope A cs fp)) hs)) fun D τ H ⟨ρ, σ, S, so, eo, h⟩ => ?_
  unfold xst at h
  exact lc_readN (N := N) (C := C) (it := it) ⟨ρ, σ, S, so, eo, At.mono (AtS.st (rel := relE X.K) eo h) fun w H1 ⟨ρ1, v, S1, _, g1, so1, eo1, r1, h1⟩ => by
    unfold bindT at h1
    exact h1 ρ1 H1 _ .refl so1 (eo1.set i r1)⟩
theorem u_tup (cx : CtxS T TX C X W N sc true none) {ts : Tgs} {g v : Expr} (hg : tgB N false sc (.tup ts) g = true) (he : PE X v (tE X.K TX b none W (ev C b a))) (hn : notComp v = true) (hu : unpackB v = true) : PS X (.Assign [g] v pos) (tSt X.K TX b none W (xst C b (.asg (.of (.tup ts)) a))) := by
  have pg := g_ok (TX := TX) (X := X) (cx.calm rfl) cx.names cx.nd cx.scope (lo := false) (fun _ x _ => cx.fn x) hg
  obtain ⟨es, k, p, rfl⟩ : ∃ es k p, g = .Tuple es k p := by
    unfold tgB at hg
    split at hg
    · exact ⟨_, _, _, rfl⟩
    · cases hg
  refine PS.weak (ps_asg he pg (sole_of hn _ _ _) (stores_tup hu _) (by rfl)) fun D τ H ⟨ρ, σ, S, so, eo, h⟩ => ?_
  unfold xst at h
  refine ⟨ρ, σ, S, so, eo, At.mono (AtS.st (rel := relE X.K) eo h) fun w H1 ⟨ρ1, v, S1, _, g1, so1, eo1, r1, h1⟩ => ?_⟩
  cases e : bindT (.tup ts) v σ with
  | none => rw [e] at h1; exact h1.elim
  | some σ1 =>
    rw [e] at h1
    exact ⟨ρ1, σ, σ1, v, eo1, r1, e, fun τ' eo' => h1 ρ1 H1 τ' .refl so1 eo'⟩
theorem und_set {n : Nat} {v : PV} (hv : v.und n = true) : ∀ {xs : List PV} (j : Nat), PV.unds n xs = true → PV.unds n (xs.set j v) = true
  | [], _, _ => rfl
  | x :: xs, 0, h => by
    have h' := Bool.and_eq_true_iff.mp (by simpa [PV.unds] using h)
    simp [PV.unds, hv, h'.2]
  | x :: xs, j + 1, h => by
    have h' := Bool.and_eq_true_iff.mp (by simpa [PV.unds] using h)
    simp [PV.unds, h'.1, und_set hv j h'.2]
theorem und_app {n : Nat} {v : PV} (hv : v.und n = true) : ∀ {xs : List PV}, PV.unds n xs = true → PV.unds n (xs ++ [v]) = true
  | [], _ => by simp [PV.unds, hv]
  | x :: xs, h => by
    have h' := Bool.and_eq_true_iff.mp (by simpa [PV.unds] using h)
    simp [PV.unds, h'.1, und_app hv h'.2]
/-- a list or a dict is written -/
def rSetA (K : PySem.W.Frag) (b : Nat) : TSet := fun o k v H Q => rSetL o k v H Q ∨ ∃ ρ S j y x a c, StOk K b ρ S H ∧ ρ[j]? = some a ∧ o = .ref a ∧ RelP K ρ H y k ∧ RelP K ρ H x v ∧ dPut S j y x = some c ∧ ∀ H', Grow b ρ ρ S (S.wr b j c x.pure) H H' → StOk K b ρ (S.wr b j c x.pure) H' → Keep H H' → Q H'
theorem set_any (hu : X.A.units + 1 < cLine) : PSet X (rSetA X.K b) := by
  intro pins s σ H o k v uo uk uv Q I ro rk rv h
  rcases h with h | ⟨ρ, S, j, y, x, a, c, so, ea, rfl, ry, rx, hp, q⟩
  · exact set_list pins s σ H o k v uo uk uv Q I ro rk rv h
  · obtain rfl : uo = Value.ref a := ro
    exact g_put hu I so ea ry rk rx rv hp fun s' H' I' g so' kp => ⟨H', I', q H' g so' kp⟩
theorem u_sub (cx : CtxS T TX C X W N sc true ex) {u i v : Expr} {p : Pos} (ha : PE X u (tE X.K TX b ex W (ev C b c))) (hi : PE X i (tE X.K TX b ex W (ev C b d))) (hsl : isSlice i = false) (he : PE X v (tE X.K TX b ex W (ev C b a))) (hn : notComp v = true) :
    PS X (.Assign [.Subscript u i p] v pos) (tSt X.K TX b ex W (xst C b (.asg (.sub c d) a))) := by
  have pg := pg_sub (pos := p) ha hi (set_any (b := b) (by have := cx.unit; omega)) (by
    intro w
    cases i <;> first | rfl | cases hsl)
  refine PS.weak (ps_asg he pg (sole_of hn _ _ _) (stores_sub _) (by rfl)) fun D τ H ⟨ρ, σ, S, so, eo, h⟩ => ?_
  unfold xst at h
  refine ⟨ρ, σ, S, so, eo, At.mono (AtS.st (rel := relE X.K) eo h) fun w H1 ⟨ρ1, v, S1, _, g1, so1, eo1, r1, h1⟩ => ?_⟩
  refine ⟨ρ1, σ, S1, so1, eo1, At.mono (AtS.st (rel := relE X.K) eo1 h1) fun w2 H2 ⟨ρ2, o, S2, _, g2, so2, eo2, r2, h2⟩ => ?_⟩
  refine ⟨ρ2, σ, S2, so2, eo2, At.mono (AtS.st (rel := relE X.K) eo2 h2) fun w3 H3 ⟨ρ3, k, S3, _, g3, so3, eo3, r3, h3⟩ => ?_⟩
  have r1' := RelP.mono (g2.trans g3).keep (g2.trans g3).pre r1
  have r2' := RelP.mono g3.keep g3.pre r2
  unfold subR at h3
  split at h3
  · obtain ⟨p, rfl, ep⟩ := r2'.of_ref
    split at h3
    · rename_i xs hx
      split at h3
      · split at h3
        · rename_i j hj
          obtain rfl := RelP.of_int r3
          obtain ⟨vs, rs, hp⟩ := so3.lst hx ep
          refine .inl ⟨p, vs, _, j, rfl, rfl, hp, by rw [← rs.length]; exact hj, ?_⟩
          exact h3 ρ3 _ τ (.write hx ep hp (fun m hm hv => und_set hv j hm)) (so3.write hx ep (rs.set r1' j)) (eo3.mono (.wlst hp) (List.prefix_refl _))
        · exact h3.elim
      · exact h3.elim
    · split at h3
      · rename_i c' hc
        exact .inr ⟨ρ3, S3, _, _, _, p, c', so3, ep, rfl, r3, r1', hc, fun H' g so' kp => h3 ρ3 H' τ g so' (eo3.mono kp (List.prefix_refl _))⟩
      · exact h3.elim
  · exact h3.elim
theorem u_par (cx : CtxS T TX C X W N sc true none) {i j : Nat} {n m : Str} {u v : Expr} {px py p p2 : Pos} {k k2 : Nat} (h1 : atB N i n = true) (h2 : atB N j m = true) (hij : i ≠ j) (hn : kindB sc n .local = true) (hm : kindB sc m .local = true) (hk : sc.kind = .function)
    (hl : (px.line == py.line) = true) (hne : n ≠ m) (hf : ([u, v].all (foldedForSure 8)) = false) (hc : ([u, v].all (constantsAlone 8)) = false) (ha : PE X u (tE X.K TX b none W (ev C b a))) (hb : PE X v (tE X.K TX b none W (ev C b c)))
    (su : ∀ es, starEach (u :: es) X.env = (false, eval u X.env) :: starEach es X.env) (sv : starEach [v] X.env = [(false, eval v X.env)]) (nu : ∀ w q, u ≠ .Starred w q) (nv : ∀ w q, v ≠ .Starred w q) :
    PS X (.Assign [.Tuple [.Name n px, .Name m py] k p] (.Tuple [u, v] k2 p2) pos) (tSt X.K TX b none W (xst C b (.par i j a c))) := by
  have ln : X.env.scope.names.lookup n = some .local := by rw [cx.scope]; exact kindB_ok hn
  have lm : X.env.scope.names.lookup m = some .local := by rw [cx.scope]; exact kindB_ok hm
  refine PS.weak (ps_par (i := i) (j := j) (cx.calm rfl) (by rw [cx.names]; exact cx.nd) (by rw [cx.names]; exact atB_ok h1) (by rw [cx.names]; exact atB_ok h2) hij ln lm (pa_cons ha (pa_cons hb pa_nil sv) (su _))
    (stores_par _ (by rw [cx.scope]; exact hk) ln lm hl hne hf hc nu nv) rfl) fun D τ H ⟨ρ, σ, S, so, eo, h⟩ => ?_
  unfold xst at h
  refine ⟨ρ, σ, S, so, eo, At.mono (AtS.st (rel := relE X.K) eo h) fun w H1 ⟨ρ1, v, S1, _, g1, so1, eo1, r1, h1⟩ => ?_⟩
  refine ⟨ρ1, σ, S1, so1, eo1, At.mono (AtS.st (rel := relE X.K) eo1 h1) fun w2 H2 ⟨ρ2, o, S2, _, g2, so2, eo2, r2, h2⟩ => ?_⟩
  exact ⟨w, w2, rfl, h2 ρ2 H2 _ .refl so2 ((eo2.set i (RelP.mono g2.keep g2.pre r1)).set j r2)⟩
theorem u_aug (cx : CtxS T TX C X W N sc true ex) {i : Nat} {n : Str} {v : Expr} {p : Pos} (h1 : atB N i n = true) (h2 : locB sc n = true) (h3 : ∀ q, hxOf ex = some q → q.1 ≠ i) (he : PE X v (tE X.K TX b ex W (ev C b a))) : PS X (.AugAssign (.Name n p) .Add v pos) (tSt X.K TX b ex W (xst C b (.aug i .add a))) := by
  refine PS.weak (ps_aug (i := i) (by rw [cx.names]; exact cx.nd) (by rw [cx.names]; exact atB_ok h1) (by rw [cx.scope]; exact locB_ok h2) he ip_add (.inl (cx.fn n))) fun D τ H ⟨ρ, σ, S, so, eo, h⟩ => ?_
  unfold xst at h
  split at h
  · rename_i u hu
    have hne : ∀ q, ex = some q → q.i ≠ i := fun q hq => h3 (q.i, q.c) (by rw [hq]; rfl)
    obtain ⟨w0, e0, r0⟩ := eo.val i u hu hne
    refine ⟨w0, e0, ρ, σ, S, so, eo, At.mono (AtS.st (rel := relE X.K) eo h) fun w H1 ⟨ρ1, v, S1, _, g1, so1, eo1, r1, h1⟩ => ?_⟩
    split at h1
    · obtain rfl := RelP.of_int r1
      obtain rfl := r0.of_int
      exact ⟨_, _, rfl, rfl, h1 ρ1 H1 _ .refl so1 (eo1.setH i (.int _) hne)⟩
    · exact h1.elim
  · exact h.elim
theorem u_expr {v : Expr} (he : PE X v (tE X.K TX b ex W (ev C b a))) (hn : notComp v = true) : PS X (.Expr v pos) (tSt X.K TX b ex W (xst C b (.expr a))) := by
  refine PS.weak (ps_expr he (swaps_of hn _ _ _)) fun D τ H ⟨ρ, σ, S, so, eo, h⟩ => ?_
  unfold xst at h
  exact ⟨ρ, σ, S, so, eo, At.mono (AtS.st (rel := relE X.K) eo h) fun w H1 ⟨ρ1, v, S1, _, g1, so1, eo1, r1, h1⟩ => h1 ρ1 H1 τ .refl so1 eo1⟩
theorem u_append {u v : Expr} {ap cp : Pos} (ha : PE X u (tE X.K TX b ex W (ev C b c))) (he : PE X v (tE X.K TX b ex W (ev C b a))) (hbase : attributeBase u "append" X.env (eval u X.env) = eval u X.env) (hline : (ap.endLine == cp.line) = true)
    (sv : starEach [v] X.env = [(false, eval v X.env)]) : PS X (.Expr (.Call (.Attribute u "append" ap) [v] [] cp) pos) (tSt X.K TX b ex W (xst C b (.append c a))) := by
  refine PS.weak (ps_expr (pe_bm PySem.F.plainAttrs_list PySem.F.slot_list_append PySem.F.type_list_append mt_append ha (pa_cons he pa_nil sv) hbase (by rw [sv]; rfl) hline sv rfl) rfl) fun D τ H ⟨ρ, σ, S, so, eo, h⟩ => ?_
  unfold xst at h
  refine ⟨ρ, σ, S, so, eo, At.mono (AtS.st (rel := relE X.K) eo h) fun w H1 ⟨ρ1, o, S1, _, g1, so1, eo1, r1, h1⟩ => ?_⟩
  split at h1
  · split at h1
    · rename_i A _ ys hy
      obtain ⟨p, rfl, ep⟩ := RelP.of_ref r1
      obtain ⟨us, _, hp⟩ := so1.lst hy ep
      refine ⟨.inl ⟨rfl, _, .inl (.inl hp)⟩, ρ1, σ, S1, so1, eo1, At.mono (AtS.st (rel := relE X.K) eo1 h1) fun w2 H2 ⟨ρ2, v, S2, _, g2, so2, eo2, r2, h2⟩ => ?_⟩
      have ep2 := pre_get g2.pre ep
      split at h2
      · rename_i xs hx
        split at h2
        · rename_i hlen
          obtain ⟨vs, rs, hp2⟩ := so2.lst hx ep2
          refine ⟨p, vs, w2, rfl, rfl, hp2, by rw [line_eq, ← rs.length]; exact hlen, ?_⟩
          exact h2 ρ2 _ τ (.write hx ep2 hp2 (fun m hm hv => und_app hv hm)) (so2.write hx ep2 (rs.app (.cons r2 .nil))) (eo2.mono (.wlst hp2) (List.prefix_refl _))
        · exact h2.elim
      · exact h2.elim
    · exact h1.elim
  · exact h1.elim
theorem u_if {t u : List Stmt} {p q : Ss} (hc : PT X x (tTs X.K TX b ex W (evT C b a))) (h1 : PSs X t (tSt X.K TX b ex W (xss C b p))) (h2 : PSs X u (tSt X.K TX b ex W (xss C b q))) : PS X (.If x t u pos) (tSt X.K TX b ex W (xst C b (.ifs a p q))) := by
  refine PS.weak (ps_if hc h1 h2) fun D τ H ⟨ρ, σ, S, so, eo, h⟩ => ?_
  unfold xst at h
  refine ⟨ρ, σ, S, so, eo, At.mono (AtS.st (rel := relT) eo h) fun w H1 ⟨ρ1, v, S1, _, g1, so1, eo1, r1, h1⟩ => ?_⟩
  obtain rfl : v = w := r1
  cases v with
  | true => exact iteT ⟨ρ1, σ, S1, so1, eo1, h1⟩
  | false => exact iteF ⟨ρ1, σ, S1, so1, eo1, h1⟩
theorem u_ret {v : Expr} (he : PE X v (tE X.K TX b ex W (ev C b a))) : PS X (.Return (some v) pos) (tSt X.K TX b ex W (xst C b (.ret a))) := by
  refine PS.weak (ps_ret he) fun D τ H ⟨ρ, σ, S, so, eo, h⟩ => ?_
  unfold xst at h
  exact ⟨ρ, σ, S, so, eo, At.mono (AtS.st (rel := relE X.K) eo h) fun w H1 ⟨ρ1, v, S1, _, g1, so1, eo1, r1, h1⟩ => h1 ρ1 H1 w .refl so1 r1⟩
theorem u_retN : PS X (.Return none pos) (tSt X.K TX b ex W (xst C b .retN)) := by
  refine PS.weak ps_retN fun D τ H ⟨ρ, σ, S, so, eo, h⟩ => ?_
  unfold xst at h
  exact h ρ H .non .refl so .non
theorem u_pass : PS X (.Pass pos) (tSt X.K TX b ex W (xst C b .pass)) := PS.weak ps_pass fun D τ H ⟨ρ, σ, S, so, eo, h⟩ => by
  unfold xst at h
  exact h ρ H τ .refl so eo
theorem u_brk : PS X (.Break pos) (tSt X.K TX b ex W (xst C b .brk)) := PS.weak ps_break fun D τ H ⟨ρ, σ, S, so, eo, h⟩ => by
  unfold xst at h
  exact h ρ H τ .refl so eo
theorem u_cont : PS X (.Continue pos) (tSt X.K TX b ex W (xst C b .cont)) := PS.weak ps_continue fun D τ H ⟨ρ, σ, S, so, eo, h⟩ => by
  unfold xst at h
  exact h ρ H τ .refl so eo
theorem u_nil : PSs X [] (tSt X.K TX b ex W (xss C b .nil)) := PSs.weak pss_nil fun D τ H ⟨ρ, σ, S, so, eo, h⟩ => by
  unfold xss at h
  exact h ρ H τ .refl so eo
theorem u_cons {s : Stmt} {ss : List Stmt} {p : MP.St} {q : Ss} (h1 : PS X s (tSt X.K TX b ex W (xst C b p))) (h2 : PSs X ss (tSt X.K TX b ex W (xss C b q))) : PSs X (s :: ss) (tSt X.K TX b ex W (xss C b (.cons p q))) := by
  refine PSs.weak (pss_cons h1 h2) fun D τ H ⟨ρ, σ, S, so, eo, h⟩ => ?_
  unfold xss at h
  refine ⟨ρ, σ, S, so, eo, ?_⟩
  cases e : xst C b p σ S with
  | next σ1 S1 =>
    rw [e] at h
    exact fun ρ' H' τ' g so' eo' => ⟨ρ', σ1, S1, so', eo', AtS.grow g h⟩
  | ret v S1 => rw [e] at h; exact h
  | brk σ1 S1 => rw [e] at h; exact h
  | cont σ1 S1 => rw [e] at h; exact h
  | exc k as σ1 S1 => rw [e] at h; exact h
  | bad => rw [e] at h; exact h.elim
end
end MP
end
section
set_option Elab.async false
set_option linter.all false
set_option maxRecDepth 100000
set_option maxHeartbeats 1000000
/-! MPSound15: loops, raise, try; every statement that is looked at runs like its MP. -/
namespace MP
open PySem PySem.Spec PyProof.Rows L2
section
variable [RT] {T : Tab} {TX : Exc} {C : Nat → List PV → Sto → R PV} {X : Cx} {W : WX} {N : List Str} {sc : Scope} {b : Nat} {cl : Bool} {ex : Option Held}
variable {x y z tg : Expr} {a c d : E} {pos : Pos}
theorem u_for (cx : CtxS T TX C X W N sc true none) {t : Tg} {it : It} {p : Ss} {iter : Expr} {body : List Stmt} (hg : tgB N false sc t tg = true) (hi : PI X tg iter (tI X.K TX b W (evi C b it))) (hs : ∀ x, foldedSetIterable iter X.env x = pure x)
    (hb : PSs X body (tSt X.K TX b none W (xss C b p))) : PS X (.For tg iter body [] pos) (tSt X.K TX b none W (xst C b (.fors t it p))) := by
  have pg := g_ok (TX := TX) (X := X) (cx.calm rfl) cx.names cx.nd cx.scope (lo := false) (fun _ x _ => cx.fn x) hg
  refine PS.weak (ps_for (cx.po rfl) (cx.calm rfl) hi pg hb hs) fun D τ H ⟨ρ, σ, S, so, eo, h⟩ => ?_
  unfold xst at h
  refine ⟨ρ, σ, S, so, eo, At.mono (AtS.st (rel := WalkOk X.K b) eo h) fun J H1 ⟨ρ1, w, S1, _, g1, so1, eo1, wo, h1⟩ => ?_⟩
  obtain ⟨n, G, Y, wk, hn, hG, hY⟩ := wo.ex
  let run (xs : List PV) (σi : Env) (Si : Sto) : RS := forLoop (fun S => stands S w.2) (bindT t) (xss C b p) xs σi Si
  have bad : ∀ {xs : List PV} {σi : Env} {Si : Sto}, stands Si w.2 = false → run xs σi Si = .bad := fun {xs σi Si} hst => by
    show forLoop _ _ _ _ _ _ = _
    cases xs with
    | nil => unfold forLoop; rw [hst]; rfl
    | cons x xs => unfold forLoop; rw [hst]; rfl
  refine for_it (g := fun v τ H Q => ∃ ρ σ σ' u, EnvOk X.K TX none ρ H σ τ ∧ RelP X.K ρ H u v ∧ bindT t u σ = some σ' ∧ ∀ τ', EnvOk X.K TX none ρ H σ' τ' → Q τ' H) (tb := tSt X.K TX b none W (xss C b p)) (D := D) wk (fun i τi Hc => ∃ ρi σi Si, Grow b ρ1 ρi S1 Si H1 Hc ∧ StOk X.K b ρi Si Hc ∧ EnvOk X.K TX none ρi Hc σi τi ∧ AtS X.K TX b none W D ρi Si Hc (run (w.1.drop i) σi Si)) ⟨ρ1, σ, S1, .refl, so1, eo1, h1⟩ ?_ ?_ ?_
  · rintro i τi Hc hi ⟨ρi, σi, Si, gi, soi, eoi, hq⟩
    refine hG ρi Si Hc gi.keep gi.pre soi ?_
    cases hst : stands Si w.2 with
    | true => rfl
    | false => rw [bad hst] at hq; exact hq.elim
  · rintro i xv τi Hc Hc' hin ⟨ρi, σi, Si, gi, soi, eoi, hq⟩ hy
    have hlt : i < w.1.length := by rw [hn]; exact hin
    have hget : w.1[i]? = some (w.1[i]) := by simp [hlt]
    have hst : stands Si w.2 = true := by
      cases hst : stands Si w.2 with
      | true => rfl
      | false => rw [bad hst] at hq; exact hq.elim
    obtain ⟨gy, soy, ry⟩ := hY ρi Si Hc i xv _ Hc' gi.keep gi.pre soi hst hget hy
    have hq := AtS.grow gy hq
    have gi := gi.trans gy
    have eoi := eoi.grow gy
    rw [List.drop_eq_getElem_cons hlt] at hq
    have hq : AtS X.K TX b none W D ρi Si Hc' (forLoop (fun S => stands S w.2) (bindT t) (xss C b p) (w.1[i] :: w.1.drop (i + 1)) σi Si) := hq
    unfold forLoop at hq
    rw [hst, if_pos rfl] at hq
    cases hbd : bindT t w.1[i] σi with
    | none => rw [hbd] at hq; exact hq.elim
    | some σ1 =>
      rw [hbd] at hq
      have hq : AtS X.K TX b none W D ρi Si Hc' (match xss C b p σ1 Si with
        | .next σ2 S2 => forLoop (fun S => stands S w.2) (bindT t) (xss C b p) (w.1.drop (i + 1)) σ2 S2
        | .cont σ2 S2 => forLoop (fun S => stands S w.2) (bindT t) (xss C b p) (w.1.drop (i + 1)) σ2 S2
        | .brk σ2 S2 => .next σ2 S2
        | r => r) := hq
      refine ⟨ρi, σi, σ1, w.1[i], eoi, ry, hbd, fun τ1 eo1' => ⟨ρi, σ1, Si, soy, eo1', ?_⟩⟩
      cases e : xss C b p σ1 Si with
      | next σ2 S2 =>
        rw [e] at hq
        exact fun ρ' H' τ' g so' eo' => ⟨ρ', σ2, S2, gi.trans g, so', eo', AtS.grow g hq⟩
      | cont σ2 S2 =>
        rw [e] at hq
        exact fun ρ' H' τ' g so' eo' => ⟨ρ', σ2, S2, gi.trans g, so', eo', AtS.grow g hq⟩
      | brk σ2 S2 => rw [e] at hq; exact hq
      | ret v S2 => rw [e] at hq; exact hq
      | exc k as σ2 S2 => rw [e] at hq; exact hq
      | bad => rw [e] at hq; exact hq.elim
  · rintro τi Hc ⟨ρi, σi, Si, gi, soi, eoi, hq⟩
    have en : w.1.drop n = [] := by rw [← hn]; exact List.drop_length
    rw [en] at hq
    have hq : AtS X.K TX b none W D ρi Si Hc (forLoop (fun S => stands S w.2) (bindT t) (xss C b p) [] σi Si) := hq
    unfold forLoop at hq
    split at hq
    · exact hq ρi Hc τi .refl soi eoi
    · exact hq.elim
theorem u_while (cx : CtxS T TX C X W N sc true none) {p : Ss} {body : List Stmt} (hc : PT X x (tTs X.K TX b none W (evT C b a))) (hb : PSs X body (tSt X.K TX b none W (xss C b p))) : PS X (.While x body [] pos) (tSt X.K TX b none W (xst C b (.whiles a p))) := by
  refine PS.weak (ps_while (cx.po rfl) hc hb) fun D τ H ⟨ρ, σ, S, so, eo, h⟩ => ?_
  unfold xst at h
  refine ⟨fun m τi Hc => ∃ ρi σi Si, StOk X.K b ρi Si Hc ∧ EnvOk X.K TX none ρi Hc σi τi ∧ AtS X.K TX b none W D ρi Si Hc (whileLoop (evT C b a) (xss C b p) m σi Si), ⟨fuel, ρ, σ, S, so, eo, h⟩, ?_⟩
  rintro m τi Hc ⟨ρi, σi, Si, soi, eoi, hq⟩
  cases m with
  | zero => unfold whileLoop at hq; exact hq.elim
  | succ m =>
    unfold whileLoop at hq
    refine ⟨ρi, σi, Si, soi, eoi, At.mono (AtS.st (rel := relT) eoi hq) fun k H1 ⟨ρ1, v, S1, _, g1, so1, eo1, r1, h1⟩ => ?_⟩
    obtain rfl : v = k := r1
    cases v with
    | false => exact iteF (h1 ρ1 H1 τi .refl so1 eo1)
    | true =>
      refine iteT ⟨fun τ' H' => ∃ ρi σi Si, StOk X.K b ρi Si H' ∧ EnvOk X.K TX none ρi H' σi τ' ∧ AtS X.K TX b none W D ρi Si H' (whileLoop (evT C b a) (xss C b p) m σi Si), fun τ' H' q => ⟨m, Nat.lt_succ_self m, q⟩, ρ1, σi, S1, so1, eo1, ?_⟩
      have h1 : AtS X.K TX b none W D ρ1 S1 H1 (match xss C b p σi S1 with
        | .next σ2 S2 => whileLoop (evT C b a) (xss C b p) m σ2 S2
        | .cont σ2 S2 => whileLoop (evT C b a) (xss C b p) m σ2 S2
        | .brk σ2 S2 => .next σ2 S2
        | r => r) := h1
      cases e : xss C b p σi S1 with
      | next σ2 S2 =>
        rw [e] at h1
        exact fun ρ' H' τ' g so' eo' => ⟨ρ', σ2, S2, so', eo', AtS.grow g h1⟩
      | cont σ2 S2 =>
        rw [e] at h1
        exact fun ρ' H' τ' g so' eo' => ⟨ρ', σ2, S2, so', eo', AtS.grow g h1⟩
      | brk σ2 S2 => rw [e] at h1; exact h1
      | ret v S2 => rw [e] at h1; exact h1
      | exc k as σ2 S2 => rw [e] at h1; exact h1
      | bad => rw [e] at h1; exact h1.elim
/-! ### raise -/
/-- X() of a class without an own __init__ -/
theorem make0 {c : Nat} {n : Str} {p : Pos} (hx : ExcK X.K X.mg (TX.at_ c) n []) (hg : Gl X n) (hd : (n == ("__debug__" : Str)) = false) : PMk X (.Call (.Name n p) [] [] pos) (fun _ H Q => Q (.ref (TX.at_ c)) none H) := by
  intro pins s τ H Q I h
  refine wpAny_Call_Name_kw (ld_glob I hg hx.gl ?_ hd)
  refine PySem.W.callWith_K0 I.kIn hx.kp ?_
  show wpAny _ _ (call (.ref (TX.at_ c)) []) _ _ _
  obtain ⟨bm, ns, nm, qn, bs, hdct, sn, sub, ab, col, dd, k0, k1, k2, k3, k5, mN, hC, hN, hni, F⟩ := exc_obj I.kIn (hx.no rfl)
  refine wpAny_call_exc_subT PySem.F.excBase_ValueError F hC hN hni (fun h' e hm => ?_) (Nat.zero_le _)
  exact mk_of I hm (raises_own hx.sb hx.ty) h (I.hok.gone hm.new)
theorem u_raise0 (cx : CtxS T TX C X W N sc true ex) {k : Nat} {n : Str} {p q : Pos} (hg : gloB sc n = true) (hk : (T.cls[k]?.map fun p => (p.1, p.2.1)) = some (n, [])) : PS X (.Raise (some (.Call (.Name n p) [] [] q)) none pos) (tSt X.K TX b ex W (xst C b (.raise k .nil))) := by
  obtain ⟨g1, g2, _, _⟩ := cx.gl hg
  cases e : T.cls[k]? with
  | none => rw [e] at hk; cases hk
  | some pp =>
    rw [e] at hk
    obtain ⟨n', fs, sup⟩ := pp
    have hk : (n', fs) = (n, []) := Option.some.inj hk
    cases hk
    have xk := cx.exc k _ e
    have lt : k < TX.n := by rw [cx.num]; exact (List.getElem?_eq_some_iff.mp e).1
    have at0 : TX.attrs k = [] := cx.attrs k _ e
    refine PS.weak (ps_raise (cx.calm rfl) cx.takes (make0 xk g1 g2)) fun D τ H ⟨ρ, σ, S, so, eo, h⟩ => ?_
    unfold xst evs at h
    exact h ρ H τ _ _ .refl so eo ⟨lt, rfl, by rw [at0]; rfl, .inl ⟨at0, rfl⟩⟩
/-! ### try -/
theorem Ctx.tr (cx : CtxS T TX C X W N sc true none) {W' : WX} {pn : List (Addr × Obj)} {xe : Value → Shared → Prop} (tk : Takes (X.tr pn xe) W') (po : PassesOwn (model X.prog X.w) X.A X.env xe) : CtxS T TX C (X.tr pn xe) W' N sc true none :=
  { scope := cx.scope, names := cx.names, nd := cx.nd, takes := tk, calm := cx.calm, unit := cx.unit, free := cx.free, glb := cx.glb, wide := ⟨cx.wide.depth, cx.wide.seer, cx.wide.tree, cx.wide.top⟩, rcs := cx.rcs, kit := cx.kit, inits := cx.inits, meths := cx.meths, fns := cx.fns, num := cx.num, exc := cx.exc, exm := cx.exm, attrs := cx.attrs, held := (fun x hx => by cases hx), stk := cx.stk, frame := cx.frame, po := fun _ => po, fn := cx.fn }
/-- what a suite asks of the text's classes -/
structure SuiteOk (T : Tab) (TX : Exc) (K : PySem.W.Frag) (mg : Str → Option Value) (c : Nat) : Prop where
  tab : ∀ p : Str × List Str × List Str, T.cls[c]? = some p →
    (∀ f ∈ p.2.1, PySem.W.findIn K (.ref (TX.at_ c)) "__getattribute__" = some (some (.builtin "BaseException.__getattribute__")) ∧ PySem.W.findIn K (.ref (TX.at_ c)) "__getattr__" = some none ∧
      PySem.W.subIn K (.ref (TX.at_ c)) (.type "BaseException") = some true ∧ PySem.W.hasDictIn K (TX.at_ c) = true ∧ PySem.W.findIn K (.ref (TX.at_ c)) f = some none) ∧
    (p.2.1 = [] → ExcC K (TX.at_ c) ∧ ∀ z, p.2.2.contains z = true → ∃ (c' : V) (cv : Value), ((mg z = some cv) ∨ (mg z = none ∧ bootBuiltins z = some cv ∧ z ≠ "__name__")) ∧ RelV c' cv ∧ (∀ u, RelV c' u → u = cv) ∧ PySem.W.kitOne K (.ref (TX.at_ c)) cv = some true)
theorem Ctx.su (cx : CtxS T TX C X W N sc true none) (sk : ∀ c, SuiteOk T TX X.K X.mg c) {A : Addr} {oe : Obj} {cls : Value} {dd : Option Addr} {pn : List (Addr × Obj)} (hz : Zc cls dd oe) (hv : ∃ vs, oe.data = .fields vs) (k i : Nat) :
    CtxS T TX C (X.suite A ((A, oe) :: pn)) noW N sc false (some ⟨i, A, k, cls, dd⟩) :=
  { scope := cx.scope, names := cx.names, nd := cx.nd, takes := takes0, calm := (fun h => by cases h), unit := cx.unit, free := cx.free, glb := cx.glb, wide := ⟨cx.wide.depth, cx.wide.seer, cx.wide.tree, cx.wide.top⟩, rcs := cx.rcs, kit := cx.kit, inits := (fun h => by cases h), meths := (fun h => by cases h), fns := (fun h => by cases h), num := cx.num, exc := cx.exc, exm := cx.exm, attrs := cx.attrs, stk := cx.stk, frame := cx.frame, po := (fun h => by cases h), fn := cx.fn,
    held := fun x hx => by
      cases hx
      exact ⟨oe, pn, rfl, ⟨X, rfl⟩, hz, hv, fun p hp => ⟨((sk k).tab p hp).1, ((sk k).tab p hp).2⟩⟩ }
theorem Ctx.su0 (cx : CtxS T TX C X W N sc true none) {A : Addr} {pn : List (Addr × Obj)} : CtxS T TX C (X.suite A pn) noW N sc false none :=
  { scope := cx.scope, names := cx.names, nd := cx.nd, takes := takes0, calm := (fun h => by cases h), unit := cx.unit, free := cx.free, glb := cx.glb, wide := ⟨cx.wide.depth, cx.wide.seer, cx.wide.tree, cx.wide.top⟩, rcs := cx.rcs, kit := cx.kit, inits := (fun h => by cases h), meths := (fun h => by cases h), fns := (fun h => by cases h), num := cx.num, exc := cx.exc, exm := cx.exm, attrs := cx.attrs, stk := cx.stk, frame := cx.frame, po := (fun h => by cases h), fn := cx.fn,
    held := fun x hx => by cases hx }
theorem EnvOk.hold {K : PySem.W.Frag} {ρ : List Addr} {H : Hp} {σ : Env} {τ : L2.St} (e : EnvOk K TX none ρ H σ τ) {i : Nat} {A : Addr} {c : Nat} {cls : Value} {dd : Option Addr} {as : List PV} (hi : i < σ.length) (x : ExcOk K TX ρ H c as cls dd) :
    EnvOk K TX (some ⟨i, A, c, cls, dd⟩) ρ H (σ.set i (some (.tup (.int c :: as)))) (τ.set i (some (.ref A))) := by
  refine ⟨by simp [e.len], fun j u h n => ?_, fun x hx => ?_⟩
  · have ne : i ≠ j := n _ rfl
    rw [List.getElem?_set_ne ne] at h
    rw [List.getElem?_set_ne ne]
    exact e.val j u h fun x hx => by cases hx
  · cases hx
    exact ⟨as, by rw [List.getElem?_set_self hi], by rw [List.getElem?_set_self (by rw [← e.len]; exact hi)], x⟩
theorem EnvOk.unhold {K : PySem.W.Frag} {ρ : List Addr} {H : Hp} {σ : Env} {τ : L2.St} {q : Held} (e : EnvOk K TX (some q) ρ H σ τ) : EnvOk K TX none ρ H (σ.set q.i none) (τ.set q.i none) := by
  refine ⟨by simp [e.len], fun j u h n => ?_, fun x hx => by cases hx⟩
  by_cases hj : q.i = j
  · subst hj
    by_cases hi : q.i < σ.length
    · rw [List.getElem?_set_self hi] at h; cases h
    · rw [List.getElem?_eq_none (by simpa using hi)] at h; cases h
  · rw [List.getElem?_set_ne hj] at h
    rw [List.getElem?_set_ne hj]
    exact e.val j u h fun x hx => by cases hx; exact hj
theorem caught_exc {c : Nat} {i : Option Nat} {h : Env → Sto → RS} {d : Nat} {as : List PV} {σ : Env} {S : Sto} : caught c i h (.exc d as σ S) = if d = c then (if holdOk σ i then unslot i (h (hold c as σ i) S) else .bad) else .exc d as σ S := rfl
theorem u_try_as (cx : CtxS T TX C X W N sc true none) {p h : Ss} {k i : Nat} {n m : Str} {np hp : Pos} {body suite : List Stmt} {s0 : Stmt} (hg : gloB sc n = true) (hk : (T.cls[k]?.map (·.1)) = some n) (h1 : atB N i m = true) (h2 : kindB sc m .local = true)
    (hb : ∀ (W' : WX) (Y : Cx), Y.K = X.K ∧ Y.mg = X.mg → CtxS T TX C Y W' N sc true none → PSs Y body (tSt Y.K TX b none W' (xss C b p)))
    (hs : ∀ (A : Addr) (oe : Obj) (cls : Value) (dd : Option Addr) (pn : List (Addr × Obj)), Zc cls dd oe → (∃ vs, oe.data = .fields vs) → PSs (X.suite A ((A, oe) :: pn)) (s0 :: suite) (tSt X.K TX b (some ⟨i, A, k, cls, dd⟩) noW (xss C b h))) :
    PS X (.Try body [.ExceptHandler (some (.Name n np)) (some m) (s0 :: suite) hp] [] [] pos) (tSt X.K TX b none W (xst C b (.tryo p k (some i) h))) := by
  obtain ⟨g1, g2, _, _⟩ := cx.gl hg
  cases e : T.cls[k]? with
  | none => rw [e] at hk; cases hk
  | some pp =>
    rw [e] at hk
    obtain ⟨n', fs, sup⟩ := pp
    have hk : n' = n := Option.some.inj hk
    subst hk
    have xk := cx.exc k _ e
    have lt : k < TX.n := by rw [cx.num]; exact (List.getElem?_eq_some_iff.mp e).1
    have hi : X.N[i]? = some m := by rw [cx.names]; exact atB_ok h1
    refine PS.weak (ps_try_as (i := i) (c := .ref (TX.at_ k)) (tb := fun W' => tSt X.K TX b none W' (xss C b p)) (ts := fun A cls dd => tSt X.K TX b (some ⟨i, A, k, cls, dd⟩) noW (xss C b h)) (Wout := W) cx.stk cx.frame (by rw [cx.names]; exact cx.nd) hi
      (by show X.env.scope.names.lookup m = _; rw [cx.scope]; exact kindB_ok h2) ⟨g1, g2, .inl xk.gl⟩ cx.takes (fun W' pn xe tk po => hb W' (X.tr pn xe) ⟨rfl, rfl⟩ (Ctx.tr cx tk po)) hs) fun D τ H ⟨ρ, σ, S, so, eo, q⟩ => ?_
    unfold xst at q
    refine ⟨ρ, σ, S, so, eo, ?_⟩
    cases r : xss C b p σ S with
    | next σ1 S1 => rw [r] at q; exact q
    | ret v S1 => rw [r] at q; exact q
    | brk σ1 S1 => rw [r] at q; exact q
    | cont σ1 S1 => rw [r] at q; exact q
    | bad => rw [r] at q; exact q
    | exc d as σ1 S1 =>
      rw [r] at q
      intro ρ' H' τ' cls dd g so' eo' x
      have q := AtS.grow g q
      rw [caught_exc] at q
      refine ⟨decide (d = k), ?_, fun hd A hA => ?_, fun hd => ?_⟩
      · rw [x.2.1]
        exact cx.exm k d lt x.1
      · have hd : d = k := of_decide_eq_true hd
        subst hd
        rw [if_pos rfl] at q
        split at q
        · rename_i hl
          have hlen : i < σ1.length := of_decide_eq_true hl
          refine ⟨ρ', σ1.set i (some (.tup (.int d :: as))), S1, so', eo'.hold hlen x, ?_⟩
          have q : AtS X.K TX b none W D ρ' S1 H' (unslot (some i) (xss C b h (σ1.set i (some (.tup (.int d :: as)))) S1)) := q
          cases r2 : xss C b h (σ1.set i (some (.tup (.int d :: as)))) S1 with
          | next σ2 S2 => rw [r2] at q; exact fun ρ2 H2 τ2 g2 so2 eo2 => q ρ2 H2 _ g2 so2 eo2.unhold
          | brk σ2 S2 => rw [r2] at q; exact fun ρ2 H2 τ2 g2 so2 eo2 => q ρ2 H2 _ g2 so2 eo2.unhold
          | cont σ2 S2 => rw [r2] at q; exact fun ρ2 H2 τ2 g2 so2 eo2 => q ρ2 H2 _ g2 so2 eo2.unhold
          | ret v S2 => rw [r2] at q; exact q
          | exc c as σ2 S2 => rw [r2] at q; exact q.elim
          | bad => rw [r2] at q; exact q.elim
        · exact q.elim
      · have hd : ¬ d = k := of_decide_eq_false hd
        rw [if_neg hd] at q
        exact q ρ' H' τ' cls dd .refl so' eo' x
theorem u_try_only (cx : CtxS T TX C X W N sc true none) {p h : Ss} {k : Nat} {n : Str} {np hp : Pos} {body suite : List Stmt} {s0 : Stmt} (hg : gloB sc n = true) (hk : (T.cls[k]?.map (·.1)) = some n)
    (hb : ∀ (W' : WX) (Y : Cx), Y.K = X.K ∧ Y.mg = X.mg → CtxS T TX C Y W' N sc true none → PSs Y body (tSt Y.K TX b none W' (xss C b p)))
    (hs : ∀ (A : Addr) (pn : List (Addr × Obj)), PSs (X.suite A pn) (s0 :: suite) (tSt X.K TX b none noW (xss C b h))) :
    PS X (.Try body [.ExceptHandler (some (.Name n np)) none (s0 :: suite) hp] [] [] pos) (tSt X.K TX b none W (xst C b (.tryo p k none h))) := by
  obtain ⟨g1, g2, _, _⟩ := cx.gl hg
  cases e : T.cls[k]? with
  | none => rw [e] at hk; cases hk
  | some pp =>
    rw [e] at hk
    obtain ⟨n', fs, sup⟩ := pp
    have hk : n' = n := Option.some.inj hk
    subst hk
    have xk := cx.exc k _ e
    have lt : k < TX.n := by rw [cx.num]; exact (List.getElem?_eq_some_iff.mp e).1
    refine PS.weak (ps_try_only (c := .ref (TX.at_ k)) (tb := fun W' => tSt X.K TX b none W' (xss C b p)) (ts := fun A cls dd => tSt X.K TX b none noW (xss C b h)) (Wout := W) cx.stk cx.frame ⟨g1, g2, .inl xk.gl⟩ cx.takes
      (fun W' pn xe tk po => hb W' (X.tr pn xe) ⟨rfl, rfl⟩ (Ctx.tr cx tk po)) fun A oe cls dd pn _ _ => hs A _) fun D τ H ⟨ρ, σ, S, so, eo, q⟩ => ?_
    unfold xst at q
    refine ⟨ρ, σ, S, so, eo, ?_⟩
    cases r : xss C b p σ S with
    | next σ1 S1 => rw [r] at q; exact q
    | ret v S1 => rw [r] at q; exact q
    | brk σ1 S1 => rw [r] at q; exact q
    | cont σ1 S1 => rw [r] at q; exact q
    | bad => rw [r] at q; exact q
    | exc d as σ1 S1 =>
      rw [r] at q
      intro ρ' H' τ' cls dd g so' eo' x
      have q := AtS.grow g q
      rw [caught_exc] at q
      refine ⟨decide (d = k), ?_, fun hd A hA => ?_, fun hd => ?_⟩
      · rw [x.2.1]
        exact cx.exm k d lt x.1
      · have hd : d = k := of_decide_eq_true hd
        subst hd
        rw [if_pos rfl] at q
        have q : AtS X.K TX b none W D ρ' S1 H' (unslot none (xss C b h σ1 S1)) := q
        refine ⟨ρ', σ1, S1, so', eo', ?_⟩
        cases r2 : xss C b h σ1 S1 with
        | next σ2 S2 => rw [r2] at q; exact q
        | brk σ2 S2 => rw [r2] at q; exact q
        | cont σ2 S2 => rw [r2] at q; exact q
        | ret v S2 => rw [r2] at q; exact q
        | exc c as σ2 S2 => rw [r2] at q; exact q.elim
        | bad => rw [r2] at q; exact q.elim
      · have hd : ¬ d = k := of_decide_eq_false hd
        rw [if_neg hd] at q
        exact q ρ' H' τ' cls dd .refl so' eo' x
end
end MP
end
section
set_option Elab.async false
set_option linter.all false
set_option maxRecDepth 100000
set_option maxHeartbeats 1000000
/-! MPSound16: every statement that is looked at runs like its MP. -/
namespace MP
open PySem PySem.Spec PyProof.Rows L2
section
variable [RT] {T : Tab} {TX : Exc} {C : Nat → List PV → Sto → R PV} {X : Cx} {W : WX} {N : List Str} {sc : Scope} {b : Nat} {cl : Bool} {ex : Option Held}
theorem v_cond (hT : T.ok = true) {Y : Cx} {ifs : List Expr} {co : Eo} (m6 : (match ifs with
    | [] => (match co with
      | .none => true
      | .some _ => false)
    | [z] => troB T N sc true none co (some z) && (match co with
      | .none => false
      | .some _ => true)
    | _ => false) = true) (cy : Ctx T TX C Y noW N sc true none) : PTs Y ifs (tTs Y.K TX b none noW (evc C b co)) := by
  cases ifs with
  | nil =>
    cases co with
    | none => exact ⟨fun pins s τ H Q I hq => pts_nil.run pins s τ H Q I (by
        obtain ⟨ρ, σ, S, so, eo, q⟩ := hq
        exact At.ok (rel := relT) so (by unfold evc at q; exact q) rfl)⟩
    | some c => cases m6
  | cons z r =>
    cases r with
    | nil =>
      cases co with
      | none => simp [troB] at m6
      | some c =>
        have q := (Bool.and_eq_true_iff.mp m6).1
        unfold troB at q
        have p := sT (b := b) hT c (ex := none) cy q
        refine ⟨fun pins s τ H Q I hq => (pts_one p).run pins s τ H Q I ?_⟩
        obtain ⟨ρ, σ, S, so, eo, q⟩ := hq
        exact ⟨ρ, σ, S, so, eo, by unfold evc at q; exact q⟩
    | cons _ _ => cases m6
theorem v_lc (hT : T.ok = true) (cx : CtxS T TX C X W N sc cl ex) {i : Nat} {n : Str} {p pos : Pos} {e : E} {elt : Expr} {gs : List Comprehension} {s : Scope} {vp : Pos} (h1 : atB N i n = true) (h4 : trB T N sc cl (hxOf ex) e (.ListComp elt gs s vp) = true)
    (h5 : (isLc e && cl && decide (sc.kind = .function) && kindB sc n .local && (p.line == vp.line) && !(s.names.any fun q => q.1 == n && (q.2 == .local || q.2 == .cell))) = true) :
    PS X (.Assign [.Name n p] (.ListComp elt gs s vp) pos) (tSt X.K TX b ex W (xst C b (.asg (.of (.name i)) e))) := by
  simp only [Bool.and_eq_true, Bool.not_eq_true'] at h5
  obtain ⟨⟨⟨⟨⟨k0, k1⟩, k2⟩, k3⟩, k4⟩, k5⟩ := h5
  subst k1
  have cx' := cx.toCtx
  obtain ⟨nw, t, own, it, co, e', he⟩ : ∃ nw t own it co e', e = if nw = true then E.new (.lc t own it co e') else .lc t own it co e' := by
    unfold isLc at k0
    split at k0
    · rename_i t own it co e'
      exact ⟨false, t, own, it, co, e', rfl⟩
    · rename_i t own it co e'
      exact ⟨true, t, own, it, co, e', rfl⟩
    · cases k0
  have h : trB T N sc true (hxOf ex) (.lc t own it co e') (.ListComp elt gs s vp) = true := by
    cases nw with
    | false => rw [he] at h4; exact h4
    | true =>
      rw [he] at h4
      have h4 : trB T N sc true (hxOf ex) (E.new (.lc t own it co e')) (.ListComp elt gs s vp) = true := h4
      unfold trB at h4
      simp only [Bool.and_eq_true] at h4
      exact h4.1.1
  unfold trB at h
  split at h
  · rename_i heq
    cases heq
    simp only [Bool.and_eq_true] at h
    obtain ⟨⟨⟨⟨⟨⟨⟨_, m2⟩, m3⟩, m4⟩, m0⟩, m5⟩, m6⟩, m7⟩ := h
    have hn : ex = none := by
      cases ex with
      | none => rfl
      | some x => simp [hxOf] at m2
    subst hn
    have ht : ∀ Y : Cx, Y.K = X.K → Ctx T TX C Y noW N (relS s sc) true none → PTs Y _ (tTs Y.K TX b none noW (evc C b co)) := fun Y hY cy => v_cond hT m6 cy
    have hel : ∀ Y : Cx, Y.K = X.K → Ctx T TX C Y noW N (relS s sc) true none → PE Y elt (tE Y.K TX b none noW (ev C b e')) := fun Y hY cy => sE hT e' cy m7
    cases nw with
    | false =>
      rw [he]
      exact u_lc cx h1 k3 (of_decide_eq_true k2) k4 k5 m3 m4 (fun i hi => of_decide_eq_true (List.all_eq_true.mp m0 i hi)) (sIt hT it cx' m5) (folded_of m5 _) ht hel
    | true =>
      rw [he]
      exact u_lcN cx h1 k3 (of_decide_eq_true k2) k4 k5 m3 m4 (fun i hi => of_decide_eq_true (List.all_eq_true.mp m0 i hi)) (sIt hT it cx' m5) (folded_of m5 _) ht hel
  · cases h
theorem none_of {hx : Option Held} (h : (hxOf hx).isNone = true) : hx = none := by
  cases hx with
  | none => rfl
  | some x => simp [hxOf] at h
theorem v_asg (hT : T.ok = true) (cx : CtxS T TX C X W N sc cl ex) {t : Tt} {e : E} {s : Stmt} (h : trS T N sc cl (hxOf ex) (.asg t e) s = true) (hh : t = t → True) : PS X s (tSt X.K TX b ex W (xst C b (.asg t e))) := by
  have cx' := cx.toCtx
  unfold trS at h
  split at h
  · rename_i g v pos
    split at h
    · rename_i i
      split at h
      · simp only [Bool.and_eq_true] at h
        obtain ⟨⟨⟨⟨h1, h2⟩, h3⟩, h4⟩, h5⟩ := h
        have h3' : ∀ q, hxOf ex = some q → q.1 ≠ i := fun q hq e => by
          rw [hq] at h3
          simp [e] at h3
        cases hn : notComp v with
        | true => exact u_name cx h1 h2 h3' (sE hT e cx' h4) (swaps_of hn _ _ _)
        | false =>
          rw [hn, Bool.false_or] at h5
          split at h5
          · exact v_lc hT cx h1 h4 h5
          · cases h5
      · cases h
    · simp only [Bool.and_eq_true] at h
      obtain ⟨⟨⟨⟨h1, h2⟩, h3⟩, h4⟩, h5⟩ := h
      subst h1
      have hn : ex = none := by
        cases ex with
        | none => rfl
        | some x =>
          obtain ⟨_, _, hc, _⟩ := cx.held x rfl
          rw [cx.calm rfl] at hc
          cases hc
      subst hn
      exact u_tup cx h2 (sE hT e cx' h3) h4 h5
    · simp only [Bool.and_eq_true] at h
      obtain ⟨⟨⟨h1, h2⟩, h3⟩, h4⟩ := h
      subst h1
      split at h2
      · simp only [Bool.and_eq_true, Bool.not_eq_true'] at h2
        obtain ⟨⟨m1, m2⟩, m3⟩ := h2
        exact u_sub cx (sE hT _ cx' m1) (sE hT _ cx' m2) m3 (sE hT e cx' h3) h4
      · cases h2
    · cases h
  · cases h
theorem held_none (cx : CtxS T TX C X W N sc true ex) : ex = none := by
  cases ex with
  | none => rfl
  | some x =>
    obtain ⟨_, _, hc, _⟩ := cx.held x rfl
    rw [cx.calm rfl] at hc
    cases hc
theorem nostar_of {hx : Option (Nat × Nat)} {e : E} {f : Expr} (h : trB T N sc cl hx e f = true) : ∀ w q, f ≠ .Starred w q := by
  intro w q z
  subst z
  have := star_of h [] default
  cases this
theorem v_par (hT : T.ok = true) (cx : CtxS T TX C X W N sc cl ex) {i j : Nat} {a c : E} {s : Stmt} (h : trS T N sc cl (hxOf ex) (.par i j a c) s = true) : PS X s (tSt X.K TX b ex W (xst C b (.par i j a c))) := by
  have cx' := cx.toCtx
  unfold trS at h
  split at h
  · simp only [Bool.and_eq_true, Bool.not_eq_true'] at h
    obtain ⟨⟨⟨⟨⟨⟨⟨⟨⟨⟨⟨⟨h1, h2⟩, h3⟩, h4⟩, h5⟩, h6⟩, h7⟩, h8⟩, h9⟩, h10⟩, h11⟩, h12⟩, h13⟩ := h
    subst h1
    have hn := held_none cx
    subst hn
    exact u_par cx h2 h3 (of_decide_eq_false h4) h5 h6 (of_decide_eq_true h7) h8 (of_decide_eq_false h9) h10 h11 (sE hT a cx' h12) (sE hT c cx' h13) (fun es => star_of h12 es _) (star_of h13 _ _) (nostar_of h12) (nostar_of h13)
  · cases h
theorem v_append (hT : T.ok = true) (cx : CtxS T TX C X W N sc cl ex) {a e : E} {s : Stmt} (h : trS T N sc cl (hxOf ex) (.append a e) s = true) : PS X s (tSt X.K TX b ex W (xst C b (.append a e))) := by
  have cx' := cx.toCtx
  unfold trS at h
  split at h
  · rename_i x f ap v cp pos
    simp only [Bool.and_eq_true] at h
    obtain ⟨⟨⟨⟨⟨h1, h2⟩, h3⟩, h4⟩, h5⟩, h6⟩ := h
    subst h1
    have hf : f = "append" := of_decide_eq_true h2
    subst hf
    refine u_append (sE hT a cx' h4) (sE hT e cx' h5) ?_ h3 (star_of h5 _ _)
    split at h6
    · rfl
    · rfl
    · cases h6
  · cases h
theorem v_raise (cx : CtxS T TX C X W N sc cl ex) {k : Nat} {es : Es} {s : Stmt} (h : trS T N sc cl (hxOf ex) (.raise k es) s = true) : PS X s (tSt X.K TX b ex W (xst C b (.raise k es))) := by
  unfold trS at h
  split at h
  · simp only [Bool.and_eq_true] at h
    obtain ⟨⟨⟨h1, h2⟩, h3⟩, h4⟩ := h
    subst h1
    cases es with
    | nil => exact u_raise0 cx h2 (of_decide_eq_true h3)
    | cons _ _ => cases h4
  · cases h
end
section
variable [RT] {T : Tab} {TX : Exc} {C : Nat → List PV → Sto → R PV} {N : List Str} {b : Nat}
mutual
theorem sS (hT : T.ok = true) : ∀ (p : MP.St) {s : Stmt} {X : Cx} {W : WX} {sc : Scope} {cl : Bool} {ex : Option Held}, (∀ c, SuiteOk T TX X.K X.mg c) → CtxS T TX C X W N sc cl ex → trS T N sc cl (hxOf ex) p s = true → PS X s (tSt X.K TX b ex W (xst C b p))
  | .asg t e, s, X, W, sc, cl, ex, sk, cx, h => v_asg hT cx h fun _ => trivial
  | .par i j a c, s, X, W, sc, cl, ex, sk, cx, h => v_par hT cx h
  | .append a e, s, X, W, sc, cl, ex, sk, cx, h => v_append hT cx h
  | .raise k es, s, X, W, sc, cl, ex, sk, cx, h => v_raise cx h
  | .aug i o e, s, X, W, sc, cl, ex, sk, cx, h => by
    have cx' := cx.toCtx
    unfold trS at h
    split at h
    · simp only [Bool.and_eq_true] at h
      obtain ⟨⟨⟨⟨h1, h2⟩, h3⟩, h4⟩, h5⟩ := h
      subst h1
      have hn := held_none cx
      subst hn
      cases o with
      | add => exact u_aug cx h3 h4 (fun q hq => by cases hq) (sE hT e cx' h5)
      | _ => cases h2
    · cases h
  | .augA _ _ _, s, X, W, sc, cl, ex, sk, cx, h => by simp [trS] at h
  | .expr e, s, X, W, sc, cl, ex, sk, cx, h => by
    unfold trS at h
    split at h
    · have h' := Bool.and_eq_true_iff.mp h
      exact u_expr (sE hT e cx.toCtx h'.1) h'.2
    · cases h
  | .ifs c p q, s, X, W, sc, cl, ex, sk, cx, h => by
    unfold trS at h
    split at h
    · simp only [Bool.and_eq_true] at h
      exact u_if (sT hT c cx.toCtx h.1.1) (sSs hT p sk cx h.1.2) (sSs hT q sk cx h.2)
    · cases h
  | .fors t it p, s, X, W, sc, cl, ex, sk, cx, h => by
    unfold trS at h
    split at h
    · simp only [Bool.and_eq_true] at h
      obtain ⟨⟨⟨⟨h1, h2⟩, h3⟩, h4⟩, h5⟩ := h
      subst h1
      have hn := none_of h2
      subst hn
      exact u_for cx h3 (sIt hT it cx.toCtx h4) (folded_of h4 _) (sSs hT p sk cx h5)
    · cases h
  | .whiles c p, s, X, W, sc, cl, ex, sk, cx, h => by
    unfold trS at h
    split at h
    · simp only [Bool.and_eq_true] at h
      obtain ⟨⟨⟨h1, h2⟩, h3⟩, h4⟩ := h
      subst h1
      have hn := none_of h2
      subst hn
      exact u_while cx (sT hT c cx.toCtx h3) (sSs hT p sk cx h4)
    · cases h
  | .ret e, s, X, W, sc, cl, ex, sk, cx, h => by
    unfold trS at h
    split at h
    · exact u_ret (sE hT e cx.toCtx h)
    · cases h
  | .retN, s, X, W, sc, cl, ex, sk, cx, h => by
    unfold trS at h
    split at h
    · exact u_retN
    · cases h
  | .tryo p k i q, s, X, W, sc, cl, ex, sk, cx, h => by
    unfold trS at h
    split at h
    · simp only [Bool.and_eq_true] at h
      obtain ⟨⟨⟨⟨⟨h1, h2⟩, h3⟩, h4⟩, h5⟩, h6⟩ := h
      subst h1
      have hn := none_of h2
      subst hn
      have hb : ∀ (W' : WX) (Y : Cx), Y.K = X.K ∧ Y.mg = X.mg → CtxS T TX C Y W' N sc true none → PSs Y _ (tSt Y.K TX b none W' (xss C b p)) := fun W' Y e cy => sSs hT p (by rw [e.1, e.2]; exact sk) cy h5
      split at h6
      · rename_i k' y
        simp only [Bool.and_eq_true] at h6
        obtain ⟨⟨m1, m2⟩, m3⟩ := h6
        exact u_try_as cx h3 (of_decide_eq_true h4) m1 m2 hb fun A oe cls dd pn hz hv => sSs hT q (X := X.suite A ((A, oe) :: pn)) (ex := some ⟨k', A, k, cls, dd⟩) sk (Ctx.su cx sk hz hv k k') m3
      · exact u_try_only cx h3 (of_decide_eq_true h4) hb fun A pn => sSs hT q (X := X.suite A pn) (ex := none) sk (Ctx.su0 cx) h6
      · cases h6
    · cases h
  | .pass, s, X, W, sc, cl, ex, sk, cx, h => by
    unfold trS at h
    split at h
    · exact u_pass
    · cases h
  | .brk, s, X, W, sc, cl, ex, sk, cx, h => by
    unfold trS at h
    split at h
    · exact u_brk
    · cases h
  | .cont, s, X, W, sc, cl, ex, sk, cx, h => by
    unfold trS at h
    split at h
    · exact u_cont
    · cases h
theorem sSs (hT : T.ok = true) : ∀ (p : Ss) {s : List Stmt} {X : Cx} {W : WX} {sc : Scope} {cl : Bool} {ex : Option Held}, (∀ c, SuiteOk T TX X.K X.mg c) → CtxS T TX C X W N sc cl ex → trSs T N sc cl (hxOf ex) p s = true → PSs X s (tSt X.K TX b ex W (xss C b p))
  | .nil, [], X, W, sc, cl, ex, sk, cx, h => u_nil
  | .nil, _ :: _, X, W, sc, cl, ex, sk, cx, h => by simp [trSs] at h
  | .cons _ _, [], X, W, sc, cl, ex, sk, cx, h => by simp [trSs] at h
  | .cons p q, s :: ss, X, W, sc, cl, ex, sk, cx, h => by
    have h' := Bool.and_eq_true_iff.mp (by simpa [trSs] using h)
    exact u_cons (sS hT p sk cx h'.1) (sSs hT q sk cx h'.2)
end
end
end MP
end
section
set_option Elab.async false
set_option linter.all false
set_option maxRecDepth 100000
set_option maxHeartbeats 1000000
/-! MPSound17: defs by their bodies; what the top leaves; the end of a law. -/
namespace MP
open PySem PySem.Spec PyProof.Rows L2
/-! ### defs -/
/-- a def: its name, its row of the text, its names by slot, its parameters, its MP -/
structure DefT where
  name : Str
  st : Stmt
  N : List Str
  ps : List Str
  fd : FDef
def scopeB (N ps : List Str) (sc : Scope) : Bool :=
  decide (sc.kind = .function) && !sc.isCoroutine && !sc.isGenerator && decide N.Nodup && decide (N.take ps.length = ps) && (ps.all fun x => locB sc x) && (sc.names.all fun y => !decide (y.2 = .free))
def DefT.look (T : Tab) (t : DefT) : Bool := scopeB t.N t.ps (defScope t.st) && trSs T t.N (defScope t.st) true none t.fd.body (defBody t.st) && decide (t.ps.length = t.fd.np) && decide (t.N.length = t.fd.nn)
theorem scopeB_ok {N ps : List Str} {sc : Scope} (h : scopeB N ps sc = true) : FnScope N ps sc := by
  unfold scopeB at h
  simp only [Bool.and_eq_true, Bool.not_eq_true'] at h
  obtain ⟨⟨⟨⟨⟨⟨h1, h2⟩, h3⟩, h4⟩, h5⟩, h6⟩, h7⟩ := h
  refine ⟨of_decide_eq_true h1, h2, h3, of_decide_eq_true h4, of_decide_eq_true h5, fun x hx => ?_, fun y hy e => ?_⟩
  · have z := List.all_eq_true.mp h6 x hx
    haveI : RT := ⟨fun _ => 0, fun _ => []⟩
    exact (locB_ok z)
  · have z := List.all_eq_true.mp h7 y hy
    simp [e] at z
/-- what the text's top leaves -/
structure GlobOk [RT] (T : Tab) (TX : Exc) (D : List DefT) (K : PySem.W.Frag) (mg : Str → Option Value) : Prop where
  free : ∀ x, T.bi.contains x = true → (x = "gcd" → mg x = some (.builtin "math.gcd")) ∧ (x ≠ "gcd" → mg x = none)
  glb : ∀ p ∈ T.glb, ∃ w u, mg p.1 = some u ∧ RelV w u ∧ ∀ ρ H, RelP K ρ H p.2 w
  rcs : ∀ (c : Nat) (p : Str × List Str), T.rcs[c]? = some p → RcK K mg c p
  kit : ∀ (c d : Nat), c < T.rcs.length → d < T.rcs.length → PySem.W.kitOne K (.ref (RT.rc d)) (.ref (RT.rc c)) = some (decide (d = c))
  num : TX.n = T.cls.length
  exc : ∀ (c : Nat) (p : Str × List Str × List Str), T.cls[c]? = some p → ExcK K mg (TX.at_ c) p.1 p.2.1
  exm : ∀ c d, c < TX.n → d < TX.n → PySem.W.exmOne K (.ref (TX.at_ d)) (.ref (TX.at_ c)) = some (decide (d = c))
  attrs : ∀ (c : Nat) (p : Str × List Str × List Str), T.cls[c]? = some p → TX.attrs c = p.2.1
  suite : ∀ c, SuiteOk T TX K mg c
  fns : ∀ (f : Nat) (t : DefT), D[f]? = some t → ∃ fa fdata, mg t.name = some (.ref fa) ∧ PySem.W.keepIn K (.ref fa) = true ∧ Binds K fdata t.ps [] ∧ (∀ (s : Shared) (us : List Value), us.length = t.ps.length → BindsTo s fdata ⟨us, []⟩ (t.ps.zip us)) ∧ FunD K t.name t.name (defArgs t.st) (defBody t.st) (defScope t.st) [] [] fa fdata
section
variable [RT] {T : Tab} {TX : Exc} {D : List DefT} {K : PySem.W.Frag} {mg : Str → Option Value} {P : Program} {w : World} {base : Heap}
/-- a def's promise, d calls deep -/
abbrev spF (K : PySem.W.Frag) (TX : Exc) (D : List DefT) (d f : Nat) : Sp := spC K TX (callN (D.map (·.fd)) d f)
theorem start_env {TX : Exc} {ρ : List Addr} {H : Hp} {args : List PV} {vs : List V} {N : List Str} {np : Nat} (r : RelPs K ρ H args vs) (h1 : args.length = np) : EnvOk K TX none ρ H (args.map some ++ List.replicate (N.length - np) none) (L2.start N vs) := by
  have hl := r.length
  refine ⟨by simp [L2.start, ← hl, h1], fun i v h _ => ?_, fun x hx => by cases hx⟩
  by_cases hi : i < args.length
  · rw [List.getElem?_append_left (by simpa using hi), List.getElem?_map] at h
    cases e : args[i]? with
    | none => rw [e] at h; cases h
    | some u =>
      rw [e] at h
      have h : u = v := by simpa using h
      subst h
      obtain ⟨w, h2, h3⟩ := r.get e
      refine ⟨w, ?_, h3⟩
      unfold L2.start
      rw [List.getElem?_append_left (by simpa [← hl] using hi), List.getElem?_map, h2]
      rfl
  · rw [List.getElem?_append_right (by simpa using Nat.le_of_not_lt hi), List.getElem?_replicate] at h
    split at h <;> cases h
theorem paired_und {α β : Type} {F G : α → β → Prop} {g : α → Bool} (f : ∀ a b, g a = true → F a b → G a b) : ∀ {xs : List α} {ys : List β}, (xs.all g) = true → Paired F xs ys → Paired G xs ys
  | _, _, _, .nil => .nil
  | _, _, h, .cons p t => by
    rw [List.all_cons, Bool.and_eq_true] at h
    exact .cons (f _ _ h.1 p) (paired_und f h.2 t)
theorem paired_all {α β : Type} {F : α → β → Prop} {g : α → Bool} (f : ∀ a b, F a b → g a = true) : ∀ {xs : List α} {ys : List β}, Paired F xs ys → (xs.all g) = true
  | _, _, .nil => rfl
  | _, _, .cons p t => by rw [List.all_cons, f _ _ p, paired_all f t]; rfl
theorem unds_all {n : Nat} {κ : Type} : ∀ (kvs : List (κ × PV)), PV.unds n (kvs.map (·.2)) = kvs.all fun p => p.2.und n
  | [] => rfl
  | p :: kvs => by
    have ih := unds_all (n := n) kvs
    rw [List.map_cons, List.all_cons, ← ih]
    rfl
theorem CellOk.und {ρ : List Addr} {H : Hp} {a : Addr} {c : Cell} (co : CellOk K ρ H a c) : c.und ρ.length = true := by
  cases c with
  | lst xs => obtain ⟨vs, r, _⟩ := co; exact r.und
  | ro xs => obtain ⟨vs, r, _⟩ := co; exact r.und
  | ins c fs => obtain ⟨dx, vs, r, _⟩ := co; exact r.und
  | dT kvs =>
    obtain ⟨xs, r, _⟩ := co
    show PV.unds _ _ = true
    rw [unds_all]
    exact paired_all (fun _ _ z => let ⟨_, q, _⟩ := z.2.2; q.und) r.rel
  | dK kvs =>
    obtain ⟨xs, r, _⟩ := co
    show PV.unds _ _ = true
    rw [unds_all]
    exact paired_all (fun _ _ z => z.2.und) r
theorem CellOk.cut {ρ ρ' : List Addr} {n : Nat} {H : Hp} {a : Addr} {c : Cell} (tk : ρ'.take n <+: ρ) (u : c.und n = true) (co : CellOk K ρ' H a c) : CellOk K ρ H a c := by
  cases c with
  | lst xs => obtain ⟨vs, r, z⟩ := co; exact ⟨vs, r.cut tk u, z⟩
  | ro xs => obtain ⟨vs, r, z⟩ := co; exact ⟨vs, r.cut tk u, z⟩
  | ins c fs => obtain ⟨dx, vs, r, z⟩ := co; exact ⟨dx, vs, r.cut tk u, z⟩
  | dT kvs =>
    obtain ⟨xs, r, z⟩ := co
    have u : PV.unds n (kvs.map (·.2)) = true := u
    rw [unds_all] at u
    exact ⟨xs, ⟨paired_und (fun _ _ g z => ⟨z.1, z.2.1, let ⟨w, q, l⟩ := z.2.2; ⟨w, q.cut tk g, l⟩⟩) u r.rel⟩, z⟩
  | dK kvs =>
    obtain ⟨xs, r, z⟩ := co
    have u : PV.unds n (kvs.map (·.2)) = true := u
    rw [unds_all] at u
    exact ⟨xs, paired_und (fun _ _ g z => ⟨z.1, z.2.cut tk g⟩) u r, z⟩
/-- what a def made is forgotten -/
theorem trunc_ok {ρ ρ' : List Addr} {S S1 : Sto} {H H' : Hp} (so : StOk K S.cells.length ρ S H) (g : Grow S.cells.length ρ ρ' ⟨S.cells, false⟩ S1 H H') (so' : StOk K S.cells.length ρ' S1 H') (hd : S1.dirty = false) :
    Grow S.cells.length ρ ρ S ⟨S1.cells.take S.cells.length, S.dirty⟩ H H' ∧ StOk K S.cells.length ρ ⟨S1.cells.take S.cells.length, S.dirty⟩ H' := by
  have okS : okU S.cells.length S.cells := fun k c hk q => by
    obtain ⟨a, ha⟩ := so.lt q
    have z := (so.cell k c a q ha).und
    rw [so.len] at z
    exact z
  obtain ⟨_, u⟩ := g.und hd
  have okT := u _ (Nat.le_refl _) okS
  have gl : S.cells.length ≤ S1.cells.length := g.len
  have hlen : (S1.cells.take S.cells.length).length = S.cells.length := by
    rw [List.length_take]
    omega
  have tk : ρ'.take S.cells.length <+: ρ := by
    obtain ⟨t, rfl⟩ := g.pre
    rw [← so.len, List.take_left]
    exact List.prefix_refl _
  have get : ∀ {k : Nat} {c : Cell}, (S1.cells.take S.cells.length)[k]? = some c → k < S.cells.length ∧ S1.cells[k]? = some c := fun {k c} q => by
    have h1 := (List.getElem?_eq_some_iff.mp q).1
    rw [hlen] at h1
    rw [List.getElem?_take_of_lt h1] at q
    exact ⟨h1, q⟩
  refine ⟨⟨g.keep, List.prefix_refl _, by rw [hlen]; exact Nat.le_refl _, fun a o e n => ⟨(g.frame a o e n).1, n⟩, fun e => ⟨e, fun n hn us k c hk q => ?_⟩⟩, ⟨by rw [hlen]; exact so.len, fun k c a q e => ?_, fun j k a c d e1 e2 q1 q2 n1 n2 => ?_, by rw [hlen]; exact Nat.le_refl _⟩⟩
  · obtain ⟨h1, q⟩ := get q
    exact u n hn us k c hk q
  · obtain ⟨h1, q⟩ := get q
    exact (so'.cell k c a q (pre_get g.pre e)).cut tk (okT k c h1 q)
  · obtain ⟨_, q1⟩ := get q1
    obtain ⟨_, q2⟩ := get q2
    exact so'.inj j k a c d (pre_get g.pre e1) (pre_get g.pre e2) q1 q2 n1 n2
/-- leaving a def -/
theorem fin_ok {E : XK} {ρ ρ' : List Addr} {S S1 : Sto} {H H' : Hp} {v : PV} {w : V} {Q : VK} (so : StOk K S.cells.length ρ S H) (g : Grow S.cells.length ρ ρ' ⟨S.cells, false⟩ S1 H H') (so' : StOk K S.cells.length ρ' S1 H') (r : RelP K ρ' H' v w)
    (h : At K TX S.cells.length E (relE K) ρ S H (fin S v S1) Q) : Q w H' := by
  unfold fin at h
  split at h
  · rename_i hp
    have hp' := Bool.and_eq_true_iff.mp hp
    obtain ⟨g2, so2⟩ := trunc_ok so g so' (by simpa using hp'.2)
    exact h ρ H' w g2 so2 (r.pure_any hp'.1)
  · refine h ρ' H' w ⟨g.keep, g.pre, g.len, g.frame, fun e => ?_⟩ ⟨so'.len, so'.cell, so'.inj, so'.base⟩ r
    have e' : S.dirty = false ∧ S1.dirty = false := by simpa using e
    exact ⟨e'.1, (g.und e'.2).2⟩
theorem finX_ok {E : XK} {ρ ρ' : List Addr} {S S1 : Sto} {H H' : Hp} {c : Nat} {as : List PV} {cls : Value} {d : Option Addr} {Q : VK} (so : StOk K S.cells.length ρ S H) (g : Grow S.cells.length ρ ρ' ⟨S.cells, false⟩ S1 H H') (so' : StOk K S.cells.length ρ' S1 H') (x : ExcOk K TX ρ' H' c as cls d)
    (h : At K TX S.cells.length E (relE K) ρ S H (if PV.pures as && !S1.dirty then .exc c as ⟨S1.cells.take S.cells.length, S.dirty⟩ else .bad) Q) : E cls d H' := by
  split at h
  · rename_i hp
    have hp' := Bool.and_eq_true_iff.mp hp
    obtain ⟨g2, so2⟩ := trunc_ok so g so' (by simpa using hp'.2)
    refine h ρ H' cls d g2 so2 ?_
    obtain ⟨h0, h1, h2, h3⟩ := x
    exact ⟨h0, h1, h2, h3.imp id fun ⟨n, dd, ws, e, z, r⟩ => ⟨n, dd, ws, e, z, r.pure_any hp'.1⟩⟩
  · exact h.elim
theorem _root_.L2.FunD.lk {x qual : Str} {params : Arguments} {body : List Stmt} {scope : Scope} {dvs : List V} {kws : List (Str × V)} {f : Addr} {fd : FuncData} (F : FunD K x qual params body scope dvs kws f fd) : ∃ oc od osl, K.lookup f = some ⟨oc, od, .func fd, osl⟩ := by
  obtain ⟨oc, od, dV, kV, doc, pm, an, cdv, ct, osl, rfl, lk, _⟩ := F.ex
  exact ⟨oc, od, osl, lk⟩
theorem room65 {k : Nat} {A : Around} (r : Room k A) : A.units + 65 < cLine := by have := r.un; omega
/-- every def keeps its promise -/
theorem fn_all (hT : T.ok = true) (hD : (D.all fun t => t.look T) = true) (hn : T.fns = D.map fun t => some t.name) (hi0 : T.inits = []) (hm0 : T.meths = []) (sr : base.NoSeer) (tr : P.given.tree = none) (G : GlobOk T TX D K mg) : ∀ (d f : Nat) (t : DefT), D[f]? = some t →
    ∃ fa fdata, mg t.name = some (.ref fa) ∧ PySem.W.keepIn K (.ref fa) = true ∧ Binds K fdata t.ps [] ∧ (∀ (s : Shared) (us : List Value), us.length = t.ps.length → BindsTo s fdata ⟨us, []⟩ (t.ps.zip us)) ∧ FnOk P w K mg base (L2.CX P w) (40 + d) fa fdata t.ps (spF K TX D d f) ∧ ∃ oc od osl, K.lookup fa = some ⟨oc, od, .func fdata, osl⟩
  | 0, f, t, h => by
    obtain ⟨fa, fdata, h1, h2, h3, h4, F⟩ := G.fns f t h
    refine ⟨fa, fdata, h1, h2, h3, h4, ⟨fun vs H Q E q => ?_, fun A outer s H args us vs Q E hr e0 hb hv q => ?_⟩, F.lk⟩
    · obtain ⟨ρ, S, args, so, r, q⟩ := q
      unfold callN at q
      exact q.elim
    · obtain ⟨ρ, S, args, so, r, q⟩ := q
      unfold callN at q
      exact q.elim
  | d + 1, f, t, h => by
    have IH := fn_all hT hD hn hi0 hm0 sr tr G d
    obtain ⟨fa, fdata, h1, h2, h3, h4, F⟩ := G.fns f t h
    have lk := List.all_eq_true.mp hD t (List.mem_of_getElem? h)
    unfold DefT.look at lk
    simp only [Bool.and_eq_true] at lk
    obtain ⟨⟨⟨l1, l2⟩, l3⟩, l4⟩ := lk
    have l3 : t.ps.length = t.fd.np := of_decide_eq_true l3
    have l4 : t.N.length = t.fd.nn := of_decide_eq_true l4
    have SC := scopeB_ok l1
    have body : ∀ {args : List PV} {S : Sto}, callN (D.map (·.fd)) (d + 1) f args S = if args.length = t.fd.np then runF (callN (D.map (·.fd)) d) t.fd args S else .bad := fun {args S} => by
      rw [callN, List.getElem?_map, h]
      rfl
    refine ⟨fa, fdata, h1, h2, h3, h4, F.ok SC (fun vs H Q E q => ?_) (fun cdv A outer s H vs Q E hr q => ?_), F.lk⟩
    · obtain ⟨ρ, S, args, so, r, q⟩ := q
      rw [body] at q
      split at q
      · rename_i hl
        rw [l3, ← hl, r.length]
      · exact q.elim
    · let X : Cx := cxOf (L2.CX P w) P w K mg base t.N t.name (defScope t.st) fa cdv A outer s H E
      have cx : CtxS T TX (callN (D.map (·.fd)) d) X (fun cls dd _ H' => E cls dd H') t.N (defScope t.st) true none :=
        { scope := rfl, names := rfl, nd := SC.nd, takes := takes_of rfl rfl rfl rfl, calm := (fun _ => rfl), unit := room65 hr, free := G.free, glb := G.glb, wide := ⟨by have hr' : Room (40 + d) (A.deeper (envOfC t.name (defScope t.st) s.heap.objs.size fa cdv)) := hr; have q := hr'.dp; have e : recursionLimit = 1000 := rfl; rw [e] at q; show (A.deeper (envOfC t.name (defScope t.st) s.heap.objs.size fa cdv)).depth + 100 < 1000; omega, sr, tr, _, _, rfl, SC.gen, SC.co, rfl, rfl⟩, rcs := G.rcs, kit := G.kit, inits := (fun _ c f h => by rw [hi0] at h; cases h), meths := (fun _ c m f h => by rw [hm0] at h; cases h), num := G.num, exc := G.exc, exm := G.exm, attrs := G.attrs, held := (fun x hx => by cases hx), stk := rfl, frame := rfl,
          po := (fun _ => passes_of rfl), fn := (fun _ => rfl),
          fns := (fun _ g x hg => by
            rw [hn, List.getElem?_map] at hg
            cases e : D[g]? with
            | none => rw [e] at hg; cases hg
            | some u =>
              rw [e] at hg
              have hg : u.name = x := by simpa using hg
              subst hg
              obtain ⟨ga, gd, k1, k2, k3, _, k4, _⟩ := IH g u e
              exact ⟨ga, gd, u.ps, 40 + d, k1, k2, k3, k4, hr⟩) }
      obtain ⟨ρ, S, args, so, r, q⟩ := q
      rw [body] at q
      split at q
      · rename_i hl
        refine ⟨_, sSs (b := S.cells.length) hT t.fd.body G.suite cx l2, ρ, args.map some ++ List.replicate (t.N.length - t.fd.np) none, ⟨S.cells, false⟩, ⟨so.len, so.cell, so.inj, Nat.le_refl _⟩, start_env r hl, ?_⟩
        unfold runF at q
        rw [l4]
        cases e : xss (callN (D.map (·.fd)) d) S.cells.length t.fd.body (args.map some ++ List.replicate (t.fd.nn - t.fd.np) none) ⟨S.cells, false⟩ with
        | next σ1 S1 => rw [e] at q; exact fun ρ' H' τ g so' eo' => fin_ok so g so' .non q
        | ret v S1 => rw [e] at q; exact fun ρ' H' w g so' r' => fin_ok so g so' r' q
        | exc c as σ1 S1 => rw [e] at q; exact fun ρ' H' τ cls dd g so' eo' x => finX_ok so g so' x q
        | brk σ1 S1 => rw [e] at q; exact q.elim
        | cont σ1 S1 => rw [e] at q; exact q.elim
        | bad => rw [e] at q; exact q.elim
      · exact q.elim
end
end MP
end
section
set_option Elab.async false
set_option linter.all false
set_option maxRecDepth 100000
set_option maxHeartbeats 1000000
/-! MPSound18: the look at what the top leaves; the end of a law. -/
namespace MP
open PySem PySem.Spec PyProof.Rows L2 He
/-- a value that stays, as the top has it -/
def pvB (K : PySem.W.Frag) : Nat → PV → Value → Bool
  | 0, _, _ => false
  | n + 1, v, u => match v, u with
    | .non, .none => true
    | .bl a, .bool c => a == c
    | .int a, .int c _ => decide (a = c)
    | .str a, .str c _ => decide (a = c)
    | .tup xs, .ref p => match K.lookup p with
      | some ⟨.type c, _, .seq its _, _⟩ => decide (c = "tuple") && decide (its.size ≤ sizeLine) && decide (xs.length = its.toList.length) && (xs.zip its.toList).all fun q => pvB K n q.1 q.2
      | _ => false
    | _, _ => false
theorem pvB_ok [RT] {K : PySem.W.Frag} : ∀ {n : Nat} {v : PV} {u : Value}, pvB K n v u = true → ∃ w, RelV w u ∧ ∀ ρ H, RelP K ρ H v w
  | 0, _, _, h => by cases h
  | n + 1, v, u, h => by
    unfold pvB at h
    split at h
    · exact ⟨.non, rfl, fun _ _ => .non⟩
    · rename_i a c
      have e : a = c := eq_of_beq h
      subst e
      exact ⟨.bl a, rfl, fun _ _ => .bl a⟩
    · rename_i a c t
      have e : a = c := of_decide_eq_true h
      subst e
      exact ⟨.int a, ⟨t, rfl⟩, fun _ _ => .int a⟩
    · rename_i a c t
      have e : a = c := of_decide_eq_true h
      subst e
      exact ⟨.str a, ⟨t, rfl⟩, fun _ _ => .str a⟩
    · rename_i xs p
      split at h
      · rename_i c dd its m sl hk
        simp only [Bool.and_eq_true] at h
        obtain ⟨⟨⟨h1, h2⟩, h3⟩, h4⟩ := h
        have h1 : c = "tuple" := of_decide_eq_true h1
        subst h1
        have h3 : xs.length = its.toList.length := of_decide_eq_true h3
        have all : ∀ (ys : List PV) (us : List Value), ys.length = us.length → ((ys.zip us).all fun q => pvB K n q.1 q.2) = true → ∃ ws, Vals ws us ∧ ∀ ρ H, RelPs K ρ H ys ws := by
          intro ys
          induction ys with
          | nil =>
            intro us e _
            cases us with
            | nil => exact ⟨[], .nil, fun _ _ => .nil⟩
            | cons _ _ => cases e
          | cons y ys ih =>
            intro us e a
            cases us with
            | nil => cases e
            | cons u us =>
              rw [List.zip_cons_cons, List.all_cons, Bool.and_eq_true] at a
              obtain ⟨w, r1, r2⟩ := pvB_ok a.1
              obtain ⟨ws, s1, s2⟩ := ih us (by simpa using e) a.2
              exact ⟨w :: ws, .cons r1 s1, fun ρ H => .cons (r2 ρ H) (s2 ρ H)⟩
        obtain ⟨ws, s1, s2⟩ := all xs its.toList h3 h4
        exact ⟨.ref p, rfl, fun ρ H => .tup (.inr ⟨_, its, m, hk, rfl, rfl, of_decide_eq_true h2, s1⟩) (s2 ρ H)⟩
      · cases h
    · cases h
/-- the classes of records of a text -/
abbrev rtOf (T : Tab) (K : PySem.W.Frag) : RT := ⟨fun c => match T.rcs[c]? with
  | some p => ga K p.1
  | none => 0, fun c => match T.rcs[c]? with
  | some p => p.2
  | none => []⟩
def clAt (T : Tab) (K : PySem.W.Frag) (c : Nat) : Addr := match T.cls[c]? with
  | some p => ga K p.1
  | none => 0
def txOf (T : Tab) (K : PySem.W.Frag) : Exc := ⟨T.cls.length, clAt T K, fun c => match T.cls[c]? with
  | some p => p.2.1
  | none => []⟩
def oVal (a : Option (Option Value)) (b : Option (Option Value)) : Bool := decide (a = b)
def freeB (K : PySem.W.Frag) (x : Str) : Bool := if x = "gcd" then oVal (PySem.W.nsIn K mainGlobals x) (some (some (.builtin "math.gcd"))) else oVal (PySem.W.nsIn K mainGlobals x) (some none)
def glbB (K : PySem.W.Frag) (p : Str × PV) : Bool := match PySem.W.nsIn K mainGlobals p.1 with
  | some (some u) => pvB K 20 p.2 u
  | _ => false
/-- a class that isinstance may be asked of -/
def supB (K : PySem.W.Frag) (A : Addr) (z : Str) : Bool := match PySem.W.nsIn K mainGlobals z with
  | some (some (.ref a)) => decide (PySem.W.kitOne K (.ref A) (.ref a) = some true)
  | some none => match bootBuiltins z with
    | some (.type t) => !decide (z = "__name__") && decide (PySem.W.kitOne K (.ref A) (.type t) = some true)
    | _ => false
  | _ => false
def excB (K : PySem.W.Frag) (p : Str × List Str × List Str) : Bool :=
  let A := ga K p.1
  oVal (PySem.W.nsIn K mainGlobals p.1) (some (some (.ref A))) && PySem.W.keepIn K (.ref A) && decide (PySem.W.subIn K (.ref A) (.type "BaseException") = some true) && decide (PySem.W.typeIn K (.ref A) = some (.type "type")) &&
  (!p.2.1.isEmpty || PySem.W.excIn K A [.type "ValueError", .type "Exception", .type "BaseException", .type "object"] "ValueError.__new__") &&
  oVal (PySem.W.findIn K (.ref A) "__getattribute__") (some (some (.builtin "BaseException.__getattribute__"))) && oVal (PySem.W.findIn K (.ref A) "__getattr__") (some none) && PySem.W.hasDictIn K A && (p.2.1.all fun f => oVal (PySem.W.findIn K (.ref A) f) (some none)) &&
  oVal (PySem.W.findIn K (.ref A) "__class__") (some (some (.builtin "object.__class__"))) && oVal (PySem.W.specialIn K (.builtin "object.__class__") "__get__") (some (some (.builtin "getset_descriptor.__get__"))) && decide (PySem.W.takesIn K (.builtin "object.__class__") = some true) &&
  decide (PySem.W.mroIn K A (.type "object") = some true) && (p.2.2.all fun z => supB K A z)
/-- a class of records -/
def rcB (K : PySem.W.Frag) (p : Str × List Str) : Bool :=
  let A := ga K p.1
  oVal (PySem.W.nsIn K mainGlobals p.1) (some (some (.ref A))) && decide p.2.Nodup && decide (p.2.length < 900) && PySem.W.plainGet K A Str.empty && PySem.W.hasDictIn K A && PySem.W.plainOver K A && oVal (PySem.W.findIn K (.ref A) "__setattr__") (some (some (.builtin "object.__setattr__"))) &&
  (p.2.all fun f => oVal (PySem.W.findIn K (.ref A) f) (some none)) && oVal (PySem.W.findIn K (.ref A) "__class__") (some (some (.builtin "object.__class__"))) && oVal (PySem.W.specialIn K (.builtin "object.__class__") "__get__") (some (some (.builtin "getset_descriptor.__get__"))) &&
  decide (PySem.W.takesIn K (.builtin "object.__class__") = some true) && decide (PySem.W.mroIn K A (.type "object") = some true)
def headB (T : Tab) (K : PySem.W.Frag) : Bool :=
  (T.rcs.all fun p => rcB K p) && ((List.range T.rcs.length).all fun c => (List.range T.rcs.length).all fun d => decide (PySem.W.kitOne K (.ref ((rtOf T K).rc d)) (.ref ((rtOf T K).rc c)) = some (decide (d = c)))) &&
  (T.bi.all fun x => freeB K x) && (T.glb.all fun p => glbB K p) && (T.cls.all fun p => excB K p) &&
  ((List.range T.cls.length).all fun c => (List.range T.cls.length).all fun d => decide (PySem.W.exmOne K (.ref (clAt T K d)) (.ref (clAt T K c)) = some (decide (d = c))))
def defD (t : DefT) : DefD := ⟨(t.name, none), t.name, t.name, defArgs t.st, defBody t.st, defScope t.st, [], []⟩
def lookM (T : Tab) (D : List DefT) (K : PySem.W.Frag) : Bool × List FnW :=
  (headB T K && D.all fun t => oVal (PySem.W.nsIn K mainGlobals t.name) (some (some (.ref (ga K t.name)))) && (defD t).ok K, D.map fun t => fnW K (t.name, none))
def goodM (D : List DefT) : Bool × List FnW := (true, D.map fun t => (defD t).val)
def seenM (n : Nat) (T : Tab) (D : List DefT) (g : Addr → Option Obj) : Bool × List FnW := lookM T D (frG g (asD g n))
def hookM (n : Nat) (T : Tab) (D : List DefT) : PySem.W.Hook :=
  { α := Bool × List FnW, obs := (fun s => seenM n T D s.heap.get?), val := (fun _ => goodM D), says := (fun _ h => ∃ K : PySem.W.Frag, K.In h ∧ lookM T D K = goodM D),
    of := (fun _ _ e => ⟨_, frG_in, e⟩), keeps := (fun _ _ _ ⟨K, hK, e⟩ k => ⟨K, hK.keeps k, e⟩) }
theorem seenM_eq {n : Nat} {T : Tab} {D : List DefT} {g : Addr → Option Obj} {s : Shared} (h : ∀ a, g a = s.heap.get? a) : seenM n T D g = (hookM n T D).obs s := by
  have e : g = s.heap.get? := funext h
  rw [e]
  rfl
/-- how each def's arguments are bound -/
def BdT (t : DefT) : Prop := ∀ (kV doc pm : Value) (an : Option Addr) (cdv ct : Value) (us : List Value), us.length = t.ps.length → bindArgs (PySem.W.fnOf t.name t.name (defArgs t.st) (defBody t.st) (defScope t.st) .none kV doc pm an cdv ct) ⟨us, []⟩ = pure (t.ps.zip us)
inductive AllT (F : DefT → Prop) : List DefT → Prop
  | nil : AllT F []
  | cons {t : DefT} {D : List DefT} : F t → AllT F D → AllT F (t :: D)
theorem AllT.get {F : DefT → Prop} : ∀ {D : List DefT}, AllT F D → ∀ {i : Nat} {t : DefT}, D[i]? = some t → F t
  | _, .nil, _, _, e => by simp at e
  | _, .cons h _, 0, _, e => by simp at e; subst e; exact h
  | _, .cons _ hs, i + 1, _, e => hs.get (by simpa using e)
theorem glob_ok {T : Tab} {D : List DefT} {K : PySem.W.Frag} {mg : Str → Option Value} {h : Heap} (X : K.In h) (G : h.Ns mainGlobals mg) (hl : lookM T D K = goodM D) (hb : AllT BdT D) : letI := rtOf T K; GlobOk T (txOf T K) D K mg := by
  letI := rtOf T K
  have h1 : (headB T K && D.all fun t => oVal (PySem.W.nsIn K mainGlobals t.name) (some (some (.ref (ga K t.name)))) && (defD t).ok K) = true := congrArg Prod.fst hl
  have h2 : (D.map fun t => fnW K (t.name, none)) = D.map fun t => (defD t).val := congrArg Prod.snd hl
  rw [Bool.and_eq_true] at h1
  obtain ⟨hd, hf⟩ := h1
  unfold headB at hd
  simp only [Bool.and_eq_true] at hd
  obtain ⟨⟨⟨⟨⟨r1, r2⟩, d1⟩, d2⟩, d3⟩, d4⟩ := hd
  have clA : ∀ {c : Nat} {p : Str × List Str × List Str}, T.cls[c]? = some p → clAt T K c = ga K p.1 := fun {c p} e => by unfold clAt; rw [e]
  have parts : ∀ {c : Nat} {p : Str × List Str × List Str}, T.cls[c]? = some p → excB K p = true := fun {c p} e => List.all_eq_true.mp d3 p (List.mem_of_getElem? e)
  refine ⟨fun x hx => ?_, fun p hp => ?_, fun c p e => ?_, fun c d hc hd => ?_, rfl, fun c p e => ?_, fun c d hc hd => ?_, fun c p e => ?_, fun c => ⟨fun p e => ?_⟩, fun f t e => ?_⟩
  · have z := List.all_eq_true.mp d1 x (by simpa using hx)
    unfold freeB at z
    by_cases hg : x = "gcd"
    · rw [if_pos hg] at z
      exact ⟨fun _ => PySem.W.mg_of X G (of_decide_eq_true z), fun n => absurd hg n⟩
    · rw [if_neg hg] at z
      exact ⟨fun e => absurd e hg, fun _ => PySem.W.mg_none_of X G (of_decide_eq_true z)⟩
  · have z := List.all_eq_true.mp d2 p hp
    unfold glbB at z
    split at z
    · rename_i u hu
      obtain ⟨w, r, q⟩ := pvB_ok z
      exact ⟨w, u, PySem.W.mg_of X G hu, r, q⟩
    · cases z
  · have z := List.all_eq_true.mp r1 p (List.mem_of_getElem? e)
    unfold rcB at z
    simp only [Bool.and_eq_true] at z
    obtain ⟨⟨⟨⟨⟨⟨⟨⟨⟨⟨⟨z1, z2⟩, z3⟩, z4⟩, z5⟩, z6⟩, z7⟩, z8⟩, z9⟩, z10⟩, z11⟩, z12⟩ := z
    have ec : RT.rc c = ga K p.1 := by
      show (match T.rcs[c]? with
        | some p => ga K p.1
        | none => 0) = _
      rw [e]
    have ef : RT.rf c = p.2 := by
      show (match T.rcs[c]? with
        | some p => p.2
        | none => []) = _
      rw [e]
    refine ⟨?_, ef, of_decide_eq_true z2, of_decide_eq_true z3, ?_, ?_, ?_, of_decide_eq_true z10, of_decide_eq_true z11, ?_⟩ <;> rw [ec]
    · exact PySem.W.mg_of X G (of_decide_eq_true z1)
    · exact ⟨z4, z5, z6, of_decide_eq_true z7⟩
    · exact fun f hf => of_decide_eq_true (p := PySem.W.findIn K (.ref (ga K p.1)) f = some none) (List.all_eq_true.mp z8 f hf)
    · exact of_decide_eq_true z9
    · exact of_decide_eq_true z12
  · exact of_decide_eq_true (List.all_eq_true.mp (List.all_eq_true.mp r2 c (List.mem_range.mpr hc)) d (List.mem_range.mpr hd))
  · have z := parts e
    unfold excB at z
    simp only [Bool.and_eq_true] at z
    obtain ⟨⟨⟨⟨⟨⟨⟨⟨⟨⟨⟨⟨⟨z1, z2⟩, z3⟩, z4⟩, z5⟩, z6⟩, z7⟩, z8⟩, z9⟩, z10⟩, z11⟩, z12⟩, z13⟩, z14⟩ := z
    show ExcK K mg (clAt T K c) p.1 p.2.1
    rw [clA e]
    refine ⟨PySem.W.mg_of X G (of_decide_eq_true z1), z2, of_decide_eq_true z3, of_decide_eq_true z4, fun h0 => ?_⟩
    rw [h0] at z5
    simpa using z5
  · have z := List.all_eq_true.mp (List.all_eq_true.mp d4 c (List.mem_range.mpr hc)) d (List.mem_range.mpr hd)
    exact of_decide_eq_true z
  · show (match T.cls[c]? with
      | some p => p.2.1
      | none => []) = p.2.1
    rw [e]
  · have z := parts e
    unfold excB at z
    simp only [Bool.and_eq_true] at z
    obtain ⟨⟨⟨⟨⟨⟨⟨⟨⟨⟨⟨⟨⟨z1, z2⟩, z3⟩, z4⟩, z5⟩, z6⟩, z7⟩, z8⟩, z9⟩, z10⟩, z11⟩, z12⟩, z13⟩, z14⟩ := z
    show (∀ f ∈ p.2.1, PySem.W.findIn K (.ref (clAt T K c)) "__getattribute__" = _ ∧ PySem.W.findIn K (.ref (clAt T K c)) "__getattr__" = _ ∧ PySem.W.subIn K (.ref (clAt T K c)) _ = _ ∧ PySem.W.hasDictIn K (clAt T K c) = _ ∧ PySem.W.findIn K (.ref (clAt T K c)) f = _) ∧
      (p.2.1 = [] → ExcC K (clAt T K c) ∧ ∀ z, p.2.2.contains z = true → ∃ (c' : V) (cv : Value), ((mg z = some cv) ∨ (mg z = none ∧ bootBuiltins z = some cv ∧ z ≠ "__name__")) ∧ RelV c' cv ∧ (∀ u, RelV c' u → u = cv) ∧ PySem.W.kitOne K (.ref (clAt T K c)) cv = some true)
    rw [clA e]
    refine ⟨fun f hf => ⟨of_decide_eq_true z6, of_decide_eq_true z7, of_decide_eq_true z3, z8, of_decide_eq_true (List.all_eq_true.mp z9 f hf)⟩, fun h0 => ⟨⟨of_decide_eq_true z6, of_decide_eq_true z7, of_decide_eq_true z3, z8, of_decide_eq_true z10, of_decide_eq_true z11, of_decide_eq_true z12, of_decide_eq_true z13⟩, fun z hz => ?_⟩⟩
    have y := List.all_eq_true.mp z14 z (by simpa using hz)
    unfold supB at y
    split at y
    · rename_i a ha
      exact ⟨.ref a, .ref a, .inl (PySem.W.mg_of X G ha), rfl, fun u r => r, of_decide_eq_true y⟩
    · rename_i ha
      split at y
      · rename_i t ht
        have y' := Bool.and_eq_true_iff.mp y
        exact ⟨.ty t, .type t, .inr ⟨PySem.W.mg_none_of X G ha, ht, by simpa using y'.1⟩, rfl, fun u r => r, of_decide_eq_true y'.2⟩
      · cases y
    · cases y
  · have z := List.all_eq_true.mp hf t (List.mem_of_getElem? e)
    rw [Bool.and_eq_true] at z
    have ev : fnW K (t.name, none) = (defD t).val := by
      have e2 : (D.map fun t => fnW K (t.name, none))[f]? = (D.map fun t => (defD t).val)[f]? := by rw [h2]
      rw [List.getElem?_map, List.getElem?_map, e] at e2
      exact Option.some.inj e2
    obtain ⟨fd, F⟩ := DefD.funD (d := defD t) ev z.2
    have b := hb.get e
    have F' : FunD K t.name t.name (defArgs t.st) (defBody t.st) (defScope t.st) [] [] (ga K t.name) fd := F
    exact ⟨ga K t.name, fd, PySem.W.mg_of X G (of_decide_eq_true z.1), F.kp, F'.bindsN b, fun s us hl => F'.bindsA b s us hl, F'⟩
/-- the heap of what stands before a call: all but the script, if that is the run's own -/
def scriptH (K : PySem.W.Frag) (a : Addr) (o : Obj) (xs : List V) : Hp := fun b => if K.lookup a = none ∧ b = a then some (.frz o (.lst xs)) else none
theorem scriptH_of {K : PySem.W.Frag} {a b : Addr} {o : Obj} {xs : List V} {u : HO} (h : scriptH K a o xs b = some u) : b = a ∧ u = .frz o (.lst xs) ∧ K.lookup a = none := by
  unfold scriptH at h
  split at h
  · rename_i c
    exact ⟨c.2, (Option.some.inj h).symm, c.1⟩
  · cases h
/-- the law's def is called, its promise given where the settings are as they are at the start -/
theorem law_goes {P : Program} {w : World} {K : PySem.W.Frag} {mg mb : Str → Option Value} {k : Nat} {fa a : Addr} {fd : FuncData} {x : Str} {sp : Sp} {s1 : Shared} {vs : List Value} {ns : List Int}
    (KX : K.In s1.heap) (gn : s1.heap.Ns mainGlobals mg) (bn : s1.heap.Ns builtinsNs mb) (bb : ∀ x : Str, x ≠ "__name__" → mb x = bootBuiltins x) (lim : s1.heap.NoLimit) (seer : s1.heap.NoSeer) (gen : s1.gens = #[])
    (ha : s1.heap.get? a = some { cls := .type "list", data := .seq vs.toArray }) (hi : IntsAre vs ns) (hl : ns.length ≤ sizeLine) (room : Room k callerA)
    (F : ∀ base : Heap, base.NoSeer → FnOk P w K mg base (L2.CX P w) k fa fd [x] sp) (bd : ∀ (s : Shared) (u : Value), BindsTo s fd ⟨[u], []⟩ [(x, u)])
    (go : ∀ H : Hp, RoL K H a (ns.map V.int) → sp [.ref a] H (fun v _ => v = .bl true) fun _ _ _ => False) :
    codeAny (model P w) callerA (.call (.ref fa) ⟨[.ref a], []⟩) (fun r s' => r = .ok (.ret (.bool true)) ∧ OldK s1.heap s'.heap ∧ s'.os = s1.os ∧ AllBare s'.gens) s1 := by
  have iv := vals_ints hi
  have lv := hi.length
  let ob : Obj := { cls := .type "list", data := .seq vs.toArray }
  let H : Hp := scriptH K a ob (ns.map V.int)
  -- what the run can see from the start
  have keepsD : ∀ {b : Addr} {o : Obj}, s1.heap.get? b = some o → (∀ q n, o.data = .seq q n → o.cls ≠ .type "list") → (hidT s1.heap H).get? b = some o := fun {b o} e nd => hidT_get e (by
    cases q : H b with
    | none => rfl
    | some u =>
      obtain ⟨rfl, _, _⟩ := scriptH_of q
      rw [ha] at e
      cases e
      exact absurd rfl (nd _ _ rfl))
  have nsD : ∀ {b : Addr} {m : Str → Option Value}, s1.heap.Ns b m → (hidT s1.heap H).Ns b m := fun {b m} h => by
    obtain ⟨o, es, ep, e, d, r⟩ := h
    exact ⟨o, es, ep, keepsD e (fun q n z => by rw [d] at z; cases z), d, r⟩
  have seerD : (hidT s1.heap H).NoSeer := by
    obtain ⟨mc, c1, c2⟩ := seer.statics
    obtain ⟨mm, m1, m2⟩ := seer.mods
    obtain ⟨mi, i1, i2⟩ := seer.imp
    obtain ⟨mn, bm, om, n1, n2, n3, n4, n5⟩ := seer.main
    exact ⟨⟨mc, nsD c1, c2⟩, ⟨mm, nsD m1, m2⟩, ⟨mi, nsD i1, i2⟩, mn, bm, om, nsD n1, n2, keepsD n3 (fun _ _ _ z => by rw [n4] at z; injection z with z; exact absurd z (by decide)), n4, n5⟩
  have inD : K.In (hidT s1.heap H) := fun b o e => hidT_get (KX b o e) (by
    cases q : H b with
    | none => rfl
    | some u =>
      obtain ⟨rfl, _, z⟩ := scriptH_of q
      rw [z] at e; cases e)
  obtain ⟨mc, l1, l2⟩ := lim
  have hok : HOk P w H s1.heap := fun b u q => by
    obtain ⟨rfl, rfl, _⟩ := scriptH_of q
    exact ⟨ha, by rw [List.length_map]; exact hl, vs, _, iv, ha⟩
  have ro : RoL K H a (ns.map V.int) := by
    cases hk : K.lookup a with
    | none => exact .inl ⟨ob, if_pos ⟨hk, rfl⟩⟩
    | some o =>
      have e := KX a o hk
      rw [ha] at e
      cases e
      exact .inr ⟨_, vs.toArray, _, hk, rfl, rfl, rfl, by rw [List.size_toArray, lv]; exact hl, by simpa using iv⟩
  have e0 : Env0 P w K mg (hidT s1.heap H) callerA [] s1 H :=
    { frames := rfl, mod := ⟨inD, nsD gn, ⟨mb, nsD bn, bb⟩, mc, nsD l1, l2⟩, bs := fun b o e => of_hidT e, bsz := Nat.le_of_eq (hidT_size _ _), funs := trivial, frf := (fun b hb => by cases hb), hok := hok, bare := .of_eq gen }
  refine codeAny_mono ((F _ seerD).run callerA [] s1 H ⟨[.ref a], []⟩ [.ref a] [.ref a] _ _ room e0 (bd s1 (.ref a)) (.cons rfl .nil) (go H ro)) fun r s' h => ?_
  match r, h with
  | .error e, h =>
    obtain ⟨_, _, _, _, _, _, _, _, _, _, _, _, z⟩ := h
    exact z.elim
  | .ok (.ret u), h =>
    obtain ⟨v, H', os, bare, un, hok', r', rfl⟩ := h
    obtain rfl : u = Value.bool true := r'
    refine ⟨rfl, OldK.of_keep fun b o e => ?_, os, bare⟩
    cases q : H b with
    | none => exact un.keep b o e q (fun z => by cases z) (by simp)
    | some y =>
      obtain ⟨rfl, rfl, _⟩ := scriptH_of q
      have t := un.frzs b _ _ q
      have z1 := (hok b _ q).1
      have z2 := (hok' b _ t).1
      rw [e] at z1
      cases z1
      exact z2
  | .ok .next, h => exact h.elim
  | .ok .brk, h => exact h.elim
  | .ok .cont, h => exact h.elim
/-- the end of a law: MP's run of it gives True -/
theorem law_walk {l : PySem.W.OpenLaw} {q : Program} {loose : List Str} {XP : (Str → Option Value) → Heap → Prop} {d : DefRec} {T : Tab} {D : List DefT} {n li dd : Nat} {tl : DefT} (hmost : l.most = some 63) (hdf : d.params.defaults = []) (hr : Room (40 + dd) callerA) (hT : T.ok = true) (hD : (D.all fun t => t.look T) = true)
    (hn : T.fns = D.map fun t => some t.name) (hi0 : T.inits = []) (hm0 : T.meths = []) (himp : PyProof.Rows.importsNone q = true) (htree : l.prog.given.tree = none)
    (hb : AllT BdT D) (hli : D[li]? = some tl) (hps : tl.ps = [("script" : Str)]) (hname : d.name = tl.name) (main : ∀ ns : List Int, ns.length ≤ 63 → ∃ S', callN (D.map (·.fd)) dd li [.lst (ns.map .int)] ⟨[], false⟩ = .ok (.bl true) S') :
    PySem.W.WalkO q loose XP (hookM n T D).says l.row.toRowW d [] (fun f vs => PySem.call f vs) := by
  refine Att.attach_call hmost hdf fun w s₀ s₁ mg mb fa o pm cd doc a vs ns G Y ho hd hcd hmg hobj hints hlen hg => ?_
  obtain ⟨K, KX, hl⟩ := Y
  letI := rtOf T K
  have GO : GlobOk T (txOf T K) D K mg := glob_ok KX G.T.g hl hb
  have GO2 : ∃ fdata, (∀ (s : Shared) (us : List Value), us.length = tl.ps.length → BindsTo s fdata ⟨us, []⟩ (tl.ps.zip us)) ∧ ∀ base : Heap, base.NoSeer → FnOk l.prog w K mg base (L2.CX l.prog w) (40 + dd) fa fdata tl.ps (spF K (txOf T K) D dd li) := by
    obtain ⟨fa1, fd1, a1, _, _, a4, F1⟩ := GO.fns li tl hli
    obtain ⟨_, _, _, lk1⟩ := F1.lk
    refine ⟨fd1, a4, fun base sr => ?_⟩
    obtain ⟨fa2, fd2, b1, _, _, _, F2, _, _, _, lk2⟩ := fn_all (P := l.prog) (w := w) (base := base) hT hD hn hi0 hm0 sr htree GO dd li tl hli
    rw [hname] at hmg
    cases hmg.symm.trans a1
    cases hmg.symm.trans b1
    rw [lk1] at lk2
    cases lk2
    exact F2
  obtain ⟨fdata, hbd, hF⟩ := GO2
  refine law_goes (k := 40 + dd) (fd := fdata) (x := "script") (sp := spF K (txOf T K) D dd li) KX G.T.g G.T.b G.T.builtins G.T.nolimit (G.T.seer himp) hg hobj hints (Nat.le_trans hlen (by decide)) hr (fun base sr => ?_) (fun s u => ?_) fun H ro => ?_
  · rw [← hps]
    exact hF base sr
  · have z := hbd s [u] (by rw [hps]; rfl)
    rw [hps] at z
    exact z
  · obtain ⟨S', hS'⟩ := main ns hlen
    have isI : ∀ ms : List Int, RelPs K [] H (ms.map PV.int) (ms.map V.int) := fun ms => by
      induction ms with
      | nil => exact .nil
      | cons m ms ih => exact .cons (.int m) ih
    refine ⟨[], ⟨[], false⟩, [.lst (ns.map .int)], ⟨rfl, (fun k c b q e => by cases q), (fun j k b c e e1 e2 q1 q2 n1 n2 => by cases q1), Nat.le_refl _⟩, .cons (.lst ro (isI ns)) .nil, ?_⟩
    rw [hS']
    intro ρ' H' v g so r
    exact r.of_bl
end MP
end
section
set_option Elab.async false
set_option linter.all false
set_option maxRecDepth 100000
/-! MPTool: how MP's runs are computed; sizes of numbers; lowest terms. -/
namespace MP
theorem callN_of {F : List FDef} {d i : Nat} {fd : FDef} {args : List PV} {S : Sto} (h : F[i]? = some fd) (hl : args.length = fd.np) : callN F (d + 1) i args S = runF (callN F d) fd args S := by
  rw [callN, h]
  exact if_pos hl
theorem fin_pure {S : Sto} {v : PV} {cs : List Cell} (h : v.pure = true) : fin S v ⟨cs, false⟩ = .ok v ⟨cs.take S.cells.length, S.dirty⟩ := by
  unfold fin
  rw [h]
  rfl
theorem fin_same {S : Sto} {v : PV} (h : v.pure = true) : fin S v ⟨S.cells, false⟩ = .ok v S := by
  rw [fin_pure h, List.take_length]
theorem fin_ref {S : Sto} {k : Nat} {cs : List Cell} : fin S (.ref k) ⟨cs, false⟩ = .ok (.ref k) ⟨cs, S.dirty⟩ := by
  unfold fin
  show R.ok _ (⟨cs, S.dirty || false⟩ : Sto) = _
  rw [Bool.or_false]
section
variable {α β : Type} {C : Nat → List PV → Sto → R PV} {b : Nat}
theorem bd_ok {a : α} {S : Sto} {f : α → Sto → R β} : (R.ok a S).bd f = f a S := by simp only [R.bd]
theorem bd_exc {c : Nat} {as : List PV} {S : Sto} {f : α → Sto → R β} : (R.exc c as S).bd f = .exc c as S := by simp only [R.bd]
theorem st_ok {a : α} {S : Sto} {σ : Env} {f : α → Sto → RS} : (R.ok a S).st σ f = f a S := by simp only [R.st]
theorem st_exc {c : Nat} {as : List PV} {S : Sto} {σ : Env} {f : α → Sto → RS} : (R.exc c as S).st σ f = .exc c as σ S := by simp only [R.st]
theorem xss_cons {s : St} {ss : Ss} {σ : Env} {S : Sto} : xss C b (.cons s ss) σ S = (xst C b s σ S).seq (xss C b ss) := by
  rw [xss]
  unfold RS.seq
  cases xst C b s σ S <;> rfl
theorem xss_nil {σ : Env} {S : Sto} : xss C b .nil σ S = .next σ S := by rw [xss]
theorem seq_next {σ : Env} {S : Sto} {f : Env → Sto → RS} : (RS.next σ S).seq f = f σ S := by simp only [RS.seq]
theorem seq_ret {v : PV} {S : Sto} {f : Env → Sto → RS} : (RS.ret v S).seq f = .ret v S := by simp only [RS.seq]
theorem seq_brk {σ : Env} {S : Sto} {f : Env → Sto → RS} : (RS.brk σ S).seq f = .brk σ S := by simp only [RS.seq]
theorem seq_cont {σ : Env} {S : Sto} {f : Env → Sto → RS} : (RS.cont σ S).seq f = .cont σ S := by simp only [RS.seq]
theorem seq_exc {c : Nat} {as : List PV} {σ : Env} {S : Sto} {f : Env → Sto → RS} : (RS.exc c as σ S).seq f = .exc c as σ S := by simp only [RS.seq]
theorem eqV_int {S : Sto} {i j : Int} : eqV S (.int i) (.int j) = some (decide (i = j)) := by
  unfold eqV
  simp only [toDS, PV.toD]
  have z : ∀ i : Int, shaped (.int i) = true := fun _ => rfl
  rw [z, z]
  show some ((PySem.PyData.int i).eqv (.int j)) = _
  congr 1
theorem eqV_pr {S : Sto} {i j k l : Int} : eqV S (.tup [.int i, .int j]) (.tup [.int k, .int l]) = some (decide (i = k) && decide (j = l)) := by
  unfold eqV
  simp only [toDS, PV.toD, PV.toDs, Option.map]
  have z : ∀ i j : Int, shaped (.tuple [.int i, .int j]) = true := fun _ _ => rfl
  rw [z, z]
  show some ((PySem.PyData.tuple [.int i, .int j]).eqv (.tuple [.int k, .int l])) = _
  congr 1
  rw [PySem.PyData.eqv, PySem.PyData.eqvAll, PySem.PyData.eqvAll, PySem.PyData.eqvAll]
  simp [PySem.PyData.eqv]
  rfl
/-- a for that never stops early keeps what each turn keeps -/
theorem for_inv {g : Sto → Bool} {bind : PV → Env → Option Env} {body : Env → Sto → RS} {P : Nat → Env → Sto → Prop} (hg : ∀ i σ S, P i σ S → g S = true) : ∀ (xs : List PV) (i : Nat) (σ : Env) (S : Sto), P i σ S →
    (∀ j x σ S, xs[j]? = some x → P (i + j) σ S → ∃ σ1 σ2 S2, bind x σ = some σ1 ∧ body σ1 S = .next σ2 S2 ∧ P (i + j + 1) σ2 S2) → ∃ σ' S', forLoop g bind body xs σ S = .next σ' S' ∧ P (i + xs.length) σ' S'
  | [], i, σ, S, h, _ => ⟨σ, S, by unfold forLoop; rw [if_pos (hg _ _ _ h)], h⟩
  | x :: xs, i, σ, S, h, st => by
    obtain ⟨σ1, σ2, S2, e1, e2, h2⟩ := st 0 x σ S rfl h
    obtain ⟨σ', S', e3, h3⟩ := for_inv hg xs (i + 1) σ2 S2 h2 fun j y σ S hj hP => by
      have e : i + 1 + j = i + (j + 1) := by omega
      rw [e] at hP ⊢
      exact st (j + 1) y σ S hj hP
    refine ⟨σ', S', ?_, ?_⟩
    · unfold forLoop
      rw [if_pos (hg _ _ _ h), e1]
      show (match body σ1 S with
        | .next σ2 S2 => forLoop g bind body xs σ2 S2
        | .cont σ2 S2 => forLoop g bind body xs σ2 S2
        | .brk σ2 S2 => .next σ2 S2
        | r => r) = _
      rw [e2]
      exact e3
    · have e : i + (x :: xs).length = i + 1 + xs.length := by rw [List.length_cons]; omega
      rw [e]
      exact h3
theorem evi_rng1 {e : E} {σ : Env} {S S1 : Sto} {n : Int} (h : ev C b e σ S = .ok (.int n) S1) (hs : small n = true) : evi C b (.rng1 e) σ S = .ok (rngL 0 n.toNat, []) S1 := by
  rw [evi, h]
  show (if small n = true then R.ok (rngL 0 n.toNat, []) S1 else .bad) = _
  rw [if_pos hs]
theorem xst_for {t : Tg} {it : It} {p : Ss} {σ : Env} {S S1 : Sto} {w : Walk} (h : evi C b it σ S = .ok w S1) : xst C b (.fors t it p) σ S = forLoop (fun S => stands S w.2) (bindT t) (xss C b p) w.1 σ S1 := by
  rw [xst, h]
  rfl
theorem xss_step {s : St} {ss : Ss} {σ σ' : Env} {S S' : Sto} (h : xst C b s σ S = .next σ' S') : xss C b (.cons s ss) σ S = xss C b ss σ' S' := by
  rw [xss_cons, h]
  rfl
theorem xss_ret {s : St} {ss : Ss} {σ σ' : Env} {S S' : Sto} {v : PV} (h : xst C b s σ S = .next σ' S') (g : ∃ S2, xss C b ss σ' S' = .ret v S2) : ∃ S2, xss C b (.cons s ss) σ S = .ret v S2 := by
  rw [xss_step h]
  exact g
theorem xss_same {s : St} {ss : Ss} {σ : Env} {S : Sto} {v : PV} (h : xst C b s σ S = .next σ S) (g : ∃ S2, xss C b ss σ S = .ret v S2) : ∃ S2, xss C b (.cons s ss) σ S = .ret v S2 := xss_ret h g
/-- a for over a range that keeps what each turn keeps -/
theorem for_rng {t : Tg} {e : E} {p : Ss} {σ : Env} {S : Sto} {n : Nat} {P : Nat → Env → Sto → Prop} (h : ev C b e σ S = .ok (.int n) S) (hn : n < 1000000) (h0 : P 0 σ S)
    (st : ∀ j σ S, j < n → P j σ S → ∃ σ1 σ2 S2, bindT t (.int j) σ = some σ1 ∧ xss C b p σ1 S = .next σ2 S2 ∧ P (j + 1) σ2 S2) : ∃ σ' S', xst C b (.fors t (.rng1 e) p) σ S = .next σ' S' ∧ P n σ' S' := by
  have sm : small (n : Int) = true := by
    unfold small
    have h1 : -(2 ^ 62 : Int) ≤ n := by omega
    have h2 : (n : Int) < 2 ^ 62 := by omega
    simp only [h1, h2, decide_true, Bool.and_self]
  obtain ⟨σ', S', e1, h1⟩ := for_inv (g := fun S => stands S []) (bind := bindT t) (body := xss C b p) (fun _ _ _ _ => rfl) (rngL 0 n) 0 σ S h0 fun j x σ S hj hP => by
    have z : x = .int (0 + (j : Int)) ∧ j < n := by
      unfold rngL at hj
      rw [List.getElem?_map] at hj
      by_cases q : j < n
      · rw [List.getElem?_range q] at hj
        exact ⟨(Option.some.inj hj).symm, q⟩
      · rw [List.getElem?_eq_none (by simpa using q)] at hj
        cases hj
    rw [Int.zero_add] at z
    obtain ⟨rfl, hj2⟩ := z
    rw [Nat.zero_add] at hP ⊢
    exact st j σ S hj2 hP
  refine ⟨σ', S', ?_, ?_⟩
  · rw [xst_for (evi_rng1 h sm)]
    exact e1
  · have z : 0 + (rngL 0 n).length = n := by simp [rngL]
    rw [z] at h1
    exact h1
theorem rngL_len {a : Int} {n : Nat} : (rngL a n).length = n := by simp [rngL]
theorem rngL_get {a : Int} {n j : Nat} {x : PV} (h : (rngL a n)[j]? = some x) : x = .int (a + j) ∧ j < n := by
  unfold rngL at h
  rw [List.getElem?_map] at h
  by_cases hj : j < n
  · rw [List.getElem?_range hj] at h
    exact ⟨(Option.some.inj h).symm, hj⟩
  · rw [List.getElem?_eq_none (by simpa using hj)] at h
    cases h
/-- a def that leaves the store alone -/
theorem run_ret {fd : FDef} {args : List PV} {S : Sto} {v : PV} (h : xss C S.cells.length fd.body (args.map some ++ List.replicate (fd.nn - fd.np) none) ⟨S.cells, false⟩ = .ret v ⟨S.cells, false⟩) (p : v.pure = true) : runF C fd args S = .ok v S := by
  unfold runF
  rw [h]
  exact fin_same p
theorem run_retT {fd : FDef} {args : List PV} {S : Sto} {v : PV} {cs : List Cell} (h : xss C S.cells.length fd.body (args.map some ++ List.replicate (fd.nn - fd.np) none) ⟨S.cells, false⟩ = .ret v ⟨cs, false⟩) (p : v.pure = true) : runF C fd args S = .ok v ⟨cs.take S.cells.length, S.dirty⟩ := by
  unfold runF
  rw [h]
  exact fin_pure p
theorem run_main {fd : FDef} {args : List PV} {S S' : Sto} {v : PV} (h : xss C S.cells.length fd.body (args.map some ++ List.replicate (fd.nn - fd.np) none) ⟨S.cells, false⟩ = .ret v S') : ∃ S', runF C fd args S = .ok v S' := by
  unfold runF
  rw [h]
  show ∃ S'', fin S v S' = _
  unfold fin
  split
  · exact ⟨_, rfl⟩
  · exact ⟨_, rfl⟩
theorem run_exc {fd : FDef} {args : List PV} {S : Sto} {c : Nat} {as : List PV} {σ : Env} (h : xss C S.cells.length fd.body (args.map some ++ List.replicate (fd.nn - fd.np) none) ⟨S.cells, false⟩ = .exc c as σ ⟨S.cells, false⟩) (p : PV.pures as = true) : runF C fd args S = .exc c as S := by
  unfold runF
  rw [h]
  show (if (PV.pures as && !false) = true then R.exc c as ⟨S.cells.take S.cells.length, S.dirty⟩ else .bad) = _
  rw [p, List.take_length]
  rfl
end
/-! ### sizes -/
def sz (k : Nat) (a : Int) : Prop := a.natAbs < 2 ^ k
theorem sz.mono {j k : Nat} {a : Int} (h : sz j a) (l : j ≤ k) : sz k a := Nat.lt_of_lt_of_le h (Nat.pow_le_pow_right (by decide) l)
theorem sz.neg {k : Nat} {a : Int} (h : sz k a) : sz k (-a) := by unfold sz; rw [Int.natAbs_neg]; exact h
theorem sz.mul {j k : Nat} {a b : Int} (h : sz j a) (h' : sz k b) : sz (j + k) (a * b) := by
  unfold sz at *
  rw [Int.natAbs_mul, Nat.pow_add]
  exact Nat.mul_lt_mul'' h h'
theorem sz.add {k : Nat} {a b : Int} (h : sz k a) (h' : sz k b) : sz (k + 1) (a + b) := by
  unfold sz at *
  have z := Int.natAbs_add_le a b
  rw [Nat.pow_succ]
  omega
theorem sz.sub {k : Nat} {a b : Int} (h : sz k a) (h' : sz k b) : sz (k + 1) (a - b) := by
  rw [Int.sub_eq_add_neg]
  exact h.add h'.neg
theorem sz.fdiv {k : Nat} {a b : Int} (h : sz k a) : sz k (a.fdiv b) ∨ b = 0 := by
  by_cases hb : b = 0
  · exact .inr hb
  left
  unfold sz at *
  rcases Int.lt_or_gt_of_ne hb with hb | hb
  · have : (a.fdiv b).natAbs ≤ a.natAbs := by
      rw [← Int.neg_fdiv_neg, Int.fdiv_eq_ediv_of_nonneg _ (by omega)]
      have z := Int.natAbs_ediv_le_natAbs (-a) (-b)
      rw [Int.natAbs_neg] at z
      exact z
    omega
  · have : (a.fdiv b).natAbs ≤ a.natAbs := by
      rw [Int.fdiv_eq_ediv_of_nonneg _ (by omega)]
      exact Int.natAbs_ediv_le_natAbs a b
    omega
theorem sz.log {k : Nat} {a : Int} (h : sz k a) : a.natAbs.log2 ≤ k := by
  by_cases h0 : a.natAbs = 0
  · rw [h0]; exact Nat.zero_le k
  · exact Nat.le_of_lt ((Nat.log2_lt h0).mpr h)
theorem mulOk_of {j k : Nat} {a b : Int} (h : sz j a) (h' : sz k b) (l : j + k + 2 ≤ 134217728) : mulOk a b = true := by
  have h1 := h.log
  have h2 := h'.log
  have : a.natAbs.log2 + b.natAbs.log2 + 2 ≤ 134217728 := by omega
  simp [mulOk, this]
theorem mulOk_l {a b : Int} (h : sz 64 a) : mulOk a b = true := by
  have h : a.natAbs < 2 ^ 64 := h
  unfold mulOk
  rw [decide_eq_true h]
  rfl
theorem mulOk_r {a b : Int} (h : sz 64 b) : mulOk a b = true := by
  have h : b.natAbs < 2 ^ 64 := h
  unfold mulOk
  rw [decide_eq_true h, Bool.or_true]
  rfl
theorem divOk_of {b : Int} (h0 : b ≠ 0) : divOk b = true := by simp [divOk, h0]
/-- some size -/
theorem sz_any (a : Int) : sz a.natAbs a := Nat.lt_two_pow_self
/-! ### lowest terms -/
def mkG (t b : Int) : Int := ((Nat.gcd t.natAbs b.natAbs : Nat) : Int)
def mkT (t b : Int) : Int := (if b < 0 then -t else t).fdiv (mkG t b)
def mkB (t b : Int) : Int := (if b < 0 then -b else b).fdiv (mkG t b)
theorem mkG_pos {t b : Int} (h : b ≠ 0) : 0 < mkG t b := by
  unfold mkG
  have : 0 < Nat.gcd t.natAbs b.natAbs := Nat.gcd_pos_of_pos_right _ (by omega)
  omega
theorem mkG_dl (t b : Int) : mkG t b ∣ t := by
  unfold mkG
  exact Int.ofNat_dvd_left.mpr (Nat.gcd_dvd_left _ _)
theorem mkG_dr (t b : Int) : mkG t b ∣ b := by
  unfold mkG
  exact Int.ofNat_dvd_left.mpr (Nat.gcd_dvd_right _ _)
/-- what make promises -/
theorem mk_ok {t b : Int} (h : b ≠ 0) : ∃ s : Int, s ≠ 0 ∧ t = mkT t b * s ∧ b = mkB t b * s ∧ 0 < mkB t b ∧ Nat.gcd (mkT t b).natAbs (mkB t b).natAbs = 1 ∧ s.natAbs = Nat.gcd t.natAbs b.natAbs := by
  have gp := mkG_pos (t := t) h
  obtain ⟨x, hx⟩ := mkG_dl t b
  obtain ⟨y, hy⟩ := mkG_dr t b
  have gn : mkG t b ≠ 0 := by omega
  have co : Nat.gcd x.natAbs y.natAbs = 1 := by
    have e : Nat.gcd t.natAbs b.natAbs = (mkG t b).natAbs * Nat.gcd x.natAbs y.natAbs := by
      rw [← Nat.gcd_mul_left, ← Int.natAbs_mul, ← Int.natAbs_mul, ← hx, ← hy]
    have e2 : (mkG t b).natAbs = Nat.gcd t.natAbs b.natAbs := by unfold mkG; rfl
    rw [e2] at e
    have p : 0 < Nat.gcd t.natAbs b.natAbs := Nat.gcd_pos_of_pos_right _ (by omega)
    exact Nat.eq_of_mul_eq_mul_left p (by omega)
  have sg : (mkG t b).natAbs = Nat.gcd t.natAbs b.natAbs := by unfold mkG; rfl
  by_cases hb : b < 0
  · have et : mkT t b = -x := by
      unfold mkT
      rw [if_pos hb]
      refine Int.fdiv_eq_of_eq_mul_left gn ?_
      rw [Int.neg_mul, Int.mul_comm x, ← hx]
    have eb : mkB t b = -y := by
      unfold mkB
      rw [if_pos hb]
      refine Int.fdiv_eq_of_eq_mul_left gn ?_
      rw [Int.neg_mul, Int.mul_comm y, ← hy]
    refine ⟨-mkG t b, by omega, ?_, ?_, ?_, ?_, ?_⟩
    · rw [et, Int.neg_mul_neg, Int.mul_comm x]; exact hx
    · rw [eb, Int.neg_mul_neg, Int.mul_comm y]; exact hy
    · rw [eb]
      have : y < 0 := by
        rcases Int.lt_or_le y 0 with q | q
        · exact q
        · have : 0 ≤ mkG t b * y := Int.mul_nonneg (by omega) q
          omega
      omega
    · rw [et, eb, Int.natAbs_neg, Int.natAbs_neg]; exact co
    · rw [Int.natAbs_neg]; exact sg
  · have et : mkT t b = x := by
      unfold mkT
      rw [if_neg hb]
      refine Int.fdiv_eq_of_eq_mul_left gn ?_
      rw [Int.mul_comm x, ← hx]
    have eb : mkB t b = y := by
      unfold mkB
      rw [if_neg hb]
      refine Int.fdiv_eq_of_eq_mul_left gn ?_
      rw [Int.mul_comm y, ← hy]
    refine ⟨mkG t b, by omega, ?_, ?_, ?_, ?_, ?_⟩
    · rw [et, Int.mul_comm x]; exact hx
    · rw [eb, Int.mul_comm y]; exact hy
    · rw [eb]
      have : 0 < y := by
        rcases Int.lt_or_le 0 y with q | q
        · exact q
        · have : mkG t b * y ≤ 0 := Int.mul_nonpos_of_nonneg_of_nonpos (by omega) q
          omega
      exact this
    · rw [et, eb]; exact co
    · exact sg
theorem mkT_sz {k : Nat} {t b : Int} (h : sz k t) (hb : b ≠ 0) : sz k (mkT t b) := by
  have gp := mkG_pos (t := t) hb
  unfold mkT
  split
  · exact h.neg.fdiv.resolve_right (by omega)
  · exact h.fdiv.resolve_right (by omega)
theorem mkB_sz {k : Nat} {t b : Int} (h : sz k b) (hb : b ≠ 0) : sz k (mkB t b) := by
  have gp := mkG_pos (t := t) hb
  unfold mkB
  split
  · exact h.neg.fdiv.resolve_right (by omega)
  · exact h.fdiv.resolve_right (by omega)
theorem mkB_pos {t b : Int} (hb : b ≠ 0) : 0 < mkB t b := (mk_ok hb).choose_spec.2.2.2.1
theorem mk_cross {t b : Int} (hb : b ≠ 0) : mkT t b * b = t * mkB t b := by
  obtain ⟨s, _, e1, e2, _⟩ := mk_ok (t := t) hb
  have z : mkT t b * (mkB t b * s) = (mkT t b * s) * mkB t b := by
    rw [← Int.mul_assoc, Int.mul_assoc, Int.mul_comm (mkB t b) s, ← Int.mul_assoc]
  rw [← e1, ← e2] at z
  exact z
theorem mk_gcd {t b : Int} (hb : b ≠ 0) : Nat.gcd (mkT t b).natAbs (mkB t b).natAbs = 1 := (mk_ok hb).choose_spec.2.2.2.2.1
/-- what is in lowest terms is told by its ratio -/
theorem mk_cross2 {t b T B : Int} (hb : b ≠ 0) (h : t * B = T * b) : mkT t b * B = T * mkB t b := by
  have c := mk_cross (t := t) hb
  have e : b * (mkT t b * B) = b * (T * mkB t b) := by
    calc b * (mkT t b * B) = (mkT t b * b) * B := by rw [← Int.mul_assoc, Int.mul_comm b]
      _ = t * mkB t b * B := by rw [c]
      _ = (t * B) * mkB t b := by rw [Int.mul_assoc, Int.mul_comm (mkB t b), ← Int.mul_assoc]
      _ = T * b * mkB t b := by rw [h]
      _ = b * (T * mkB t b) := by rw [Int.mul_comm T, Int.mul_assoc]
  exact Int.eq_of_mul_eq_mul_left hb e
/-- v is the ratio T to B in lowest terms -/
abbrev pr (t b : Int) : PV := .tup [.int t, .int b]
def Q (v : PV) (T B : Int) (k : Nat) : Prop := ∃ t b, v = pr t b ∧ 0 < b ∧ Nat.gcd t.natAbs b.natAbs = 1 ∧ t * B = T * b ∧ sz k t ∧ sz k b
theorem Q.mk {t b T B : Int} {k : Nat} (hb : b ≠ 0) (h : t * B = T * b) (ht : sz k t) (hz : sz k b) : Q (pr (mkT t b) (mkB t b)) T B k :=
  ⟨_, _, rfl, mkB_pos hb, mk_gcd hb, mk_cross2 hb h, mkT_sz ht hb, mkB_sz hz hb⟩
theorem sz.pow {k : Nat} {t : Int} (h : sz k t) : ∀ n : Nat, sz (1 + k * n) (t ^ n)
  | 0 => by rw [Nat.mul_zero, Int.pow_zero]; unfold sz; decide
  | n + 1 => by
    have z := (sz.pow h n).mul h
    rw [Int.pow_succ, Nat.mul_succ, ← Nat.add_assoc]
    exact z
theorem same_terms {a b c d : Int} (hb : 0 < b) (hd : 0 < d) (g1 : Nat.gcd a.natAbs b.natAbs = 1) (g2 : Nat.gcd c.natAbs d.natAbs = 1) (h : a * d = c * b) : a = c ∧ b = d := by
  have hn : a.natAbs * d.natAbs = c.natAbs * b.natAbs := by rw [← Int.natAbs_mul, ← Int.natAbs_mul, h]
  have d1 : b.natAbs ∣ d.natAbs := by
    have z : b.natAbs ∣ a.natAbs * d.natAbs := hn ▸ Nat.dvd_mul_left _ _
    exact (Nat.Coprime.symm g1).dvd_of_dvd_mul_left z
  have d2 : d.natAbs ∣ b.natAbs := by
    have z : d.natAbs ∣ c.natAbs * b.natAbs := hn ▸ Nat.dvd_mul_left _ _
    exact (Nat.Coprime.symm g2).dvd_of_dvd_mul_left z
  have e : b.natAbs = d.natAbs := Nat.dvd_antisymm d1 d2
  have e2 : b = d := by omega
  subst e2
  exact ⟨Int.eq_of_mul_eq_mul_right (by omega) h, rfl⟩
/-! ### Euclid's steps -/
def fibP : Nat → Nat × Nat
  | 0 => (0, 1)
  | n + 1 => ((fibP n).2, (fibP n).1 + (fibP n).2)
/-- one turn: over at 0 -/
def euc : Nat → Nat → Nat → Option (Nat × Nat)
  | 0, a, b => if b = 0 then some (a, b) else none
  | n + 1, a, b => if b = 0 then some (a, b) else euc n b (a % b)
theorem euc_fib : ∀ (n a b : Nat), b < a → euc n a b = none → (fibP (n + 1)).1 ≤ b ∧ (fibP (n + 2)).1 ≤ a
  | 0, a, b, h, e => by
    unfold euc at e
    split at e
    · cases e
    · rename_i hb
      refine ⟨?_, ?_⟩ <;> simp [fibP] <;> omega
  | n + 1, a, b, h, e => by
    unfold euc at e
    split at e
    · cases e
    · rename_i hb
      obtain ⟨h1, h2⟩ := euc_fib n b (a % b) (Nat.mod_lt _ (by omega)) e
      refine ⟨h2, ?_⟩
      have q : b + a % b ≤ a := by
        have z := Nat.div_add_mod a b
        have w : 1 ≤ a / b := (Nat.one_le_div_iff (by omega)).mpr (by omega)
        have w2 : b * 1 ≤ b * (a / b) := Nat.mul_le_mul_left b w
        omega
      have f : (fibP (n + 3)).1 = (fibP (n + 1)).1 + (fibP (n + 2)).1 := rfl
      show (fibP (n + 3)).1 ≤ a
      omega
theorem euc_gcd : ∀ (n a b : Nat) (r : Nat × Nat), euc n a b = some r → r = (Nat.gcd a b, 0)
  | 0, a, b, r, e => by
    unfold euc at e
    split at e
    · rename_i h; subst h; cases e; simp
    · cases e
  | n + 1, a, b, r, e => by
    unfold euc at e
    split at e
    · rename_i h; subst h; cases e; simp
    · rename_i h
      rw [euc_gcd n b (a % b) r e, Nat.gcd_comm b (a % b), ← Nat.gcd_rec, Nat.gcd_comm]
theorem euc_of {n a b : Nat} (h : b < (fibP (n + 2)).1) : euc (n + 1) a b = some (Nat.gcd a b, 0) := by
  cases e : euc (n + 1) a b with
  | some r => rw [euc_gcd _ _ _ _ e]
  | none =>
    unfold euc at e
    split at e
    · cases e
    · rename_i hb
      obtain ⟨_, h2⟩ := euc_fib n b (a % b) (Nat.mod_lt _ (by omega)) e
      omega
/-- the law's own Euclid: slots 3 and 4 -/
theorem euc_loop {bind : PV → Env → Option Env} {body : Env → Sto → RS} {g : Sto → Bool} {S : Sto} {mk : Nat → Nat → Option PV → Env} (hg : g S = true) (hb : ∀ x a b k, ∃ k', bind x (mk a b k) = some (mk a b k')) (h0 : ∀ a k, body (mk a 0 k) S = .brk (mk a 0 k) S) (h1 : ∀ a b k, b ≠ 0 → body (mk a b k) S = .next (mk b (a % b) k) S) :
    ∀ (xs : List PV) (a b : Nat) (k : Option PV) (r : Nat × Nat), euc xs.length a b = some r → ∃ k', forLoop g bind body xs (mk a b k) S = .next (mk r.1 r.2 k') S
  | [], a, b, k, r, e => by
    unfold forLoop
    rw [if_pos hg]
    change euc 0 a b = some r at e
    unfold euc at e
    split at e
    · cases e; exact ⟨k, rfl⟩
    · cases e
  | x :: xs, a, b, k, r, e => by
    unfold forLoop
    rw [if_pos hg]
    obtain ⟨k', e1⟩ := hb x a b k
    rw [e1]
    change euc (xs.length + 1) a b = some r at e
    unfold euc at e
    split at e
    · rename_i hb0
      subst hb0
      cases e
      refine ⟨k', ?_⟩
      show (match body (mk a 0 k') S with
        | .next σ2 S2 => forLoop g bind body xs σ2 S2
        | .cont σ2 S2 => forLoop g bind body xs σ2 S2
        | .brk σ2 S2 => .next σ2 S2
        | r => r) = _
      rw [h0]
    · rename_i hb0
      obtain ⟨k2, e2⟩ := euc_loop hg hb h0 h1 xs b (a % b) k' r e
      refine ⟨k2, ?_⟩
      show (match body (mk a b k') S with
        | .next σ2 S2 => forLoop g bind body xs σ2 S2
        | .cont σ2 S2 => forLoop g bind body xs σ2 S2
        | .brk σ2 S2 => .next σ2 S2
        | r => r) = _
      rw [h1 _ _ _ hb0]
      exact e2
theorem fib701 : 2 ^ 480 ≤ (fibP 701).1 := by decide +kernel
/-! ### the law's draws -/
/-- the store with the draws' state -/
def G (ns : List Int) (a i c : Int) (tl : List Cell) : Sto := ⟨.lst [.int a, .lst (ns.map .int), .int i, .int c] :: tl, false⟩
/-! ### comprehensions -/
section
variable {C : Nat → List PV → Sto → R PV} {b : Nat}
theorem evc_none {σ : Env} {S : Sto} : evc C b .none σ S = .ok true S := by rw [evc]
theorem evc_some {e : E} {σ : Env} {S : Sto} : evc C b (.some e) σ S = evT C b e σ S := by rw [evc]
/-- a comprehension whose parts leave the store alone -/
theorem lcLoop_map {g : Sto → Bool} {bind : PV → Option Env} {test : Env → Sto → R Bool} {elt : Env → Sto → R PV} {S : Sto} (hg : g S = true) {α : Type} (f : α → PV) (h : α → PV) : ∀ (xs : List α) (acc : List PV), acc.length + xs.length ≤ lenMax → (∀ x ∈ xs, ∃ σ, bind (f x) = some σ ∧ test σ S = .ok true S ∧ elt σ S = .ok (h x) S) →
    lcLoop g bind test elt (xs.map f) acc S = .ok (acc ++ xs.map h) S
  | [], acc, _, _ => by simp only [List.map_nil]; unfold lcLoop; rw [if_pos hg, List.append_nil]
  | x :: xs, acc, hl, hx => by
    obtain ⟨σ, h1, h2, h3⟩ := hx x List.mem_cons_self
    have l1 : acc.length < lenMax := by simp only [List.length_cons] at hl; omega
    rw [List.map_cons]
    unfold lcLoop
    rw [if_pos hg]
    simp only [h1, h2, bd_ok, h3, if_pos l1]
    rw [lcLoop_map hg f h xs (acc ++ [h x]) (by rw [List.length_append]; simp only [List.length_cons, List.length_nil] at hl ⊢; omega) fun y hy => hx y (List.mem_cons_of_mem _ hy)]
    rw [List.append_assoc]
    rfl
theorem noExc_ok {α : Type} {a : α} {S : Sto} : noExc (.ok a S) = .ok a S := rfl
theorem ev_lc {t : Tg} {own : List Nat} {it : It} {c : Eo} {e : E} {σ : Env} {S S1 S2 : Sto} {w : Walk} {ys : List PV} (h : evi C b it σ S = .ok w S1) (h2 : lcLoop (fun S => stands S w.2) (fun x => bindT t x (wipe σ own)) (evc C b c) (ev C b e) w.1 [] S1 = .ok ys S2) :
    ev C b (.lc t own it c e) σ S = .ok (.lst ys) S2 := by
  rw [ev, h]
  simp only [bd_ok, h2, noExc_ok]
end
end MP
end
section
set_option Elab.async false
set_option linter.all false
set_option maxRecDepth 100000
/-! MPRat: pairs in lowest terms are Lean's rational numbers. -/
namespace MP
/-- the value of a number in lowest terms -/
def fr (q : Rat) : PV := pr q.num q.den
theorem fr_zero : PV.tup [.int 0, .int 1] = fr 0 := rfl
theorem fr_one : PV.tup [.int 1, .int 1] = fr 1 := rfl
theorem fr_pure (q : Rat) : (fr q).pure = true := rfl
def szq (k : Nat) (q : Rat) : Prop := sz k q.num ∧ sz k q.den
theorem szq.mono {j k : Nat} {a : Rat} (h : szq j a) (l : j ≤ k) : szq k a := ⟨h.1.mono l, h.2.mono l⟩
theorem den_ne (q : Rat) : (q.den : Int) ≠ 0 := by have := q.den_pos; omega
theorem den_gt (q : Rat) : (0 : Int) < q.den := by have := q.den_pos; omega
theorem fr_of {t b : Int} (hb : 0 < b) (g : Nat.gcd t.natAbs b.natAbs = 1) {T B : Int} (hB : B ≠ 0) (h : t * B = T * b) : pr t b = fr (Rat.divInt T B) := by
  have e : (Rat.divInt T B).num * B = T * (Rat.divInt T B).den := by
    have z := Rat.num_divInt_den (Rat.divInt T B)
    exact (Rat.divInt_eq_divInt_iff (den_ne _) hB).mp z
  have x : t * ((Rat.divInt T B).den : Int) = (Rat.divInt T B).num * b := by
    have hbB : B ≠ 0 := hB
    refine Int.eq_of_mul_eq_mul_right hbB ?_
    calc t * ((Rat.divInt T B).den : Int) * B = (t * B) * ((Rat.divInt T B).den : Int) := by ac_rfl
      _ = (T * b) * ((Rat.divInt T B).den : Int) := by rw [h]
      _ = (T * ((Rat.divInt T B).den : Int)) * b := by ac_rfl
      _ = ((Rat.divInt T B).num * B) * b := by rw [e]
      _ = (Rat.divInt T B).num * b * B := by ac_rfl
  obtain ⟨e1, e2⟩ := same_terms hb (den_gt _) g (by have z := (Rat.divInt T B).reduced; exact z) x
  rw [e1, e2]
  rfl
theorem Q.fr {v : PV} {T B : Int} {k : Nat} (q : Q v T B k) (hB : B ≠ 0) : v = MP.fr (Rat.divInt T B) ∧ szq k (Rat.divInt T B) := by
  obtain ⟨t, b, rfl, p, g, e, z1, z2⟩ := q
  have h := fr_of p g hB e
  refine ⟨h, ?_⟩
  have h' : pr t b = MP.fr (Rat.divInt T B) := h
  unfold pr MP.fr pr at h'
  injection h' with h1
  injection h1 with h2 h3
  injection h2 with h2
  injection h3 with h3
  injection h3 with h3
  exact ⟨h2 ▸ z1, h3 ▸ z2⟩
theorem rat_add (a b : Rat) : Rat.divInt (a.num * b.den + b.num * a.den) (a.den * b.den) = a + b := by
  rw [← Rat.divInt_add_divInt _ _ (den_ne a) (den_ne b), Rat.num_divInt_den, Rat.num_divInt_den]
theorem rat_mul (a b : Rat) : Rat.divInt (a.num * b.num) (a.den * b.den) = a * b := by
  rw [← Rat.divInt_mul_divInt, Rat.num_divInt_den, Rat.num_divInt_den]
theorem rat_div (a b : Rat) : Rat.divInt (a.num * b.den) (a.den * b.num) = a / b := by
  rw [← Rat.divInt_mul_divInt, Rat.num_divInt_den, Rat.div_def]
  congr 1
  rw [Rat.divInt_eq_div]
  have z := Rat.num_divInt_den b
  rw [Rat.divInt_eq_div] at z
  have w : b⁻¹ = ((b.num : Rat) / (b.den : Rat))⁻¹ := by
    have z' : (b.num : Rat) / ((b.den : Int) : Rat) = b := z
    rw [Rat.intCast_natCast] at z'
    rw [z']
  rw [w, Rat.intCast_natCast]
  grind
theorem fr_neg (a : Rat) : pr (-a.num) a.den = fr (-a) := by
  unfold fr
  rw [Rat.neg_num, Rat.neg_den]
theorem fr_inj {a b : Rat} : (decide (a.num = b.num) && decide ((a.den : Int) = b.den)) = decide (a = b) := by
  by_cases h : a = b
  · subst h; simp
  · have : ¬ (a.num = b.num ∧ (a.den : Int) = b.den) := fun ⟨h1, h2⟩ => h (Rat.ext h1 (by omega))
    simp only [h, decide_false]
    by_cases h1 : a.num = b.num
    · have h2 : ¬ (a.den : Int) = b.den := fun h2 => this ⟨h1, h2⟩
      simp only [h2, decide_false, Bool.and_false]
    · simp only [h1, decide_false, Bool.false_and]
/-- the order as compare tells it -/
def cq (a b : Rat) : Int := if a < b then -1 else if b < a then 1 else 0
theorem cq_lt {a b : Rat} : cq a b < 0 ↔ a < b := by
  unfold cq
  split
  · simp [*]
  · split <;> simp_all
theorem cq_gt {a b : Rat} : 0 < cq a b ↔ b < a := by
  unfold cq
  split
  · rename_i h
    have : ¬ b < a := by grind
    simp [this]
  · split <;> simp_all
theorem cq_le {a b : Rat} : cq a b ≤ 0 ↔ a ≤ b := by
  have z := cq_gt (a := a) (b := b)
  have y : a ≤ b ↔ ¬ b < a := by grind
  rw [y, ← z]
  omega
/-- least, greatest -/
def mn (a b : Rat) : Rat := if b < a then b else a
def mx (a b : Rat) : Rat := if a < b then b else a
instance : Std.Commutative mn := ⟨fun a b => by unfold mn; grind⟩
instance : Std.Associative mn := ⟨fun a b c => by unfold mn; grind⟩
instance : Std.Commutative mx := ⟨fun a b => by unfold mx; grind⟩
instance : Std.Associative mx := ⟨fun a b c => by unfold mx; grind⟩
theorem mn_self (a : Rat) : mn a a = a := by unfold mn; grind
theorem mx_self (a : Rat) : mx a a = a := by unfold mx; grind
theorem mn_le {a b : Rat} (h : a ≤ b) : mn a b = a := by unfold mn; grind
theorem mx_le {a b : Rat} (h : a ≤ b) : mx a b = b := by unfold mx; grind
theorem mn_ge {a b : Rat} (h : b ≤ a) : mn a b = b := by unfold mn; grind
theorem mx_ge {a b : Rat} (h : b ≤ a) : mx a b = a := by unfold mx; grind
theorem szq.mn {k : Nat} {a b : Rat} (h : szq k a) (h' : szq k b) : szq k (mn a b) := by unfold MP.mn; split <;> assumption
theorem szq.mx {k : Nat} {a b : Rat} (h : szq k a) (h' : szq k b) : szq k (mx a b) := by unfold MP.mx; split <;> assumption
theorem szq.neg {k : Nat} {a : Rat} (h : szq k a) : szq k (-a) := ⟨by rw [Rat.neg_num]; exact h.1.neg, by rw [Rat.neg_den]; exact h.2⟩
/-- an interval's value -/
abbrev iv (l h : Rat) : PV := .tup [fr l, fr h]
theorem eqV_fr {S : Sto} {a b : Rat} : eqV S (fr a) (fr b) = some (decide (a = b)) := by
  unfold fr
  rw [eqV_pr, fr_inj]
theorem eqV_iv {S : Sto} {a b c d : Rat} : eqV S (iv a b) (iv c d) = some (decide (a = c) && decide (b = d)) := by
  rw [← fr_inj, ← fr_inj]
  unfold iv fr eqV
  simp only [toDS, PV.toD, PV.toDs, Option.map]
  have z : ∀ i j k l : Int, shaped (.tuple [.tuple [.int i, .int j], .tuple [.int k, .int l]]) = true := fun _ _ _ _ => rfl
  rw [z, z]
  simp only [Bool.and_self, if_true]
  congr 1
  simp only [PySem.PyData.eqv, PySem.PyData.eqvAll, Bool.and_true]
  rfl
theorem szq.pow {k : Nat} {t : Rat} (h : szq k t) (n : Nat) : szq (1 + k * n) (t ^ n) := by
  rw [Rat.pow_def]
  refine ⟨h.1.pow n, ?_⟩
  show sz _ ((t.den ^ n : Nat) : Int)
  rw [Int.natCast_pow]
  exact h.2.pow n
theorem szq_divInt {k : Nat} {t b : Int} (hb : b ≠ 0) (ht : sz k t) (hz : sz k b) : szq k (Rat.divInt t b) := ((Q.mk (T := t) (B := b) hb rfl ht hz).fr hb).2
theorem szq.add {k : Nat} {a b : Rat} (h : szq k a) (h' : szq k b) : szq (k + k + 1) (a + b) := by
  rw [← rat_add]
  exact szq_divInt (Int.mul_ne_zero (den_ne _) (den_ne _)) ((h.1.mul h'.2).add (h'.1.mul h.2)) ((h.2.mul h'.2).mono (by omega))
theorem szq.sub {k : Nat} {a b : Rat} (h : szq k a) (h' : szq k b) : szq (k + k + 1) (a - b) := by
  rw [Rat.sub_eq_add_neg]
  exact h.add h'.neg
theorem szq.mul {j k : Nat} {a b : Rat} (h : szq j a) (h' : szq k b) : szq (j + k) (a * b) := by
  rw [← rat_mul]
  exact szq_divInt (Int.mul_ne_zero (den_ne _) (den_ne _)) (h.1.mul h'.1) (h.2.mul h'.2)
theorem num_ne {b : Rat} (h : b ≠ 0) : b.num ≠ 0 := fun e => h (Rat.num_eq_zero.mp e)
theorem szq.div {j k : Nat} {a b : Rat} (h : szq j a) (h' : szq k b) (hb : b ≠ 0) : szq (j + k) (a / b) := by
  rw [← rat_div]
  exact szq_divInt (Int.mul_ne_zero (den_ne _) (num_ne hb)) (h.1.mul h'.2) (h.2.mul h'.1)
section
variable {C : Nat → List PV → Sto → R PV}
theorem push_at {S : Sto} {c : Cell} : (S.push c).cells[S.len]? = some c := by unfold Sto.push Sto.len; simp
theorem push_lst {S : Sto} {xs : List PV} : (S.push (.lst xs)).lst? S.len = some xs := by unfold Sto.lst?; rw [push_at]
theorem push_old {S : Sto} {c : Cell} {k : Nat} (h : k < S.len) : (S.push c).cells[k]? = S.cells[k]? := by
  unfold Sto.push
  exact List.getElem?_append_left h
theorem push_len {S : Sto} {c : Cell} : (S.push c).len = S.len + 1 := by unfold Sto.push Sto.len; simp
theorem push_set {S : Sto} {c d : Cell} : (⟨(S.push c).cells.set S.len d, (S.push c).dirty⟩ : Sto) = S.push d := by unfold Sto.push Sto.len; simp
end
theorem fr_mk {t b : Int} (hb : b ≠ 0) : pr (mkT t b) (mkB t b) = fr (Rat.divInt t b) :=
  ((Q.mk (k := max t.natAbs b.natAbs) hb (T := t) (B := b) rfl ((sz_any t).mono (Nat.le_max_left _ _)) ((sz_any b).mono (Nat.le_max_right _ _))).fr hb).1
theorem szq.addA {j k : Nat} {a b : Rat} (h : szq j a) (h' : szq k b) : szq (j + k + 1) (a + b) := by
  rw [← rat_add]
  exact szq_divInt (Int.mul_ne_zero (den_ne _) (den_ne _)) ((h.1.mul h'.2).add ((h'.1.mul h.2).mono (by omega))) ((h.2.mul h'.2).mono (by omega))
theorem szq.subA {j k : Nat} {a b : Rat} (h : szq j a) (h' : szq k b) : szq (j + k + 1) (a - b) := by
  rw [Rat.sub_eq_add_neg]
  exact h.addA h'.neg
theorem rat_same {t s b : Int} (hb : b ≠ 0) : Rat.divInt (t + s) b = Rat.divInt (t * b + s * b) (b * b) := by
  refine (Rat.divInt_eq_divInt_iff hb (Int.mul_ne_zero hb hb)).mpr ?_
  rw [← Int.add_mul, Int.mul_assoc]
theorem rmul_pow (a b : Rat) : ∀ n : Nat, (a * b) ^ n = a ^ n * b ^ n
  | 0 => by rw [Rat.pow_zero, Rat.pow_zero, Rat.pow_zero, Rat.mul_one]
  | n + 1 => by
    rw [Rat.pow_succ, Rat.pow_succ, Rat.pow_succ, rmul_pow a b n]
    grind
end MP
end
section
set_option Elab.async false
set_option linter.all false
set_option maxRecDepth 100000
/-! MPIv: ranges of rational numbers: what the operations on intervals hold. -/
namespace MP
theorem sq_nn (x : Rat) : 0 ≤ x * x := by
  by_cases h : 0 ≤ x
  · exact Rat.mul_nonneg h h
  · have z := Rat.mul_nonneg (show 0 ≤ -x by grind) (show 0 ≤ -x by grind)
    grind
theorem pow_nn {x : Rat} (h : 0 ≤ x) : ∀ n : Nat, 0 ≤ x ^ n
  | 0 => by rw [Rat.pow_zero]; decide
  | n + 1 => by rw [Rat.pow_succ]; exact Rat.mul_nonneg (pow_nn h n) h
theorem even_nn (x : Rat) : ∀ m : Nat, 0 ≤ x ^ (2 * m)
  | 0 => by rw [Nat.mul_zero, Rat.pow_zero]; decide
  | m + 1 => by
    have e : x ^ (2 * (m + 1)) = x ^ (2 * m) * (x * x) := by
      rw [Nat.mul_succ, Rat.pow_succ, Rat.pow_succ]
      grind
    rw [e]
    exact Rat.mul_nonneg (even_nn x m) (sq_nn x)
theorem odd_neg (x : Rat) : ∀ m : Nat, (-x) ^ (2 * m + 1) = -(x ^ (2 * m + 1))
  | 0 => by rw [Nat.mul_zero, Rat.pow_succ, Rat.pow_succ, Rat.pow_zero, Rat.pow_zero]; grind
  | m + 1 => by
    have e : ∀ y : Rat, y ^ (2 * (m + 1) + 1) = y ^ (2 * m + 1) * (y * y) := fun y => by
      rw [Nat.mul_succ, Rat.pow_succ, Rat.pow_succ, Rat.pow_succ]
      grind
    rw [e, e, odd_neg x m]
    grind
theorem pow_mono {a b : Rat} (h : 0 ≤ a) (o : a ≤ b) : ∀ n : Nat, a ^ n ≤ b ^ n
  | 0 => by rw [Rat.pow_zero, Rat.pow_zero]; decide
  | n + 1 => by
    rw [Rat.pow_succ, Rat.pow_succ]
    have z1 := Rat.mul_le_mul_of_nonneg_right (pow_mono h o n) h
    have z2 := Rat.mul_le_mul_of_nonneg_left o (pow_nn (show 0 ≤ b by grind) n)
    grind
theorem odd_mono {a b : Rat} (o : a ≤ b) (m : Nat) : a ^ (2 * m + 1) ≤ b ^ (2 * m + 1) := by
  by_cases h : 0 ≤ a
  · exact pow_mono h o _
  · have na : 0 ≤ (-a) ^ (2 * m + 1) := pow_nn (by grind) _
    rw [odd_neg] at na
    by_cases hb : 0 ≤ b
    · have nb : 0 ≤ b ^ (2 * m + 1) := pow_nn hb _
      grind
    · have z := pow_mono (a := -b) (b := -a) (by grind) (by grind) (2 * m + 1)
      rw [odd_neg, odd_neg] at z
      grind
/-- whether 0 is told of too -/
def zc (a b : Rat) (n : Nat) : Prop := 0 < n ∧ n % 2 = 0 ∧ a ≤ 0 ∧ 0 ≤ b
instance (a b : Rat) (n : Nat) : Decidable (zc a b n) := by unfold zc; exact inferInstance
def rlo (a b : Rat) (n : Nat) : Rat := if zc a b n then mn (mn (a ^ n) (b ^ n)) 0 else mn (a ^ n) (b ^ n)
def rhi (a b : Rat) (n : Nat) : Rat := if zc a b n then mx (mx (a ^ n) (b ^ n)) 0 else mx (a ^ n) (b ^ n)
theorem mul_mono {a b c : Rat} (h : a ≤ b) (hc : 0 ≤ c) : a * c ≤ b * c := Rat.mul_le_mul_of_nonneg_right h hc
theorem mul_anti {a b c : Rat} (h : a ≤ b) (hc : c ≤ 0) : b * c ≤ a * c := by
  have z := Rat.mul_le_mul_of_nonneg_right h (show 0 ≤ -c by grind)
  grind
theorem mn_l (a b : Rat) : mn a b ≤ a := by unfold mn; grind
theorem mn_r (a b : Rat) : mn a b ≤ b := by unfold mn; grind
theorem mx_l (a b : Rat) : a ≤ mx a b := by unfold mx; grind
theorem mx_r (a b : Rat) : b ≤ mx a b := by unfold mx; grind
theorem le_mn {a b c : Rat} (h : c ≤ a) (h' : c ≤ b) : c ≤ mn a b := by unfold mn; grind
theorem mx_le' {a b c : Rat} (h : a ≤ c) (h' : b ≤ c) : mx a b ≤ c := by unfold mx; grind
/-- the product's ends -/
def tlo (a b c e : Rat) : Rat := mn (mn (a * c) (b * c)) (mn (a * e) (b * e))
def thi (a b c e : Rat) : Rat := mx (mx (a * c) (b * c)) (mx (a * e) (b * e))
theorem mul_in1 {a b x y : Rat} (h1 : a ≤ x) (h2 : x ≤ b) : mn (a * y) (b * y) ≤ x * y ∧ x * y ≤ mx (a * y) (b * y) := by
  by_cases h : 0 ≤ y
  · have z1 := mul_mono h1 h
    have z2 := mul_mono h2 h
    have m1 := mn_l (a * y) (b * y)
    have m2 := mx_r (a * y) (b * y)
    constructor <;> grind
  · have h' : y ≤ 0 := by grind
    have z1 := mul_anti h1 h'
    have z2 := mul_anti h2 h'
    have m1 := mn_r (a * y) (b * y)
    have m2 := mx_l (a * y) (b * y)
    constructor <;> grind
theorem mul_in {a b c e x y : Rat} (h1 : a ≤ x) (h2 : x ≤ b) (h3 : c ≤ y) (h4 : y ≤ e) : tlo a b c e ≤ x * y ∧ x * y ≤ thi a b c e := by
  obtain ⟨p1, p2⟩ := mul_in1 (y := y) h1 h2
  obtain ⟨q1, q2⟩ := mul_in1 (y := a) h3 h4
  obtain ⟨r1, r2⟩ := mul_in1 (y := b) h3 h4
  rw [Rat.mul_comm c a, Rat.mul_comm e a, Rat.mul_comm y a] at q1 q2
  rw [Rat.mul_comm c b, Rat.mul_comm e b, Rat.mul_comm y b] at r1 r2
  have e1 : tlo a b c e = mn (mn (a * c) (a * e)) (mn (b * c) (b * e)) := by unfold tlo; ac_rfl
  have e2 : thi a b c e = mx (mx (a * c) (a * e)) (mx (b * c) (b * e)) := by unfold thi; ac_rfl
  rw [e1, e2]
  constructor
  · have l1 := mn_l (mn (a * c) (a * e)) (mn (b * c) (b * e))
    have l2 := mn_r (mn (a * c) (a * e)) (mn (b * c) (b * e))
    have : mn (mn (a * c) (a * e)) (mn (b * c) (b * e)) ≤ mn (a * y) (b * y) := le_mn (by grind) (by grind)
    grind
  · have l1 := mx_l (mx (a * c) (a * e)) (mx (b * c) (b * e))
    have l2 := mx_r (mx (a * c) (a * e)) (mx (b * c) (b * e))
    have : mx (a * y) (b * y) ≤ mx (mx (a * c) (a * e)) (mx (b * c) (b * e)) := mx_le' (by grind) (by grind)
    grind
/-- what holds at the corners holds of the ends -/
theorem tlo_ge {a b c e l : Rat} (h1 : l ≤ a * c) (h2 : l ≤ b * c) (h3 : l ≤ a * e) (h4 : l ≤ b * e) : l ≤ tlo a b c e := le_mn (le_mn h1 h2) (le_mn h3 h4)
theorem thi_le {a b c e l : Rat} (h1 : a * c ≤ l) (h2 : b * c ≤ l) (h3 : a * e ≤ l) (h4 : b * e ≤ l) : thi a b c e ≤ l := mx_le' (mx_le' h1 h2) (mx_le' h3 h4)
theorem tlo_thi (a b c e : Rat) : tlo a b c e ≤ thi a b c e := by
  have h1 : tlo a b c e ≤ a * c := by unfold tlo; have := mn_l (mn (a * c) (b * c)) (mn (a * e) (b * e)); have := mn_l (a * c) (b * c); grind
  have h2 : a * c ≤ thi a b c e := by unfold thi; have := mx_l (mx (a * c) (b * c)) (mx (a * e) (b * e)); have := mx_l (a * c) (b * c); grind
  grind
theorem mul_sub {a b c e a' b' c' e' : Rat} (h1 : a ≤ a') (o : a' ≤ b') (h2 : b' ≤ b) (h3 : c ≤ c') (o' : c' ≤ e') (h4 : e' ≤ e) : tlo a b c e ≤ tlo a' b' c' e' ∧ thi a' b' c' e' ≤ thi a b c e := by
  have p1 := mul_in (a := a) (b := b) (c := c) (e := e) (x := a') (y := c') h1 (by grind) h3 (by grind)
  have p2 := mul_in (a := a) (b := b) (c := c) (e := e) (x := b') (y := c') (by grind) h2 h3 (by grind)
  have p3 := mul_in (a := a) (b := b) (c := c) (e := e) (x := a') (y := e') h1 (by grind) (by grind) h4
  have p4 := mul_in (a := a) (b := b) (c := c) (e := e) (x := b') (y := e') (by grind) h2 (by grind) h4
  exact ⟨tlo_ge p1.1 p2.1 p3.1 p4.1, thi_le p1.2 p2.2 p3.2 p4.2⟩
/-- inverses -/
theorem inv_anti {a b : Rat} (h : 0 < a) (o : a ≤ b) : b⁻¹ ≤ a⁻¹ := by
  have hb : 0 < b := by grind
  have ia : 0 < a⁻¹ := Rat.inv_pos.mpr h
  have ib : 0 < b⁻¹ := Rat.inv_pos.mpr hb
  have z := Rat.mul_le_mul_of_nonneg_right o (show 0 ≤ a⁻¹ * b⁻¹ from Rat.mul_nonneg (by grind) (by grind))
  have e1 : a * (a⁻¹ * b⁻¹) = b⁻¹ := by
    rw [← Rat.mul_assoc, Rat.mul_inv_cancel a (by grind), Rat.one_mul]
  have e2 : b * (a⁻¹ * b⁻¹) = a⁻¹ := by
    rw [Rat.mul_comm a⁻¹, ← Rat.mul_assoc, Rat.mul_inv_cancel b (by grind), Rat.one_mul]
  rw [e1, e2] at z
  exact z
theorem inv_neg' (a : Rat) : (-a)⁻¹ = -(a⁻¹) := by
  by_cases h : a = 0
  · subst h; decide +kernel
  · have z := Rat.mul_inv_cancel a h
    have z2 := Rat.mul_inv_cancel (-a) (by grind)
    have e : a * (-(-a)⁻¹) = 1 := by grind
    have e2 : a⁻¹ * (a * (-(-a)⁻¹)) = a⁻¹ := by rw [e, Rat.mul_one]
    rw [← Rat.mul_assoc, Rat.mul_comm a⁻¹, z, Rat.one_mul] at e2
    grind
/-- 1/y between 1/e and 1/c -/
theorem inv_in {c e y : Rat} (h1 : c ≤ y) (h2 : y ≤ e) (h : ¬ (c ≤ 0 ∧ 0 ≤ e)) : 1 / e ≤ 1 / y ∧ 1 / y ≤ 1 / c := by
  simp only [Rat.div_def, Rat.one_mul]
  by_cases hc : 0 < c
  · exact ⟨inv_anti (by grind) h2, inv_anti hc h1⟩
  · have he : e < 0 := by grind
    have z1 := inv_anti (a := -e) (b := -y) (by grind) (by grind)
    have z2 := inv_anti (a := -y) (b := -c) (by grind) (by grind)
    simp only [inv_neg'] at z1 z2
    constructor <;> grind
theorem div_one (x y : Rat) : x * (1 / y) = x / y := by rw [Rat.div_def, Rat.div_def, Rat.one_mul]
/-- the quotient's ends -/
def dlo (a b c e : Rat) : Rat := tlo a b (1 / e) (1 / c)
def dhi (a b c e : Rat) : Rat := thi a b (1 / e) (1 / c)
theorem div_in {a b c e x y : Rat} (h1 : a ≤ x) (h2 : x ≤ b) (h3 : c ≤ y) (h4 : y ≤ e) (h : ¬ (c ≤ 0 ∧ 0 ≤ e)) : dlo a b c e ≤ x / y ∧ x / y ≤ dhi a b c e := by
  obtain ⟨p, q⟩ := inv_in h3 h4 h
  rw [← div_one]
  exact mul_in h1 h2 p q
theorem div_sub {a b c e a' b' c' e' : Rat} (h1 : a ≤ a') (o : a' ≤ b') (h2 : b' ≤ b) (h3 : c ≤ c') (o' : c' ≤ e') (h4 : e' ≤ e) (h : ¬ (c ≤ 0 ∧ 0 ≤ e)) : dlo a b c e ≤ dlo a' b' c' e' ∧ dhi a' b' c' e' ≤ dhi a b c e := by
  have p1 := inv_in (c := c) (e := e) (y := c') h3 (by grind) h
  have p2 := inv_in (c := c) (e := e) (y := e') (by grind) h4 h
  have p3 := inv_in (y := c') (c := c') (e := e') (by grind) o' (by grind)
  exact mul_sub h1 o h2 p2.1 p3.1 p1.2
/-- the power's ends -/
theorem pow_in {a b x : Rat} (n : Nat) (h1 : a ≤ x) (h2 : x ≤ b) : rlo a b n ≤ x ^ n ∧ x ^ n ≤ rhi a b n := by
  have base : mn (a ^ n) (b ^ n) ≤ x ^ n ∧ x ^ n ≤ mx (a ^ n) (b ^ n) ∨ (0 < n ∧ n % 2 = 0 ∧ a ≤ 0 ∧ 0 ≤ b) ∧ 0 ≤ x ^ n ∧ x ^ n ≤ mx (a ^ n) (b ^ n) := by
    have l1 := mn_l (a ^ n) (b ^ n)
    have l2 := mn_r (a ^ n) (b ^ n)
    have l3 := mx_l (a ^ n) (b ^ n)
    have l4 := mx_r (a ^ n) (b ^ n)
    by_cases h0 : n = 0
    · subst h0
      simp only [Rat.pow_zero] at *
      left
      constructor <;> grind
    by_cases hm : n % 2 = 1
    · have e : n = 2 * (n / 2) + 1 := by omega
      have z1 := odd_mono h1 (n / 2)
      have z2 := odd_mono h2 (n / 2)
      rw [← e] at z1 z2
      left
      constructor <;> grind
    · have e : n = 2 * (n / 2) := by omega
      have evn : ∀ y : Rat, 0 ≤ y ^ n := fun y => by rw [e]; exact even_nn _ _
      have sgn : ∀ y : Rat, (-y) ^ n = y ^ n := fun y => by
        have z : ∀ m : Nat, (-y) ^ (2 * m) = y ^ (2 * m) := fun m => by
          induction m with
          | zero => rw [Nat.mul_zero, Rat.pow_zero, Rat.pow_zero]
          | succ m ih =>
            have q : ∀ w : Rat, w ^ (2 * (m + 1)) = w ^ (2 * m) * (w * w) := fun w => by
              rw [Nat.mul_succ, Rat.pow_succ, Rat.pow_succ]
              grind
            rw [q, q, ih]
            grind
        rw [e]
        exact z _
      have up : x ^ n ≤ mx (a ^ n) (b ^ n) := by
        by_cases hx : 0 ≤ x
        · have z := pow_mono hx h2 n
          grind
        · have z := pow_mono (a := -x) (b := -a) (by grind) (by grind) n
          rw [sgn, sgn] at z
          grind
      by_cases hz : a ≤ 0 ∧ 0 ≤ b
      · exact .inr ⟨⟨by omega, by omega, hz.1, hz.2⟩, evn x, up⟩
      · left
        refine ⟨?_, up⟩
        by_cases ha : 0 ≤ a
        · have z := pow_mono ha h1 n
          grind
        · have z := pow_mono (a := -b) (b := -x) (by grind) (by grind) n
          rw [sgn, sgn] at z
          grind
  unfold rlo rhi
  by_cases z : zc a b n
  · rw [if_pos z, if_pos z]
    have l1 := mn_l (mn (a ^ n) (b ^ n)) 0
    have l2 := mn_r (mn (a ^ n) (b ^ n)) 0
    have l3 := mx_l (mx (a ^ n) (b ^ n)) 0
    rcases base with h | h
    · constructor <;> grind
    · constructor <;> grind
  · rw [if_neg z, if_neg z]
    rcases base with h | h
    · exact h
    · exact absurd h.1 z
theorem zero_pow {n : Nat} (h : 0 < n) : (0 : Rat) ^ n = 0 := by
  cases n with
  | zero => omega
  | succ n => rw [Rat.pow_succ, Rat.mul_zero]
theorem pow_sub {a b a' b' : Rat} (n : Nat) (h1 : a ≤ a') (o : a' ≤ b') (h2 : b' ≤ b) : rlo a b n ≤ rlo a' b' n ∧ rhi a' b' n ≤ rhi a b n := by
  have p1 := pow_in (a := a) (b := b) (x := a') n h1 (by grind)
  have p2 := pow_in (a := a) (b := b) (x := b') n (by grind) h2
  have l := le_mn p1.1 p2.1
  have u := mx_le' p1.2 p2.2
  by_cases z : zc a' b' n
  · have p3 := pow_in (a := a) (b := b) (x := 0) n (by have := z.2.2.1; grind) (by have := z.2.2.2; grind)
    rw [zero_pow z.1] at p3
    have e1 : rlo a' b' n = mn (mn (a' ^ n) (b' ^ n)) 0 := by unfold rlo; rw [if_pos z]
    have e2 : rhi a' b' n = mx (mx (a' ^ n) (b' ^ n)) 0 := by unfold rhi; rw [if_pos z]
    rw [e1, e2]
    exact ⟨le_mn l p3.1, mx_le' u p3.2⟩
  · have e1 : rlo a' b' n = mn (a' ^ n) (b' ^ n) := by unfold rlo; rw [if_neg z]
    have e2 : rhi a' b' n = mx (a' ^ n) (b' ^ n) := by unfold rhi; rw [if_neg z]
    rw [e1, e2]
    exact ⟨l, u⟩
theorem rlo_rhi {a b : Rat} (n : Nat) (o : a ≤ b) : rlo a b n ≤ rhi a b n := by
  have p := pow_in (a := a) (b := b) (x := a) n (by grind) o
  grind
/-! ### the grid -/
def flo (a : Rat) (n : Nat) : Rat := Rat.divInt ((a.num * 2 ^ n).fdiv a.den) (2 ^ n)
def cei (a : Rat) (n : Nat) : Rat := Rat.divInt (-((-a.num * 2 ^ n).fdiv a.den)) (2 ^ n)
theorem cei_flo (a : Rat) (n : Nat) : cei a n = -flo (-a) n := by
  unfold cei flo
  rw [Rat.neg_divInt, Rat.neg_num, Rat.neg_den]
theorem two_pos (n : Nat) : (0 : Rat) < ((2 ^ n : Int) : Rat) := Rat.intCast_pos.mpr (Int.pow_pos (by decide))
theorem num_den (a : Rat) : a * ((a.den : Int) : Rat) = (a.num : Rat) := by
  have z := Rat.num_divInt_den a
  rw [Rat.divInt_eq_div] at z
  have d : ((a.den : Int) : Rat) ≠ 0 := by
    have : (0 : Rat) < ((a.den : Int) : Rat) := Rat.intCast_pos.mpr (den_gt a)
    grind
  have y := Rat.div_mul_cancel (a := (a.num : Rat)) (b := ((a.den : Int) : Rat)) d
  rw [z] at y
  exact y
/-- the floor's number -/
def flm (a : Rat) (n : Nat) : Int := (a.num * 2 ^ n).fdiv a.den
theorem flo_mul (a : Rat) (n : Nat) : flo a n * ((2 ^ n : Int) : Rat) = (flm a n : Rat) := by
  unfold flo
  rw [Rat.divInt_eq_div]
  exact Rat.div_mul_cancel (by have := two_pos n; grind)
theorem flm_le (a : Rat) (n : Nat) : (flm a n : Rat) ≤ a * ((2 ^ n : Int) : Rat) := by
  have dp : (0 : Rat) < ((a.den : Int) : Rat) := Rat.intCast_pos.mpr (den_gt a)
  refine Rat.le_of_mul_le_mul_right (c := ((a.den : Int) : Rat)) ?_ dp
  have e : a * ((2 ^ n : Int) : Rat) * ((a.den : Int) : Rat) = ((a.num * 2 ^ n : Int) : Rat) := by
    rw [Rat.intCast_mul, ← num_den a]
    grind
  rw [e, ← Rat.intCast_mul]
  refine Rat.intCast_le_intCast.mpr ?_
  unfold flm
  rw [Int.fdiv_eq_ediv_of_nonneg _ (by omega)]
  exact Int.ediv_mul_le _ (den_ne a)
theorem lt_flm (a : Rat) (n : Nat) : a * ((2 ^ n : Int) : Rat) < ((flm a n + 1 : Int) : Rat) := by
  have dp : (0 : Rat) < ((a.den : Int) : Rat) := Rat.intCast_pos.mpr (den_gt a)
  refine Rat.lt_of_mul_lt_mul_right (c := ((a.den : Int) : Rat)) ?_ (by grind)
  have e : a * ((2 ^ n : Int) : Rat) * ((a.den : Int) : Rat) = ((a.num * 2 ^ n : Int) : Rat) := by
    rw [Rat.intCast_mul, ← num_den a]
    grind
  rw [e, ← Rat.intCast_mul]
  refine Rat.intCast_lt_intCast.mpr ?_
  exact Int.lt_fdiv_add_one_mul_self _ (den_gt a)
theorem flo_le (a : Rat) (n : Nat) : flo a n ≤ a := by
  refine Rat.le_of_mul_le_mul_right (c := ((2 ^ n : Int) : Rat)) ?_ (two_pos n)
  rw [flo_mul]
  exact flm_le a n
theorem flo_mono {a b : Rat} (h : a ≤ b) (n : Nat) : flo a n ≤ flo b n := by
  refine Rat.le_of_mul_le_mul_right (c := ((2 ^ n : Int) : Rat)) ?_ (two_pos n)
  rw [flo_mul, flo_mul]
  refine Rat.intCast_le_intCast.mpr ?_
  have z1 := flm_le a n
  have z2 := lt_flm b n
  have z3 := Rat.mul_le_mul_of_nonneg_right h (show (0 : Rat) ≤ ((2 ^ n : Int) : Rat) by have := two_pos n; grind)
  have z4 : (flm a n : Rat) < ((flm b n + 1 : Int) : Rat) := by grind
  have := Rat.intCast_lt_intCast.mp z4
  omega
theorem le_cei (a : Rat) (n : Nat) : a ≤ cei a n := by
  have := flo_le (-a) n
  rw [cei_flo]
  grind
theorem cei_mono {a b : Rat} (h : a ≤ b) (n : Nat) : cei a n ≤ cei b n := by
  have := flo_mono (a := -b) (b := -a) (by grind) n
  rw [cei_flo, cei_flo]
  grind
theorem flo_den (a : Rat) (n : Nat) : ((flo a n).den : Int) ∣ 2 ^ n := by
  unfold flo
  rw [Rat.den_divInt, if_neg (by have : (0 : Int) < 2 ^ n := Int.pow_pos (by decide); omega)]
  have z : (2 ^ n : Int).natAbs / (2 ^ n : Int).gcd ((a.num * 2 ^ n).fdiv a.den) ∣ (2 ^ n : Int).natAbs := Nat.div_dvd_of_dvd (Nat.gcd_dvd_left _ _)
  exact Int.ofNat_dvd_left.mpr z
theorem cei_den (a : Rat) (n : Nat) : ((cei a n).den : Int) ∣ 2 ^ n := by
  rw [cei_flo, Rat.neg_den]
  exact flo_den _ _
theorem sz_two {n : Nat} (h : n < 50) : sz 51 ((2 : Int) ^ n) := by
  unfold sz
  rw [Int.natAbs_pow]
  exact Nat.pow_lt_pow_right (by decide) (by omega)
theorem szq.flo {k n : Nat} {a : Rat} (h : szq k a) (hn : n < 50) : szq (k + 51) (flo a n) := by
  refine szq_divInt (by have : (0 : Int) < 2 ^ n := Int.pow_pos (by decide); omega) ((h.1.mul (sz_two hn)).fdiv.resolve_right (den_ne a)) ((sz_two hn).mono (by omega))
theorem szq.cei {k n : Nat} {a : Rat} (h : szq k a) (hn : n < 50) : szq (k + 51) (cei a n) := by
  rw [cei_flo]
  exact (h.neg.flo hn).neg
theorem sz_one : szq 1 (1 : Rat) := ⟨by unfold sz; decide, by unfold sz; decide⟩
theorem sz_zero : szq 1 (0 : Rat) := ⟨by unfold sz; decide, by unfold sz; decide⟩
end MP
end
section
set_option Elab.async false
set_option linter.all false
set_option maxRecDepth 100000
/-! MPEq: == and in over data of any depth. -/
namespace MP
open PySem
mutual
/-- data without truth values, instances, numbers of the store -/
def PV.std : PV → Bool
  | .non => true
  | .int _ => true
  | .str x => PyData.strOk x
  | .tup xs => PV.stds xs
  | .lst xs => PV.stds xs
  | _ => false
def PV.stds : List PV → Bool
  | [] => true
  | x :: xs => x.std && PV.stds xs
end
mutual
def PV.dp : PV → Nat
  | .tup xs => PV.dps xs + 1
  | .lst xs => PV.dps xs + 1
  | _ => 0
def PV.dps : List PV → Nat
  | [] => 0
  | x :: xs => max x.dp (PV.dps xs)
end
mutual
theorem std_toD : ∀ {x : PV}, x.std = true → ∃ d, x.toD = some d ∧ d.canLay0 = true ∧ d.depth = x.dp
  | .non, _ => ⟨_, rfl, rfl, rfl⟩
  | .int _, _ => ⟨_, rfl, rfl, rfl⟩
  | .str x, h => ⟨_, rfl, h, rfl⟩
  | .tup xs, h => by
    obtain ⟨ds, e, c, p⟩ := stds_toD (xs := xs) h
    exact ⟨.tuple ds, by simp [PV.toD, e], by simpa [PyData.canLay0] using c, by simp [PyData.depth, PV.dp, p]⟩
  | .lst xs, h => by
    obtain ⟨ds, e, c, p⟩ := stds_toD (xs := xs) h
    exact ⟨.list ds, by simp [PV.toD, e], by simpa [PyData.canLay0] using c, by simp [PyData.depth, PV.dp, p]⟩
  | .bl _, h => by cases h
  | .obj _ _, h => by cases h
  | .ref _, h => by cases h
theorem stds_toD : ∀ {xs : List PV}, PV.stds xs = true → ∃ ds, PV.toDs xs = some ds ∧ PyData.canLayAll0 ds = true ∧ PyData.depthAll ds = PV.dps xs
  | [], _ => ⟨[], rfl, rfl, rfl⟩
  | x :: xs, h => by
    have h' := Bool.and_eq_true_iff.mp (show (x.std && PV.stds xs) = true from h)
    obtain ⟨d, e1, c1, p1⟩ := std_toD h'.1
    obtain ⟨ds, e2, c2, p2⟩ := stds_toD h'.2
    exact ⟨d :: ds, by simp [PV.toDs, e1, e2], by simp [PyData.canLayAll0, c1, c2], by simp [PyData.depthAll, PV.dps, p1, p2]⟩
end
theorem str_beq (x y : Str) : (x == y) = decide (x = y) := by
  by_cases h : x = y
  · subst h; simp
  · rw [decide_eq_false h]
    simpa using h
mutual
theorem std_eqv : ∀ {x y : PV} {d e : PyData}, x.std = true → y.std = true → x.toD = some d → y.toD = some e → d.eqv e = decide (x = y)
  | .non, y, d, e, _, hy, h1, h2 => by
    cases h1
    cases y <;> first | (cases h2; simp [PyData.eqv]; done) | (simp [PV.std] at hy; done) | skip
    all_goals
      rename_i xs
      cases q : PV.toDs xs with
      | none => simp [PV.toD, q] at h2
      | some ds =>
        simp [PV.toD, q] at h2
        subst h2
        simp [PyData.eqv]
  | .int i, y, d, e, _, hy, h1, h2 => by
    cases h1
    cases y <;> first | (cases h2; simp [PyData.eqv, BEq.beq]; done) | (cases h2; simp [PyData.eqv]; done) | (simp [PV.std] at hy; done) | skip
    all_goals
      rename_i xs
      cases q : PV.toDs xs with
      | none => simp [PV.toD, q] at h2
      | some ds =>
        simp [PV.toD, q] at h2
        subst h2
        simp [PyData.eqv]
  | .str z, y, d, e, _, hy, h1, h2 => by
    cases h1
    cases y <;> first | (cases h2; simp [PyData.eqv]; done) | (cases h2; simp only [PyData.eqv, PV.str.injEq]; exact str_beq _ _) | (simp [PV.std] at hy; done) | skip
    all_goals
      rename_i xs
      cases q : PV.toDs xs with
      | none => simp [PV.toD, q] at h2
      | some ds =>
        simp [PV.toD, q] at h2
        subst h2
        simp [PyData.eqv]
  | .tup xs, y, d, e, hx, hy, h1, h2 => by
    cases q1 : PV.toDs xs with
    | none => simp [PV.toD, q1] at h1
    | some ds =>
      simp [PV.toD, q1] at h1
      subst h1
      cases y with
      | tup ys =>
        cases q2 : PV.toDs ys with
        | none => simp [PV.toD, q2] at h2
        | some es =>
          simp [PV.toD, q2] at h2
          subst h2
          have ih := stds_eqv (xs := xs) (ys := ys) hx hy q1 q2
          simp [PyData.eqv, ih]
      | lst ys =>
        cases q2 : PV.toDs ys with
        | none => simp [PV.toD, q2] at h2
        | some es =>
          simp [PV.toD, q2] at h2
          subst h2
          simp [PyData.eqv]
      | bl _ => simp [PV.std] at hy
      | obj _ _ => simp [PV.std] at hy
      | ref _ => simp [PV.std] at hy
      | _ => cases h2; simp [PyData.eqv]
  | .lst xs, y, d, e, hx, hy, h1, h2 => by
    cases q1 : PV.toDs xs with
    | none => simp [PV.toD, q1] at h1
    | some ds =>
      simp [PV.toD, q1] at h1
      subst h1
      cases y with
      | lst ys =>
        cases q2 : PV.toDs ys with
        | none => simp [PV.toD, q2] at h2
        | some es =>
          simp [PV.toD, q2] at h2
          subst h2
          have ih := stds_eqv (xs := xs) (ys := ys) hx hy q1 q2
          simp [PyData.eqv, ih]
      | tup ys =>
        cases q2 : PV.toDs ys with
        | none => simp [PV.toD, q2] at h2
        | some es =>
          simp [PV.toD, q2] at h2
          subst h2
          simp [PyData.eqv]
      | bl _ => simp [PV.std] at hy
      | obj _ _ => simp [PV.std] at hy
      | ref _ => simp [PV.std] at hy
      | _ => cases h2; simp [PyData.eqv]
  | .bl _, _, _, _, hx, _, _, _ => by cases hx
  | .obj _ _, _, _, _, hx, _, _, _ => by cases hx
  | .ref _, _, _, _, hx, _, _, _ => by cases hx
theorem stds_eqv : ∀ {xs ys : List PV} {ds es : List PyData}, PV.stds xs = true → PV.stds ys = true → PV.toDs xs = some ds → PV.toDs ys = some es → PyData.eqvAll ds es = decide (xs = ys)
  | [], [], ds, es, _, _, h1, h2 => by cases h1; cases h2; simp [PyData.eqvAll]
  | [], y :: ys, ds, es, _, hy, h1, h2 => by
    obtain ⟨fs, e, _⟩ := stds_toD hy
    cases h1
    rw [e] at h2
    cases h2
    cases es with
    | nil =>
      exfalso
      cases q : y.toD with
      | none => simp [PV.toDs, q] at e
      | some d => cases q2 : PV.toDs ys with
        | none => simp [PV.toDs, q, q2] at e
        | some r => simp [PV.toDs, q, q2] at e
    | cons _ _ => simp [PyData.eqvAll]
  | x :: xs, [], ds, es, hx, _, h1, h2 => by
    obtain ⟨fs, e, _⟩ := stds_toD hx
    cases h2
    rw [e] at h1
    cases h1
    cases ds with
    | nil =>
      exfalso
      cases q : x.toD with
      | none => simp [PV.toDs, q] at e
      | some d => cases q2 : PV.toDs xs with
        | none => simp [PV.toDs, q, q2] at e
        | some r => simp [PV.toDs, q, q2] at e
    | cons _ _ => simp [PyData.eqvAll]
  | x :: xs, y :: ys, ds, es, hx, hy, h1, h2 => by
    have hx' := Bool.and_eq_true_iff.mp (show (x.std && PV.stds xs) = true from hx)
    have hy' := Bool.and_eq_true_iff.mp (show (y.std && PV.stds ys) = true from hy)
    obtain ⟨d, a1, _⟩ := std_toD hx'.1
    obtain ⟨ds', a2, _⟩ := stds_toD hx'.2
    obtain ⟨e, b1, _⟩ := std_toD hy'.1
    obtain ⟨es', b2, _⟩ := stds_toD hy'.2
    have c1 := std_eqv hx'.1 hy'.1 a1 b1
    have c2 := stds_eqv hx'.2 hy'.2 a2 b2
    simp [PV.toDs, a1, a2] at h1
    simp [PV.toDs, b1, b2] at h2
    subst h1
    subst h2
    by_cases p : x = y
    · by_cases q : xs = ys
      · simp [PyData.eqvAll, c1, c2, p, q]
      · simp [PyData.eqvAll, c1, c2, p, q]
    · simp [PyData.eqvAll, c1, c2, p]
end
theorem toDS_std {S : Sto} {x : PV} (h : x.std = true) : toDS S x = x.toD := by
  cases x <;> first | rfl | cases h
theorem eqV_std {S : Sto} {x y : PV} (hx : x.std = true) (hy : y.std = true) (dx : x.dp ≤ 64) (dy : y.dp ≤ 64) : eqV S x y = some (decide (x = y)) := by
  obtain ⟨d, a1, a2, a3⟩ := std_toD hx
  obtain ⟨e, b1, b2, b3⟩ := std_toD hy
  unfold eqV
  rw [toDS_std hx, toDS_std hy, a1, b1]
  have s1 : shaped d = true := by unfold shaped; rw [a2, a3, decide_eq_true dx]; rfl
  have s2 : shaped e = true := by unfold shaped; rw [b2, b3, decide_eq_true dy]; rfl
  simp only [s1, s2, Bool.and_self, if_true]
  rw [std_eqv hx hy a1 b1]
theorem flat_eq {x y : PV} (hx : x.std = true) (hy : y.std = true) (fx : x.flat = true) (fy : y.flat = true) : x.eqF y = decide (x = y) := by
  cases x <;> cases y <;> first | (cases fx; done) | (cases fy; done) | (cases hx; done) | (cases hy; done) | (simp [PV.eqF]; done) | (simp [PV.eqF, BEq.beq]; done)
theorem stds_mem : ∀ {xs : List PV} {x : PV}, PV.stds xs = true → x ∈ xs → x.std = true
  | y :: ys, x, h, m => by
    have h' := Bool.and_eq_true_iff.mp (show (y.std && PV.stds ys) = true from h)
    rcases List.mem_cons.mp m with rfl | m
    · exact h'.1
    · exact stds_mem h'.2 m
theorem any_eqv {x : PV} {d : PyData} (hx : x.std = true) (a1 : x.toD = some d) : ∀ {xs : List PV} {ds : List PyData}, PV.stds xs = true → PV.toDs xs = some ds → (ds.any fun z => z.eqv d) = xs.any fun z => decide (z = x)
  | [], ds, _, e => by cases e; rfl
  | y :: ys, ds, h, e => by
    have h' := Bool.and_eq_true_iff.mp (show (y.std && PV.stds ys) = true from h)
    obtain ⟨e1, b1, _⟩ := std_toD h'.1
    obtain ⟨es, b2, _⟩ := stds_toD h'.2
    simp [PV.toDs, b1, b2] at e
    subst e
    rw [List.any_cons, List.any_cons, std_eqv h'.1 hx b1 a1, any_eqv hx a1 h'.2 b2]
/-- in, over a written or locked list -/
theorem inSeq_std {S : Sto} {x : PV} {xs : List PV} (hx : x.std = true) (h : PV.stds xs = true) (dx : x.dp ≤ 64) (dy : PV.dps xs ≤ 63) : inSeq S x (.lst xs) = some (xs.any fun z => decide (z = x)) := by
  unfold inSeq
  show (if (x.flat && xs.all PV.flat) = true then some (xs.any fun z => z.eqF x) else inDeep S x (.lst xs)) = _
  split
  · rename_i hf
    have hf := Bool.and_eq_true_iff.mp hf
    congr 1
    have z : ∀ y ∈ xs, y.eqF x = decide (y = x) := fun y m => flat_eq (stds_mem h m) hx (List.all_eq_true.mp hf.2 y m) hf.1
    rename_i hh
    clear h dy hf hh
    induction xs with
    | nil => rfl
    | cons y ys ih => rw [List.any_cons, List.any_cons, z y List.mem_cons_self, ih fun w m => z w (List.mem_cons_of_mem _ m)]
  · obtain ⟨d, a1, a2, a3⟩ := std_toD hx
    obtain ⟨ds, b1, b2, b3⟩ := stds_toD h
    unfold inDeep
    rw [toDS_std hx, a1, show toDS S (.lst xs) = some (.list ds) by simp [toDS, PV.toD, b1]]
    have s1 : shaped d = true := by unfold shaped; rw [a2, a3, decide_eq_true dx]; rfl
    have s2 : shaped (.list ds) = true := by
      unfold shaped
      have : PyData.depth (.list ds) = PV.dps xs + 1 := by simp [PyData.depth, b3]
      rw [this, show PyData.canLay0 (.list ds) = true by simpa [PyData.canLay0] using b2, decide_eq_true (by omega)]
      rfl
    simp only [s1, s2, Bool.and_self, if_true]
    rw [any_eqv hx a1 h b1]
end MP
end
section
set_option Elab.async false
set_option linter.all false
set_option maxRecDepth 100000
/-! MPSimp: each operator where its operands are known. -/
namespace MP
open PySem
section
variable {S : Sto} {i j : Int} {x y : PV} {xs ys : List PV}
theorem ix_tup : ixV S (.tup xs) (.int i) = itemAt xs i := by simp only [ixV]
theorem ix_lst : ixV S (.lst xs) (.int i) = itemAt xs i := by simp only [ixV]
theorem ix_r {k : Nat} : ixV S (.ref k) (.int i) = match S.lst? k with
    | some xs => itemAt xs i
    | none => (dAsk S k (.int i)).bind id := by
  cases h : S.lst? k <;> simp only [ixV, h]
theorem cm_eq : cmV S .eq x y = eqV S x y := by simp only [cmV]
theorem cm_ne : cmV S .ne x y = (eqV S x y).map (!·) := by simp only [cmV]
theorem cm_lt : cmV S .lt (.int i) (.int j) = some (decide (i < j)) := by simp only [cmV, cmL]
theorem cm_le : cmV S .le (.int i) (.int j) = some (decide (i ≤ j)) := by simp only [cmV, cmI]
theorem cm_gt : cmV S .gt (.int i) (.int j) = some (decide (j < i)) := by simp only [cmV, cmI]
theorem cm_ge : cmV S .ge (.int i) (.int j) = some (decide (j ≤ i)) := by simp only [cmV, cmI]
theorem cm_isn : cmV S .isn x .non = some (decide (x = .non)) := by simp only [cmV, isV]
theorem cm_nisn : cmV S .nisn x .non = some (!decide (x = .non)) := by simp only [cmV, isV, Option.map]
theorem cm_isb {b c : Bool} : cmV S .isn (.bl b) (.bl c) = some (decide (b = c)) := by simp only [cmV, isV]
theorem cm_inn : cmV S .inn x y = inSeq S x y := by simp only [cmV]
theorem cm_nin : cmV S .nin x y = (inSeq S x y).map (!·) := by simp only [cmV]
theorem op_ad : opV S .add (.int i) (.int j) = some (.int (i + j)) := by simp only [opV]
theorem op_sb : opV S .sub (.int i) (.int j) = some (.int (i - j)) := by simp only [opV]
theorem op_ml : opV S .mul (.int i) (.int j) = if mulOk i j then some (.int (i * j)) else none := by simp only [opV]
theorem op_dv : opV S .fdiv (.int i) (.int j) = if divOk j then some (.int (i.fdiv j)) else none := by simp only [opV]
theorem op_md : opV S .mod (.int i) (.int j) = if j = 0 then none else some (.int (i.fmod j)) := by simp only [opV]
theorem op_pw : opV S .pow (.int i) (.int j) = if powOk i j then some (.int (i ^ j.toNat)) else none := by simp only [opV]
theorem op_sl : opV S .shl (.int i) (.int j) = if shlOk i j then some (.int (i * 2 ^ j.toNat)) else none := by simp only [opV]
theorem op_as {a b : Str} : opV S .add (.str a) (.str b) = if a.length + b.length ≤ lenMax then some (.str (a ++ b)) else none := by simp only [opV]
theorem op_at : opV S .add (.tup xs) (.tup ys) = if xs.length + ys.length ≤ lenMax then some (.tup (xs ++ ys)) else none := by simp only [opV]
theorem op_mt : opV S .mul (.tup xs) (.int j) = if !xs.isEmpty && decide (2 ≤ j) && decide (j ≤ 1000) && decide (xs.length ≤ 1000) then some (.tup (List.replicate j.toNat xs).flatten) else none := by simp only [opV]
theorem op_al : opV S .add (.lst xs) (.lst ys) = if xs.length + ys.length ≤ lenMax then some (.lst (xs ++ ys)) else none := by simp only [opV, lstOf]
theorem bi_abs : biV S .abs [.int i] = some (.int (if i < 0 then -i else i)) := by simp only [biV]
theorem bi_int : biV S .int [.int i] = some (.int i) := by simp only [biV]
theorem bi_intb {b : Bool} : biV S .int [.bl b] = some (.int (if b then 1 else 0)) := by simp only [biV]
theorem bi_ints {z : Str} : biV S .int [.str z] = if z.length ≤ 640 then (intText? z).map .int else none := by simp only [biV]
theorem bi_lent : biV S .len [.tup xs] = some (.int xs.length) := by simp only [biV]
theorem bi_lenl : biV S .len [.lst xs] = some (.int xs.length) := by simp only [biV, lstOf, Option.map]
theorem bi_lenr {k : Nat} : biV S .len [.ref k] = (S.lst? k).map fun ys => .int ys.length := by simp only [biV, lstOf]
theorem bi_lens {z : Str} : biV S .len [.str z] = if z.length ≤ lenMax then some (.int z.length) else none := by simp only [biV]
theorem bi_listt : biV S .list [.tup xs] = some (.lst xs) := by simp only [biV, seqOf, Option.map]
theorem bi_listl : biV S .list [.lst xs] = some (.lst xs) := by simp only [biV, seqOf, Option.map]
theorem bi_tupt : biV S .tuple [.tup xs] = some (.tup xs) := by simp only [biV, seqOf, Option.map]
theorem bi_tupl : biV S .tuple [.lst xs] = some (.tup xs) := by simp only [biV, seqOf, Option.map]
theorem bi_tupr {k : Nat} : biV S .tuple [.ref k] = (S.lst? k).map .tup := by simp only [biV, seqOf]
theorem bi_gcd : biV S .gcd [.int i, .int j] = some (.int ((Nat.gcd i.natAbs j.natAbs : Nat) : Int)) := by simp only [biV]
theorem bi_max : biV S .max2 [.int i, .int j] = some (.int (if j > i then j else i)) := by simp only [biV]
theorem bi_min : biV S .min2 [.int i, .int j] = some (.int (if j < i then j else i)) := by simp only [biV]
theorem bi_str : biV S .str [.int i] = if i.natAbs.log2 < 1920 then some (.str (toString i)) else none := by simp only [biV]
theorem bi_sum : biV S .sum [x] = ((seqOf S x).bind intsOf).map fun ns => .int ns.sum := by simp only [biV]
theorem bi_all : biV S .all [x] = ((lstOf S x).bind blsOf).map fun ns => .bl (ns.all id) := by simp only [biV]
theorem bi_any : biV S .any [x] = ((lstOf S x).bind blsOf).map fun ns => .bl (ns.any id) := by simp only [biV]
theorem tr_non : truV S .non = some false := by simp only [truV]
theorem tr_bl {b : Bool} : truV S (.bl b) = some b := by simp only [truV]
theorem tr_int : truV S (.int i) = some (i != 0) := by simp only [truV]
theorem tr_tup : truV S (.tup xs) = some (!xs.isEmpty) := by simp only [truV]
theorem tr_lst : truV S (.lst xs) = some (!xs.isEmpty) := by simp only [truV]
theorem ty_nt {b : Ty} : isTy .non b = some false := by simp only [isTy]
theorem ty_tt : isTy (.tup xs) .tup = some true := by simp only [isTy]
theorem ty_ti : isTy (.tup xs) .int = some false := by simp only [isTy]
theorem ty_ii : isTy (.int i) .int = some true := by simp only [isTy]
theorem ty_it : isTy (.int i) .tup = some false := by simp only [isTy]
theorem ty_is : isTy (.int i) .str = some false := by simp only [isTy]
theorem sl_tup {lo hi : Option Int} : slV S (.tup xs) lo hi = some (.tup (cut xs lo hi)) := by simp only [slV]
theorem sl_lst {lo hi : Option Int} : slV S (.lst xs) lo hi = some (.lst (cut xs lo hi)) := by simp only [slV]
theorem sq_tup : seqOf S (.tup xs) = some xs := by simp only [seqOf]
theorem sq_lst : seqOf S (.lst xs) = some xs := by simp only [seqOf]
theorem ls_lst : lstOf S (.lst xs) = some xs := by simp only [lstOf]
theorem th_lst : thaw (.lst xs) S = .ok (.ref S.len) (S.push (.lst xs)) := by simp only [thaw]
theorem wk_tup : walkV S (.tup xs) = some (xs, []) := by simp only [walkV]
theorem wk_lst : walkV S (.lst xs) = some (xs, []) := by simp only [walkV]
theorem opt_some {α : Type} {a : α} : opt (some a) S = .ok a S := by simp only [opt]
theorem eqV_non : eqV S .non .non = some true := by rw [eqV_std rfl rfl (by decide) (by decide)]; rfl
end
end MP
end
section
set_option Elab.async false
set_option linter.all false
set_option maxRecDepth 100000
/-! MPStr: short texts that are met (printed by a program) -/
namespace MP
open PySem
theorem eqV_str {S : Sto} {x y : Str} {c : Bool} (hx : shaped (.str x) = true) (hy : shaped (.str y) = true) (h : (PyData.str x).eqv (.str y) = c) : eqV S (.str x) (.str y) = some c := by
  unfold eqV
  simp only [toDS, PV.toD]
  rw [hx, hy, h]
  rfl
theorem es_num_num {S : Sto} : eqV S (.str "num") (.str "num") = some true := eqV_str (by decide +kernel) (by decide +kernel) (by decide +kernel)
theorem es_num_state {S : Sto} : eqV S (.str "num") (.str "state") = some false := eqV_str (by decide +kernel) (by decide +kernel) (by decide +kernel)
theorem es_num_const {S : Sto} : eqV S (.str "num") (.str "const") = some false := eqV_str (by decide +kernel) (by decide +kernel) (by decide +kernel)
theorem es_num_pow {S : Sto} : eqV S (.str "num") (.str "pow") = some false := eqV_str (by decide +kernel) (by decide +kernel) (by decide +kernel)
theorem es_num_add {S : Sto} : eqV S (.str "num") (.str "add") = some false := eqV_str (by decide +kernel) (by decide +kernel) (by decide +kernel)
theorem es_num_sub {S : Sto} : eqV S (.str "num") (.str "sub") = some false := eqV_str (by decide +kernel) (by decide +kernel) (by decide +kernel)
theorem es_num_mul {S : Sto} : eqV S (.str "num") (.str "mul") = some false := eqV_str (by decide +kernel) (by decide +kernel) (by decide +kernel)
theorem es_num_div {S : Sto} : eqV S (.str "num") (.str "div") = some false := eqV_str (by decide +kernel) (by decide +kernel) (by decide +kernel)
theorem es_state_num {S : Sto} : eqV S (.str "state") (.str "num") = some false := eqV_str (by decide +kernel) (by decide +kernel) (by decide +kernel)
theorem es_state_state {S : Sto} : eqV S (.str "state") (.str "state") = some true := eqV_str (by decide +kernel) (by decide +kernel) (by decide +kernel)
theorem es_state_const {S : Sto} : eqV S (.str "state") (.str "const") = some false := eqV_str (by decide +kernel) (by decide +kernel) (by decide +kernel)
theorem es_state_pow {S : Sto} : eqV S (.str "state") (.str "pow") = some false := eqV_str (by decide +kernel) (by decide +kernel) (by decide +kernel)
theorem es_state_add {S : Sto} : eqV S (.str "state") (.str "add") = some false := eqV_str (by decide +kernel) (by decide +kernel) (by decide +kernel)
theorem es_state_sub {S : Sto} : eqV S (.str "state") (.str "sub") = some false := eqV_str (by decide +kernel) (by decide +kernel) (by decide +kernel)
theorem es_state_mul {S : Sto} : eqV S (.str "state") (.str "mul") = some false := eqV_str (by decide +kernel) (by decide +kernel) (by decide +kernel)
theorem es_state_div {S : Sto} : eqV S (.str "state") (.str "div") = some false := eqV_str (by decide +kernel) (by decide +kernel) (by decide +kernel)
theorem es_const_num {S : Sto} : eqV S (.str "const") (.str "num") = some false := eqV_str (by decide +kernel) (by decide +kernel) (by decide +kernel)
theorem es_const_state {S : Sto} : eqV S (.str "const") (.str "state") = some false := eqV_str (by decide +kernel) (by decide +kernel) (by decide +kernel)
theorem es_const_const {S : Sto} : eqV S (.str "const") (.str "const") = some true := eqV_str (by decide +kernel) (by decide +kernel) (by decide +kernel)
theorem es_const_pow {S : Sto} : eqV S (.str "const") (.str "pow") = some false := eqV_str (by decide +kernel) (by decide +kernel) (by decide +kernel)
theorem es_const_add {S : Sto} : eqV S (.str "const") (.str "add") = some false := eqV_str (by decide +kernel) (by decide +kernel) (by decide +kernel)
theorem es_const_sub {S : Sto} : eqV S (.str "const") (.str "sub") = some false := eqV_str (by decide +kernel) (by decide +kernel) (by decide +kernel)
theorem es_const_mul {S : Sto} : eqV S (.str "const") (.str "mul") = some false := eqV_str (by decide +kernel) (by decide +kernel) (by decide +kernel)
theorem es_const_div {S : Sto} : eqV S (.str "const") (.str "div") = some false := eqV_str (by decide +kernel) (by decide +kernel) (by decide +kernel)
theorem es_pow_num {S : Sto} : eqV S (.str "pow") (.str "num") = some false := eqV_str (by decide +kernel) (by decide +kernel) (by decide +kernel)
theorem es_pow_state {S : Sto} : eqV S (.str "pow") (.str "state") = some false := eqV_str (by decide +kernel) (by decide +kernel) (by decide +kernel)
theorem es_pow_const {S : Sto} : eqV S (.str "pow") (.str "const") = some false := eqV_str (by decide +kernel) (by decide +kernel) (by decide +kernel)
theorem es_pow_pow {S : Sto} : eqV S (.str "pow") (.str "pow") = some true := eqV_str (by decide +kernel) (by decide +kernel) (by decide +kernel)
theorem es_pow_add {S : Sto} : eqV S (.str "pow") (.str "add") = some false := eqV_str (by decide +kernel) (by decide +kernel) (by decide +kernel)
theorem es_pow_sub {S : Sto} : eqV S (.str "pow") (.str "sub") = some false := eqV_str (by decide +kernel) (by decide +kernel) (by decide +kernel)
theorem es_pow_mul {S : Sto} : eqV S (.str "pow") (.str "mul") = some false := eqV_str (by decide +kernel) (by decide +kernel) (by decide +kernel)
theorem es_pow_div {S : Sto} : eqV S (.str "pow") (.str "div") = some false := eqV_str (by decide +kernel) (by decide +kernel) (by decide +kernel)
theorem es_add_num {S : Sto} : eqV S (.str "add") (.str "num") = some false := eqV_str (by decide +kernel) (by decide +kernel) (by decide +kernel)
theorem es_add_state {S : Sto} : eqV S (.str "add") (.str "state") = some false := eqV_str (by decide +kernel) (by decide +kernel) (by decide +kernel)
theorem es_add_const {S : Sto} : eqV S (.str "add") (.str "const") = some false := eqV_str (by decide +kernel) (by decide +kernel) (by decide +kernel)
theorem es_add_pow {S : Sto} : eqV S (.str "add") (.str "pow") = some false := eqV_str (by decide +kernel) (by decide +kernel) (by decide +kernel)
theorem es_add_add {S : Sto} : eqV S (.str "add") (.str "add") = some true := eqV_str (by decide +kernel) (by decide +kernel) (by decide +kernel)
theorem es_add_sub {S : Sto} : eqV S (.str "add") (.str "sub") = some false := eqV_str (by decide +kernel) (by decide +kernel) (by decide +kernel)
theorem es_add_mul {S : Sto} : eqV S (.str "add") (.str "mul") = some false := eqV_str (by decide +kernel) (by decide +kernel) (by decide +kernel)
theorem es_add_div {S : Sto} : eqV S (.str "add") (.str "div") = some false := eqV_str (by decide +kernel) (by decide +kernel) (by decide +kernel)
theorem es_sub_num {S : Sto} : eqV S (.str "sub") (.str "num") = some false := eqV_str (by decide +kernel) (by decide +kernel) (by decide +kernel)
theorem es_sub_state {S : Sto} : eqV S (.str "sub") (.str "state") = some false := eqV_str (by decide +kernel) (by decide +kernel) (by decide +kernel)
theorem es_sub_const {S : Sto} : eqV S (.str "sub") (.str "const") = some false := eqV_str (by decide +kernel) (by decide +kernel) (by decide +kernel)
theorem es_sub_pow {S : Sto} : eqV S (.str "sub") (.str "pow") = some false := eqV_str (by decide +kernel) (by decide +kernel) (by decide +kernel)
theorem es_sub_add {S : Sto} : eqV S (.str "sub") (.str "add") = some false := eqV_str (by decide +kernel) (by decide +kernel) (by decide +kernel)
theorem es_sub_sub {S : Sto} : eqV S (.str "sub") (.str "sub") = some true := eqV_str (by decide +kernel) (by decide +kernel) (by decide +kernel)
theorem es_sub_mul {S : Sto} : eqV S (.str "sub") (.str "mul") = some false := eqV_str (by decide +kernel) (by decide +kernel) (by decide +kernel)
theorem es_sub_div {S : Sto} : eqV S (.str "sub") (.str "div") = some false := eqV_str (by decide +kernel) (by decide +kernel) (by decide +kernel)
theorem es_mul_num {S : Sto} : eqV S (.str "mul") (.str "num") = some false := eqV_str (by decide +kernel) (by decide +kernel) (by decide +kernel)
theorem es_mul_state {S : Sto} : eqV S (.str "mul") (.str "state") = some false := eqV_str (by decide +kernel) (by decide +kernel) (by decide +kernel)
theorem es_mul_const {S : Sto} : eqV S (.str "mul") (.str "const") = some false := eqV_str (by decide +kernel) (by decide +kernel) (by decide +kernel)
theorem es_mul_pow {S : Sto} : eqV S (.str "mul") (.str "pow") = some false := eqV_str (by decide +kernel) (by decide +kernel) (by decide +kernel)
theorem es_mul_add {S : Sto} : eqV S (.str "mul") (.str "add") = some false := eqV_str (by decide +kernel) (by decide +kernel) (by decide +kernel)
theorem es_mul_sub {S : Sto} : eqV S (.str "mul") (.str "sub") = some false := eqV_str (by decide +kernel) (by decide +kernel) (by decide +kernel)
theorem es_mul_mul {S : Sto} : eqV S (.str "mul") (.str "mul") = some true := eqV_str (by decide +kernel) (by decide +kernel) (by decide +kernel)
theorem es_mul_div {S : Sto} : eqV S (.str "mul") (.str "div") = some false := eqV_str (by decide +kernel) (by decide +kernel) (by decide +kernel)
theorem es_div_num {S : Sto} : eqV S (.str "div") (.str "num") = some false := eqV_str (by decide +kernel) (by decide +kernel) (by decide +kernel)
theorem es_div_state {S : Sto} : eqV S (.str "div") (.str "state") = some false := eqV_str (by decide +kernel) (by decide +kernel) (by decide +kernel)
theorem es_div_const {S : Sto} : eqV S (.str "div") (.str "const") = some false := eqV_str (by decide +kernel) (by decide +kernel) (by decide +kernel)
theorem es_div_pow {S : Sto} : eqV S (.str "div") (.str "pow") = some false := eqV_str (by decide +kernel) (by decide +kernel) (by decide +kernel)
theorem es_div_add {S : Sto} : eqV S (.str "div") (.str "add") = some false := eqV_str (by decide +kernel) (by decide +kernel) (by decide +kernel)
theorem es_div_sub {S : Sto} : eqV S (.str "div") (.str "sub") = some false := eqV_str (by decide +kernel) (by decide +kernel) (by decide +kernel)
theorem es_div_mul {S : Sto} : eqV S (.str "div") (.str "mul") = some false := eqV_str (by decide +kernel) (by decide +kernel) (by decide +kernel)
theorem es_div_div {S : Sto} : eqV S (.str "div") (.str "div") = some true := eqV_str (by decide +kernel) (by decide +kernel) (by decide +kernel)
theorem in_tS {S : Sto} {x : Str} {ys : List PV} {c : Bool} (h : ((PV.str x).flat && ys.all PV.flat) = true) (e : (ys.any fun z => z.eqF (.str x)) = c) : inSeq S (.str x) (.tup ys) = some c := by
  unfold inSeq
  show (if ((PV.str x).flat && ys.all PV.flat) = true then some (ys.any fun z => z.eqF (.str x)) else inDeep S (.str x) (.tup ys)) = _
  rw [if_pos h, e]
theorem in_lS {S : Sto} {x : Str} {ys : List PV} {c : Bool} (h : ((PV.str x).flat && ys.all PV.flat) = true) (e : (ys.any fun z => z.eqF (.str x)) = c) : inSeq S (.str x) (.lst ys) = some c := by
  unfold inSeq
  show (if ((PV.str x).flat && ys.all PV.flat) = true then some (ys.any fun z => z.eqF (.str x)) else inDeep S (.str x) (.lst ys)) = _
  rw [if_pos h, e]
theorem ip_num {S : Sto} : inSeq S (.str "num") (.tup [.str "add", .str "sub", .str "mul", .str "div"]) = some false := in_tS rfl (by decide +kernel)
theorem il_num {S : Sto} : inSeq S (.str "num") (.lst [.str "num", .str "state", .str "const"]) = some true := in_lS rfl (by decide +kernel)
theorem it_num {S : Sto} : inSeq S (.str "num") (.tup [.str "num", .str "state", .str "const"]) = some true := in_tS rfl (by decide +kernel)
theorem ip_state {S : Sto} : inSeq S (.str "state") (.tup [.str "add", .str "sub", .str "mul", .str "div"]) = some false := in_tS rfl (by decide +kernel)
theorem il_state {S : Sto} : inSeq S (.str "state") (.lst [.str "num", .str "state", .str "const"]) = some true := in_lS rfl (by decide +kernel)
theorem it_state {S : Sto} : inSeq S (.str "state") (.tup [.str "num", .str "state", .str "const"]) = some true := in_tS rfl (by decide +kernel)
theorem ip_const {S : Sto} : inSeq S (.str "const") (.tup [.str "add", .str "sub", .str "mul", .str "div"]) = some false := in_tS rfl (by decide +kernel)
theorem il_const {S : Sto} : inSeq S (.str "const") (.lst [.str "num", .str "state", .str "const"]) = some true := in_lS rfl (by decide +kernel)
theorem it_const {S : Sto} : inSeq S (.str "const") (.tup [.str "num", .str "state", .str "const"]) = some true := in_tS rfl (by decide +kernel)
theorem ip_pow {S : Sto} : inSeq S (.str "pow") (.tup [.str "add", .str "sub", .str "mul", .str "div"]) = some false := in_tS rfl (by decide +kernel)
theorem il_pow {S : Sto} : inSeq S (.str "pow") (.lst [.str "num", .str "state", .str "const"]) = some false := in_lS rfl (by decide +kernel)
theorem it_pow {S : Sto} : inSeq S (.str "pow") (.tup [.str "num", .str "state", .str "const"]) = some false := in_tS rfl (by decide +kernel)
theorem ip_add {S : Sto} : inSeq S (.str "add") (.tup [.str "add", .str "sub", .str "mul", .str "div"]) = some true := in_tS rfl (by decide +kernel)
theorem il_add {S : Sto} : inSeq S (.str "add") (.lst [.str "num", .str "state", .str "const"]) = some false := in_lS rfl (by decide +kernel)
theorem it_add {S : Sto} : inSeq S (.str "add") (.tup [.str "num", .str "state", .str "const"]) = some false := in_tS rfl (by decide +kernel)
theorem ip_sub {S : Sto} : inSeq S (.str "sub") (.tup [.str "add", .str "sub", .str "mul", .str "div"]) = some true := in_tS rfl (by decide +kernel)
theorem il_sub {S : Sto} : inSeq S (.str "sub") (.lst [.str "num", .str "state", .str "const"]) = some false := in_lS rfl (by decide +kernel)
theorem it_sub {S : Sto} : inSeq S (.str "sub") (.tup [.str "num", .str "state", .str "const"]) = some false := in_tS rfl (by decide +kernel)
theorem ip_mul {S : Sto} : inSeq S (.str "mul") (.tup [.str "add", .str "sub", .str "mul", .str "div"]) = some true := in_tS rfl (by decide +kernel)
theorem il_mul {S : Sto} : inSeq S (.str "mul") (.lst [.str "num", .str "state", .str "const"]) = some false := in_lS rfl (by decide +kernel)
theorem it_mul {S : Sto} : inSeq S (.str "mul") (.tup [.str "num", .str "state", .str "const"]) = some false := in_tS rfl (by decide +kernel)
theorem ip_div {S : Sto} : inSeq S (.str "div") (.tup [.str "add", .str "sub", .str "mul", .str "div"]) = some true := in_tS rfl (by decide +kernel)
theorem il_div {S : Sto} : inSeq S (.str "div") (.lst [.str "num", .str "state", .str "const"]) = some false := in_lS rfl (by decide +kernel)
theorem it_div {S : Sto} : inSeq S (.str "div") (.tup [.str "num", .str "state", .str "const"]) = some false := in_tS rfl (by decide +kernel)
end MP
end
section
set_option Elab.async false
set_option linter.all false
set_option maxRecDepth 100000
set_option maxHeartbeats 4000000
/-! the defs of the text as MP has them (printed by wip/gen.py) -/
namespace K04
open PySem PySem.Spec PyProof.Rows L2 MP
def top (i : Nat) : Stmt := PySem.Challenge.pw_motionsheld_k04_trees.main.body.getD i (.Pass ⟨0, 0, 0, 0⟩)
def st_make_0 : MP.St := .ifs (.cmp .eq (.var 1) (.cst (.int 0))) (.cons (.raise 0 .nil) .nil) .nil
def st_make_1 : MP.St := .ifs (.cmp .lt (.var 1) (.cst (.int 0))) (.cons (.asg (.of (.name 0)) (.neg (.var 0)))
  (.cons (.asg (.of (.name 1)) (.neg (.var 1))) .nil)) .nil
def st_make_2 : MP.St := .asg (.of (.name 2)) (.bi .gcd (.cons (.var 0) (.cons (.var 1) .nil)))
def st_make_3 : MP.St := .ret (.tup (.cons (.bin .fdiv (.var 0) (.var 2)) (.cons (.bin .fdiv (.var 1) (.var 2)) .nil)))
def b_make : Ss := .cons st_make_0 (.cons st_make_1 (.cons st_make_2 (.cons st_make_3 .nil)))
def st_add_0 : MP.St := .ifs (.cmp .eq (.ix (.var 0) (.cst (.int 1))) (.ix (.var 1) (.cst (.int 1)))) (.cons (.ret (.call 0 (.cons (.bin .add (.ix (.var 0) (.cst (.int 0))) (.ix (.var 1) (.cst (.int 0)))) (.cons (.ix (.var 0) (.cst (.int 1))) .nil)))) .nil) .nil
def st_add_1 : MP.St := .ret (.call 0 (.cons (.bin .add (.bin .mul (.ix (.var 0) (.cst (.int 0))) (.ix (.var 1) (.cst (.int 1)))) (.bin .mul (.ix (.var 1) (.cst (.int 0))) (.ix (.var 0) (.cst (.int 1))))) (.cons (.bin .mul (.ix (.var 0) (.cst (.int 1))) (.ix (.var 1) (.cst (.int 1)))) .nil)))
def b_add : Ss := .cons st_add_0 (.cons st_add_1 .nil)
def st_neg_0 : MP.St := .ret (.tup (.cons (.neg (.ix (.var 0) (.cst (.int 0)))) (.cons (.ix (.var 0) (.cst (.int 1))) .nil)))
def b_neg : Ss := .cons st_neg_0 .nil
def st_sub_0 : MP.St := .ret (.call 1 (.cons (.var 0) (.cons (.call 2 (.cons (.var 1) .nil)) .nil)))
def b_sub : Ss := .cons st_sub_0 .nil
def st_mul_0 : MP.St := .ret (.call 0 (.cons (.bin .mul (.ix (.var 0) (.cst (.int 0))) (.ix (.var 1) (.cst (.int 0)))) (.cons (.bin .mul (.ix (.var 0) (.cst (.int 1))) (.ix (.var 1) (.cst (.int 1)))) .nil)))
def b_mul : Ss := .cons st_mul_0 .nil
def st_div_0 : MP.St := .ret (.call 0 (.cons (.bin .mul (.ix (.var 0) (.cst (.int 0))) (.ix (.var 1) (.cst (.int 1)))) (.cons (.bin .mul (.ix (.var 0) (.cst (.int 1))) (.ix (.var 1) (.cst (.int 0)))) .nil)))
def b_div : Ss := .cons st_div_0 .nil
def st_power_0 : MP.St := .asg (.of (.name 2)) (.cst (.tup [.int 1, .int 1]))
def bk_power_0 : MP.Ss := .cons (.asg (.of (.name 2)) (.call 4 (.cons (.var 2) (.cons (.var 0) .nil)))) .nil
def st_power_1 : MP.St := .fors (.name 3) (.rng1 (.var 1)) bk_power_0
def st_power_2 : MP.St := .ret (.var 2)
def b_power : Ss := .cons st_power_0 (.cons st_power_1 (.cons st_power_2 .nil))
def st_size_0 : MP.St := .ifs (.cmp .inn (.ix (.var 0) (.cst (.int 0))) (.cst (.tup [.str "add", .str "sub", .str "mul", .str "div"]))) (.cons (.ret (.bin .add (.bin .add (.cst (.int 1)) (.call 7 (.cons (.ix (.var 0) (.cst (.int 1))) .nil))) (.call 7 (.cons (.ix (.var 0) (.cst (.int 2))) .nil)))) .nil) .nil
def st_size_1 : MP.St := .ret (.ife (.cmp .eq (.ix (.var 0) (.cst (.int 0))) (.cst (.str "pow"))) (.bin .add (.cst (.int 1)) (.call 7 (.cons (.ix (.var 0) (.cst (.int 1))) .nil))) (.cst (.int 1)))
def b_size : Ss := .cons st_size_0 (.cons st_size_1 .nil)
def st_fits_0 : MP.St := .asg (.of (.name 3)) (.ix (.var 0) (.cst (.int 0)))
def st_fits_1 : MP.St := .ifs (.cmp .inn (.var 3) (.cst (.tup [.str "add", .str "sub", .str "mul", .str "div"]))) (.cons (.ret (.and (.cmp .eq (.bi .len (.cons (.var 0) .nil)) (.cst (.int 3))) (.and (.call 8 (.cons (.ix (.var 0) (.cst (.int 1))) (.cons (.var 1) (.cons (.var 2) .nil)))) (.call 8 (.cons (.ix (.var 0) (.cst (.int 2))) (.cons (.var 1) (.cons (.var 2) .nil))))))) .nil) .nil
def st_fits_2 : MP.St := .ifs (.cmp .eq (.var 3) (.cst (.str "pow"))) (.cons (.ret (.and (.cmp .eq (.bi .len (.cons (.var 0) .nil)) (.cst (.int 3))) (.and (.chain .le .le (.cst (.int 0)) (.ix (.var 0) (.cst (.int 2))) (.cst (.int 8))) (.call 8 (.cons (.ix (.var 0) (.cst (.int 1))) (.cons (.var 1) (.cons (.var 2) .nil))))))) .nil) .nil
def st_fits_3 : MP.St := .ifs (.cmp .eq (.var 3) (.cst (.str "state"))) (.cons (.ret (.chain .le .lt (.cst (.int 0)) (.ix (.var 0) (.cst (.int 1))) (.var 1))) .nil) .nil
def st_fits_4 : MP.St := .ifs (.cmp .eq (.var 3) (.cst (.str "const"))) (.cons (.ret (.chain .le .lt (.cst (.int 0)) (.ix (.var 0) (.cst (.int 1))) (.var 2))) .nil) .nil
def st_fits_5 : MP.St := .ret (.cmp .eq (.var 3) (.cst (.str "num")))
def b_fits : Ss := .cons st_fits_0 (.cons st_fits_1 (.cons st_fits_2 (.cons st_fits_3 (.cons st_fits_4 (.cons st_fits_5 .nil)))))
def st_value_0 : MP.St := .asg (.of (.name 3)) (.ix (.var 0) (.cst (.int 0)))
def st_value_1 : MP.St := .ifs (.cmp .eq (.var 3) (.cst (.str "num"))) (.cons (.ret (.ix (.var 0) (.cst (.int 1)))) .nil) .nil
def st_value_2 : MP.St := .ifs (.cmp .eq (.var 3) (.cst (.str "state"))) (.cons (.ret (.ix (.var 1) (.ix (.var 0) (.cst (.int 1))))) .nil) .nil
def st_value_3 : MP.St := .ifs (.cmp .eq (.var 3) (.cst (.str "const"))) (.cons (.ret (.ix (.var 2) (.ix (.var 0) (.cst (.int 1))))) .nil) .nil
def st_value_4 : MP.St := .asg (.of (.name 4)) (.call 9 (.cons (.ix (.var 0) (.cst (.int 1))) (.cons (.var 1) (.cons (.var 2) .nil))))
def st_value_5 : MP.St := .ifs (.cmp .eq (.var 3) (.cst (.str "pow"))) (.cons (.ret (.call 6 (.cons (.var 4) (.cons (.ix (.var 0) (.cst (.int 2))) .nil)))) .nil) .nil
def st_value_6 : MP.St := .asg (.of (.name 5)) (.call 9 (.cons (.ix (.var 0) (.cst (.int 2))) (.cons (.var 1) (.cons (.var 2) .nil))))
def st_value_7 : MP.St := .ifs (.cmp .eq (.var 3) (.cst (.str "add"))) (.cons (.ret (.call 1 (.cons (.var 4) (.cons (.var 5) .nil)))) .nil) .nil
def st_value_8 : MP.St := .ifs (.cmp .eq (.var 3) (.cst (.str "sub"))) (.cons (.ret (.call 3 (.cons (.var 4) (.cons (.var 5) .nil)))) .nil) .nil
def st_value_9 : MP.St := .ifs (.cmp .eq (.var 3) (.cst (.str "mul"))) (.cons (.ret (.call 4 (.cons (.var 4) (.cons (.var 5) .nil)))) .nil) .nil
def st_value_10 : MP.St := .ifs (.cmp .eq (.ix (.var 5) (.cst (.int 0))) (.cst (.int 0))) (.cons (.raise 1 .nil) .nil) .nil
def st_value_11 : MP.St := .ret (.call 5 (.cons (.var 4) (.cons (.var 5) .nil)))
def b_value : Ss := .cons st_value_0 (.cons st_value_1 (.cons st_value_2 (.cons st_value_3 (.cons st_value_4 (.cons st_value_5 (.cons st_value_6 (.cons st_value_7 (.cons st_value_8 (.cons st_value_9 (.cons st_value_10 (.cons st_value_11 .nil)))))))))))
def st_joined_0 : MP.St := .ifs (.cmp .eq (.var 0) (.cst (.tup [.str "num", .tup [.int 0, .int 1]]))) (.cons (.ret (.var 1)) .nil) .nil
def st_joined_1 : MP.St := .ret (.ife (.cmp .eq (.var 1) (.cst (.tup [.str "num", .tup [.int 0, .int 1]]))) (.var 0) (.tup (.cons (.cst (.str "add")) (.cons (.var 0) (.cons (.var 1) .nil)))))
def b_joined : Ss := .cons st_joined_0 (.cons st_joined_1 .nil)
def st_taken_0 : MP.St := .ret (.ife (.cmp .eq (.var 1) (.cst (.tup [.str "num", .tup [.int 0, .int 1]]))) (.var 0) (.tup (.cons (.cst (.str "sub")) (.cons (.var 0) (.cons (.var 1) .nil)))))
def b_taken : Ss := .cons st_taken_0 .nil
def st_product_0 : MP.St := .ifs (.or (.cmp .eq (.var 0) (.cst (.tup [.str "num", .tup [.int 0, .int 1]]))) (.cmp .eq (.var 1) (.cst (.tup [.str "num", .tup [.int 0, .int 1]])))) (.cons (.ret (.cst (.tup [.str "num", .tup [.int 0, .int 1]]))) .nil) .nil
def st_product_1 : MP.St := .ifs (.cmp .eq (.var 0) (.cst (.tup [.str "num", .tup [.int 1, .int 1]]))) (.cons (.ret (.var 1)) .nil) .nil
def st_product_2 : MP.St := .ret (.ife (.cmp .eq (.var 1) (.cst (.tup [.str "num", .tup [.int 1, .int 1]]))) (.var 0) (.tup (.cons (.cst (.str "mul")) (.cons (.var 0) (.cons (.var 1) .nil)))))
def b_product : Ss := .cons st_product_0 (.cons st_product_1 (.cons st_product_2 .nil))
def st_ratio_0 : MP.St := .ifs (.cmp .eq (.var 0) (.cst (.tup [.str "num", .tup [.int 0, .int 1]]))) (.cons (.ret (.cst (.tup [.str "num", .tup [.int 0, .int 1]]))) .nil) .nil
def st_ratio_1 : MP.St := .ret (.ife (.cmp .eq (.var 1) (.cst (.tup [.str "num", .tup [.int 1, .int 1]]))) (.var 0) (.tup (.cons (.cst (.str "div")) (.cons (.var 0) (.cons (.var 1) .nil)))))
def b_ratio : Ss := .cons st_ratio_0 (.cons st_ratio_1 .nil)
def st__slope_of_power_0 : MP.St := .asg (.of (.name 2)) (.ix (.var 0) (.cst (.int 2)))
def st__slope_of_power_1 : MP.St := .ifs (.cmp .eq (.var 2) (.cst (.int 0))) (.cons (.ret (.cst (.tup [.str "num", .tup [.int 0, .int 1]]))) .nil) .nil
def st__slope_of_power_2 : MP.St := .ifs (.cmp .eq (.var 2) (.cst (.int 1))) (.cons (.ret (.var 1)) .nil) .nil
def st__slope_of_power_3 : MP.St := .asg (.of (.name 3)) (.ife (.cmp .eq (.var 2) (.cst (.int 2))) (.ix (.var 0) (.cst (.int 1))) (.tup (.cons (.cst (.str "pow")) (.cons (.ix (.var 0) (.cst (.int 1))) (.cons (.bin .sub (.var 2) (.cst (.int 1))) .nil)))))
def st__slope_of_power_4 : MP.St := .ret (.call 12 (.cons (.call 12 (.cons (.tup (.cons (.cst (.str "num")) (.cons (.tup (.cons (.var 2) (.cons (.cst (.int 1)) .nil))) .nil))) (.cons (.var 3) .nil))) (.cons (.var 1) .nil)))
def b__slope_of_power : Ss := .cons st__slope_of_power_0 (.cons st__slope_of_power_1 (.cons st__slope_of_power_2 (.cons st__slope_of_power_3 (.cons st__slope_of_power_4 .nil))))
def st_slope_0 : MP.St := .asg (.of (.name 3)) (.ix (.var 0) (.cst (.int 0)))
def st_slope_1 : MP.St := .ifs (.cmp .eq (.var 3) (.var 1)) (.cons (.ret (.ife (.cmp .eq (.ix (.var 0) (.cst (.int 1))) (.var 2)) (.cst (.tup [.str "num", .tup [.int 1, .int 1]])) (.cst (.tup [.str "num", .tup [.int 0, .int 1]])))) .nil) .nil
def st_slope_2 : MP.St := .ifs (.cmp .inn (.var 3) (.tup (.cons (.cst (.str "num")) (.cons (.cst (.str "state")) (.cons (.cst (.str "const")) .nil))))) (.cons (.ret (.cst (.tup [.str "num", .tup [.int 0, .int 1]]))) .nil) .nil
def st_slope_3 : MP.St := .asg (.of (.name 4)) (.call 15 (.cons (.ix (.var 0) (.cst (.int 1))) (.cons (.var 1) (.cons (.var 2) .nil))))
def st_slope_4 : MP.St := .ifs (.cmp .eq (.var 3) (.cst (.str "pow"))) (.cons (.ret (.call 14 (.cons (.var 0) (.cons (.var 4) .nil)))) .nil) .nil
def st_slope_5 : MP.St := .asg (.of (.name 5)) (.call 15 (.cons (.ix (.var 0) (.cst (.int 2))) (.cons (.var 1) (.cons (.var 2) .nil))))
def st_slope_6 : MP.St := .ifs (.cmp .eq (.var 3) (.cst (.str "add"))) (.cons (.ret (.call 10 (.cons (.var 4) (.cons (.var 5) .nil)))) .nil) .nil
def st_slope_7 : MP.St := .ifs (.cmp .eq (.var 3) (.cst (.str "sub"))) (.cons (.ret (.call 11 (.cons (.var 4) (.cons (.var 5) .nil)))) .nil) .nil
def st_slope_8 : MP.St := .ifs (.cmp .eq (.var 3) (.cst (.str "mul"))) (.cons (.ret (.call 10 (.cons (.call 12 (.cons (.var 4) (.cons (.ix (.var 0) (.cst (.int 2))) .nil))) (.cons (.call 12 (.cons (.ix (.var 0) (.cst (.int 1))) (.cons (.var 5) .nil))) .nil)))) .nil) .nil
def st_slope_9 : MP.St := .ret (.call 13 (.cons (.call 11 (.cons (.call 12 (.cons (.var 4) (.cons (.ix (.var 0) (.cst (.int 2))) .nil))) (.cons (.call 12 (.cons (.ix (.var 0) (.cst (.int 1))) (.cons (.var 5) .nil))) .nil))) (.cons (.tup (.cons (.cst (.str "pow")) (.cons (.ix (.var 0) (.cst (.int 2))) (.cons (.cst (.int 2)) .nil)))) .nil)))
def b_slope : Ss := .cons st_slope_0 (.cons st_slope_1 (.cons st_slope_2 (.cons st_slope_3 (.cons st_slope_4 (.cons st_slope_5 (.cons st_slope_6 (.cons st_slope_7 (.cons st_slope_8 (.cons st_slope_9 .nil)))))))))
def st_replaced_0 : MP.St := .asg (.of (.name 3)) (.ix (.var 0) (.cst (.int 0)))
def st_replaced_1 : MP.St := .ifs (.cmp .eq (.var 3) (.cst (.str "state"))) (.cons (.ret (.ix (.var 1) (.ix (.var 0) (.cst (.int 1))))) .nil) .nil
def st_replaced_2 : MP.St := .ifs (.cmp .eq (.var 3) (.cst (.str "const"))) (.cons (.ret (.ix (.var 2) (.ix (.var 0) (.cst (.int 1))))) .nil) .nil
def st_replaced_3 : MP.St := .ifs (.cmp .eq (.var 3) (.cst (.str "num"))) (.cons (.ret (.var 0)) .nil) .nil
def st_replaced_4 : MP.St := .ifs (.cmp .eq (.var 3) (.cst (.str "pow"))) (.cons (.ret (.tup (.cons (.cst (.str "pow")) (.cons (.call 16 (.cons (.ix (.var 0) (.cst (.int 1))) (.cons (.var 1) (.cons (.var 2) .nil)))) (.cons (.ix (.var 0) (.cst (.int 2))) .nil))))) .nil) .nil
def st_replaced_5 : MP.St := .ret (.tup (.cons (.var 3) (.cons (.call 16 (.cons (.ix (.var 0) (.cst (.int 1))) (.cons (.var 1) (.cons (.var 2) .nil)))) (.cons (.call 16 (.cons (.ix (.var 0) (.cst (.int 2))) (.cons (.var 1) (.cons (.var 2) .nil)))) .nil))))
def b_replaced : Ss := .cons st_replaced_0 (.cons st_replaced_1 (.cons st_replaced_2 (.cons st_replaced_3 (.cons st_replaced_4 (.cons st_replaced_5 .nil)))))
def st__law_mix_0 : MP.St := .asg (.of (.name 1)) (.bin .mod (.bi .int (.cons (.var 0) .nil)) (.cst (.int 2147483647)))
def st__law_mix_1 : MP.St := .asg (.of (.name 1)) (.bin .mod (.bi .int (.cons (.bin .add (.bin .mul (.var 1) (.cst (.int 48271))) (.cst (.int 11))) .nil)) (.cst (.int 2147483647)))
def st__law_mix_2 : MP.St := .ret (.bin .mod (.bi .int (.cons (.bin .add (.bin .mul (.var 1) (.cst (.int 69621))) (.cst (.int 5))) .nil)) (.cst (.int 2147483629)))
def b__law_mix : Ss := .cons st__law_mix_0 (.cons st__law_mix_1 (.cons st__law_mix_2 .nil))
def st__law_number_0 : MP.St := .ifs (.cmp .ge (.var 0) (.bin .pow (.cst (.int 10)) (.cst (.int 18)))) (.cons (.ret (.var 0)) .nil) .nil
def st__law_number_1 : MP.St := .asg (.of (.name 1)) (.call 17 (.cons (.var 0) .nil))
def st__law_number_2 : MP.St := .ret (.bin .add (.bin .mul (.var 1) (.cst (.int 2147483629))) (.call 17 (.cons (.bin .add (.var 1) (.var 0)) .nil)))
def b__law_number : Ss := .cons st__law_number_0 (.cons st__law_number_1 (.cons st__law_number_2 .nil))
def st__law_state_0 : MP.St := .ret (.new (.lst (.cons (.cst (.int 0)) (.cons (.bi .list (.cons (.var 0) .nil)) (.cons (.cst (.int 0)) (.cons (.bin .add (.cst (.int 1)) (.bi .len (.cons (.var 0) .nil))) .nil))))))
def b__law_state : Ss := .cons st__law_state_0 .nil
def st__law_draw_0 : MP.St := .ifs (.and (.cmp .lt (.ix (.var 0) (.cst (.int 0))) (.var 1)) (.cmp .lt (.ix (.var 0) (.cst (.int 2))) (.bi .len (.cons (.ix (.var 0) (.cst (.int 1))) .nil)))) (.cons (.asg (.sub (.var 0) (.cst (.int 0))) (.call 18 (.cons (.ix (.ix (.var 0) (.cst (.int 1))) (.ix (.var 0) (.cst (.int 2)))) .nil)))
  (.cons (.asg (.sub (.var 0) (.cst (.int 2))) (.bin .add (.ix (.var 0) (.cst (.int 2))) (.cst (.int 1)))) .nil)) .nil
def st__law_draw_1 : MP.St := .ifs (.cmp .eq (.ix (.var 0) (.cst (.int 0))) (.cst (.int 0))) (.cons (.asg (.sub (.var 0) (.cst (.int 3))) (.bin .mod (.bi .int (.cons (.bin .add (.bin .mul (.ix (.var 0) (.cst (.int 3))) (.cst (.int 48271))) (.cst (.int 7))) .nil)) (.cst (.int 2147483647))))
  (.cons (.ret (.bin .mod (.bi .int (.cons (.bin .fdiv (.ix (.var 0) (.cst (.int 3))) (.cst (.int 11))) .nil)) (.var 1))) .nil)) .nil
def st__law_draw_2 : MP.St := .asg (.of (.name 2)) (.bin .mod (.bi .int (.cons (.ix (.var 0) (.cst (.int 0))) .nil)) (.var 1))
def st__law_draw_3 : MP.St := .asg (.sub (.var 0) (.cst (.int 0))) (.bin .fdiv (.ix (.var 0) (.cst (.int 0))) (.var 1))
def st__law_draw_4 : MP.St := .ret (.var 2)
def b__law_draw : Ss := .cons st__law_draw_0 (.cons st__law_draw_1 (.cons st__law_draw_2 (.cons st__law_draw_3 (.cons st__law_draw_4 .nil))))
def st__law_pair_0 : MP.St := .asg (.of (.name 1)) (.bin .add (.cst (.int 1)) (.call 20 (.cons (.var 0) (.cons (.cst (.int 5)) .nil))))
def st__law_pair_1 : MP.St := .ret (.call 0 (.cons (.bin .sub (.call 20 (.cons (.var 0) (.cons (.bin .add (.bin .mul (.cst (.int 8)) (.var 1)) (.cst (.int 1))) .nil))) (.bin .mul (.cst (.int 4)) (.var 1))) (.cons (.var 1) .nil)))
def b__law_pair : Ss := .cons st__law_pair_0 (.cons st__law_pair_1 .nil)
def st__law_tree_0 : MP.St := .asg (.of (.name 2)) (.call 20 (.cons (.var 0) (.cons (.ife (.cmp .gt (.var 1) (.cst (.int 0))) (.cst (.int 8)) (.cst (.int 3))) .nil)))
def st__law_tree_1 : MP.St := .ifs (.cmp .eq (.var 2) (.cst (.int 0))) (.cons (.ret (.tup (.cons (.cst (.str "num")) (.cons (.call 21 (.cons (.var 0) .nil)) .nil)))) .nil) .nil
def st__law_tree_2 : MP.St := .ifs (.cmp .eq (.var 2) (.cst (.int 1))) (.cons (.ret (.tup (.cons (.cst (.str "state")) (.cons (.call 20 (.cons (.var 0) (.cons (.cst (.int 2)) .nil))) .nil)))) .nil) .nil
def st__law_tree_3 : MP.St := .ifs (.cmp .eq (.var 2) (.cst (.int 2))) (.cons (.ret (.tup (.cons (.cst (.str "const")) (.cons (.call 20 (.cons (.var 0) (.cons (.cst (.int 2)) .nil))) .nil)))) .nil) .nil
def st__law_tree_4 : MP.St := .ifs (.cmp .eq (.var 2) (.cst (.int 7))) (.cons (.ret (.tup (.cons (.cst (.str "pow")) (.cons (.call 22 (.cons (.var 0) (.cons (.bin .sub (.var 1) (.cst (.int 1))) .nil))) (.cons (.call 20 (.cons (.var 0) (.cons (.cst (.int 5)) .nil))) .nil))))) .nil) .nil
def st__law_tree_5 : MP.St := .asg (.of (.name 3)) (.call 22 (.cons (.var 0) (.cons (.bin .sub (.var 1) (.cst (.int 1))) .nil)))
def st__law_tree_6 : MP.St := .ret (.tup (.cons (.ix (.lst (.cons (.cst (.str "add")) (.cons (.cst (.str "sub")) (.cons (.cst (.str "mul")) (.cons (.cst (.str "div")) .nil))))) (.bin .sub (.var 2) (.cst (.int 3)))) (.cons (.var 3) (.cons (.call 22 (.cons (.var 0) (.cons (.bin .sub (.var 1) (.cst (.int 1))) .nil))) .nil))))
def b__law_tree : Ss := .cons st__law_tree_0 (.cons st__law_tree_1 (.cons st__law_tree_2 (.cons st__law_tree_3 (.cons st__law_tree_4 (.cons st__law_tree_5 (.cons st__law_tree_6 .nil))))))
def st__law_value_0 : MP.St := .asg (.of (.name 3)) (.ix (.var 0) (.cst (.int 0)))
def st__law_value_1 : MP.St := .ifs (.cmp .eq (.var 3) (.cst (.str "num"))) (.cons (.ret (.ix (.var 0) (.cst (.int 1)))) .nil) .nil
def st__law_value_2 : MP.St := .ifs (.cmp .eq (.var 3) (.cst (.str "state"))) (.cons (.ret (.ix (.var 1) (.ix (.var 0) (.cst (.int 1))))) .nil) .nil
def st__law_value_3 : MP.St := .ifs (.cmp .eq (.var 3) (.cst (.str "const"))) (.cons (.ret (.ix (.var 2) (.ix (.var 0) (.cst (.int 1))))) .nil) .nil
def st__law_value_4 : MP.St := .asg (.of (.name 4)) (.call 23 (.cons (.ix (.var 0) (.cst (.int 1))) (.cons (.var 1) (.cons (.var 2) .nil))))
def st__law_value_5 : MP.St := .ifs (.cmp .isn (.var 4) (.cst .non)) (.cons (.ret (.cst .non)) .nil) .nil
def bk__law_value_0 : MP.Ss := .cons (.par 5 6 (.bin .mul (.var 5) (.ix (.var 4) (.cst (.int 0)))) (.bin .mul (.var 6) (.ix (.var 4) (.cst (.int 1))))) .nil
def st__law_value_6 : MP.St := .ifs (.cmp .eq (.var 3) (.cst (.str "pow"))) (.cons (.asg (.of (.tup (.cons (.name 5) (.cons (.name 6) .nil)))) (.tup (.cons (.cst (.int 1)) (.cons (.cst (.int 1)) .nil))))
  (.cons (.fors (.name 7) (.rng1 (.ix (.var 0) (.cst (.int 2)))) bk__law_value_0)
  (.cons (.ret (.tup (.cons (.var 5) (.cons (.var 6) .nil)))) .nil))) .nil
def st__law_value_7 : MP.St := .asg (.of (.name 8)) (.call 23 (.cons (.ix (.var 0) (.cst (.int 2))) (.cons (.var 1) (.cons (.var 2) .nil))))
def st__law_value_8 : MP.St := .ifs (.cmp .isn (.var 8) (.cst .non)) (.cons (.ret (.cst .non)) .nil) .nil
def st__law_value_9 : MP.St := .ifs (.cmp .eq (.var 3) (.cst (.str "mul"))) (.cons (.ret (.tup (.cons (.bin .mul (.ix (.var 4) (.cst (.int 0))) (.ix (.var 8) (.cst (.int 0)))) (.cons (.bin .mul (.ix (.var 4) (.cst (.int 1))) (.ix (.var 8) (.cst (.int 1)))) .nil)))) .nil) .nil
def st__law_value_10 : MP.St := .ifs (.cmp .eq (.var 3) (.cst (.str "div"))) (.cons (.ret (.ife (.cmp .eq (.ix (.var 8) (.cst (.int 0))) (.cst (.int 0))) (.cst .non) (.tup (.cons (.bin .mul (.ix (.var 4) (.cst (.int 0))) (.ix (.var 8) (.cst (.int 1)))) (.cons (.bin .mul (.ix (.var 4) (.cst (.int 1))) (.ix (.var 8) (.cst (.int 0)))) .nil))))) .nil) .nil
def st__law_value_11 : MP.St := .asg (.of (.name 9)) (.ife (.cmp .eq (.var 3) (.cst (.str "add"))) (.cst (.int 1)) (.neg (.cst (.int 1))))
def st__law_value_12 : MP.St := .ret (.tup (.cons (.bin .add (.bin .mul (.ix (.var 4) (.cst (.int 0))) (.ix (.var 8) (.cst (.int 1)))) (.bin .mul (.bin .mul (.var 9) (.ix (.var 8) (.cst (.int 0)))) (.ix (.var 4) (.cst (.int 1))))) (.cons (.bin .mul (.ix (.var 4) (.cst (.int 1))) (.ix (.var 8) (.cst (.int 1)))) .nil)))
def b__law_value : Ss := .cons st__law_value_0 (.cons st__law_value_1 (.cons st__law_value_2 (.cons st__law_value_3 (.cons st__law_value_4 (.cons st__law_value_5 (.cons st__law_value_6 (.cons st__law_value_7 (.cons st__law_value_8 (.cons st__law_value_9 (.cons st__law_value_10 (.cons st__law_value_11 (.cons st__law_value_12 .nil))))))))))))
def st__law_equal_0 : MP.St := .ret (.cmp .eq (.bin .mul (.ix (.var 0) (.cst (.int 0))) (.ix (.var 1) (.cst (.int 1)))) (.bin .mul (.ix (.var 1) (.cst (.int 0))) (.ix (.var 0) (.cst (.int 1)))))
def b__law_equal : Ss := .cons st__law_equal_0 .nil
def bk__law_told_0 : MP.Ss := .cons (.ret (.call 9 (.cons (.var 0) (.cons (.var 1) (.cons (.var 2) .nil))))) .nil
def bk__law_told_1 : MP.Ss := .cons (.ret (.cst .non)) .nil
def st__law_told_0 : MP.St := .tryo bk__law_told_0 1 (some 3) bk__law_told_1
def b__law_told : Ss := .cons st__law_told_0 .nil
def st__law_agrees_0 : MP.St := .ifs (.or (.cmp .isn (.var 0) (.cst .non)) (.cmp .isn (.var 1) (.cst .non))) (.cons (.ret (.and (.cmp .isn (.var 0) (.cst .non)) (.cmp .isn (.var 1) (.cst .non)))) .nil) .nil
def st__law_agrees_1 : MP.St := .ret (.and (.isi (.var 0) .tup) (.and (.cmp .gt (.ix (.var 0) (.cst (.int 1))) (.cst (.int 0))) (.call 24 (.cons (.var 0) (.cons (.var 1) .nil)))))
def b__law_agrees : Ss := .cons st__law_agrees_0 (.cons st__law_agrees_1 .nil)
def st__law_size_0 : MP.St := .ifs (.cmp .inn (.ix (.var 0) (.cst (.int 0))) (.lst (.cons (.cst (.str "num")) (.cons (.cst (.str "state")) (.cons (.cst (.str "const")) .nil))))) (.cons (.ret (.cst (.int 1))) .nil) .nil
def st__law_size_1 : MP.St := .ret (.bin .add (.bin .add (.cst (.int 1)) (.call 27 (.cons (.ix (.var 0) (.cst (.int 1))) .nil))) (.ife (.cmp .eq (.ix (.var 0) (.cst (.int 0))) (.cst (.str "pow"))) (.cst (.int 0)) (.call 27 (.cons (.ix (.var 0) (.cst (.int 2))) .nil))))
def b__law_size : Ss := .cons st__law_size_0 (.cons st__law_size_1 .nil)
def st__law_most_0 : MP.St := .ifs (.cmp .eq (.ix (.var 0) (.cst (.int 0))) (.var 1)) (.cons (.ret (.bin .add (.ix (.var 0) (.cst (.int 1))) (.cst (.int 1)))) .nil) .nil
def st__law_most_1 : MP.St := .ifs (.cmp .inn (.ix (.var 0) (.cst (.int 0))) (.lst (.cons (.cst (.str "num")) (.cons (.cst (.str "state")) (.cons (.cst (.str "const")) .nil))))) (.cons (.ret (.cst (.int 0))) .nil) .nil
def st__law_most_2 : MP.St := .asg (.of (.name 2)) (.call 28 (.cons (.ix (.var 0) (.cst (.int 1))) (.cons (.var 1) .nil)))
def st__law_most_3 : MP.St := .asg (.of (.name 3)) (.ife (.cmp .eq (.ix (.var 0) (.cst (.int 0))) (.cst (.str "pow"))) (.cst (.int 0)) (.call 28 (.cons (.ix (.var 0) (.cst (.int 2))) (.cons (.var 1) .nil))))
def st__law_most_4 : MP.St := .ret (.bi .max2 (.cons (.var 2) (.cons (.var 3) .nil)))
def b__law_most : Ss := .cons st__law_most_0 (.cons st__law_most_1 (.cons st__law_most_2 (.cons st__law_most_3 (.cons st__law_most_4 .nil))))
def st__law_product_0 : MP.St := .asg (.of (.name 2)) (.tup (.cons (.cst (.str "num")) (.cons (.tup (.cons (.cst (.int 0)) (.cons (.cst (.int 1)) .nil))) .nil)))
def st__law_product_1 : MP.St := .asg (.of (.name 3)) (.tup (.cons (.cst (.str "num")) (.cons (.tup (.cons (.cst (.int 1)) (.cons (.cst (.int 1)) .nil))) .nil)))
def st__law_product_2 : MP.St := .ifs (.or (.cmp .eq (.var 0) (.var 2)) (.cmp .eq (.var 1) (.var 2))) (.cons (.ret (.var 2)) .nil) .nil
def st__law_product_3 : MP.St := .ifs (.cmp .eq (.var 0) (.var 3)) (.cons (.ret (.var 1)) .nil) .nil
def st__law_product_4 : MP.St := .ret (.ife (.cmp .eq (.var 1) (.var 3)) (.var 0) (.tup (.cons (.cst (.str "mul")) (.cons (.var 0) (.cons (.var 1) .nil)))))
def b__law_product : Ss := .cons st__law_product_0 (.cons st__law_product_1 (.cons st__law_product_2 (.cons st__law_product_3 (.cons st__law_product_4 .nil))))
def st__law_quotient_slope_0 : MP.St := .asg (.of (.name 3)) (.tup (.cons (.cst (.str "num")) (.cons (.tup (.cons (.cst (.int 0)) (.cons (.cst (.int 1)) .nil))) .nil)))
def st__law_quotient_slope_1 : MP.St := .asg (.of (.name 4)) (.call 29 (.cons (.var 1) (.cons (.ix (.var 0) (.cst (.int 2))) .nil)))
def st__law_quotient_slope_2 : MP.St := .asg (.of (.name 5)) (.call 29 (.cons (.ix (.var 0) (.cst (.int 1))) (.cons (.var 2) .nil)))
def st__law_quotient_slope_3 : MP.St := .asg (.of (.name 6)) (.ife (.cmp .eq (.var 5) (.var 3)) (.var 4) (.tup (.cons (.cst (.str "sub")) (.cons (.var 4) (.cons (.var 5) .nil)))))
def st__law_quotient_slope_4 : MP.St := .ret (.ife (.cmp .eq (.var 6) (.var 3)) (.var 3) (.tup (.cons (.cst (.str "div")) (.cons (.var 6) (.cons (.tup (.cons (.cst (.str "pow")) (.cons (.ix (.var 0) (.cst (.int 2))) (.cons (.cst (.int 2)) .nil)))) .nil)))))
def b__law_quotient_slope : Ss := .cons st__law_quotient_slope_0 (.cons st__law_quotient_slope_1 (.cons st__law_quotient_slope_2 (.cons st__law_quotient_slope_3 (.cons st__law_quotient_slope_4 .nil))))
def st__law_slope_0 : MP.St := .asg (.of (.name 3)) (.tup (.cons (.cst (.str "num")) (.cons (.tup (.cons (.cst (.int 0)) (.cons (.cst (.int 1)) .nil))) .nil)))
def st__law_slope_1 : MP.St := .asg (.of (.name 4)) (.ix (.var 0) (.cst (.int 0)))
def st__law_slope_2 : MP.St := .ifs (.cmp .inn (.var 4) (.lst (.cons (.cst (.str "num")) (.cons (.cst (.str "state")) (.cons (.cst (.str "const")) .nil))))) (.cons (.ret (.ife (.and (.cmp .eq (.var 4) (.var 1)) (.cmp .eq (.ix (.var 0) (.cst (.int 1))) (.var 2))) (.tup (.cons (.cst (.str "num")) (.cons (.tup (.cons (.cst (.int 1)) (.cons (.cst (.int 1)) .nil))) .nil))) (.var 3))) .nil) .nil
def st__law_slope_3 : MP.St := .asg (.of (.name 5)) (.call 31 (.cons (.ix (.var 0) (.cst (.int 1))) (.cons (.var 1) (.cons (.var 2) .nil))))
def st__law_slope_4 : MP.St := .ifs (.cmp .eq (.var 4) (.cst (.str "pow"))) (.cons (.ifs (.cmp .lt (.ix (.var 0) (.cst (.int 2))) (.cst (.int 2))) (.cons (.ret (.ife (.cmp .eq (.ix (.var 0) (.cst (.int 2))) (.cst (.int 0))) (.var 3) (.var 5))) .nil) .nil)
  (.cons (.asg (.of (.name 6)) (.ife (.cmp .eq (.ix (.var 0) (.cst (.int 2))) (.cst (.int 2))) (.ix (.var 0) (.cst (.int 1))) (.tup (.cons (.cst (.str "pow")) (.cons (.ix (.var 0) (.cst (.int 1))) (.cons (.bin .sub (.ix (.var 0) (.cst (.int 2))) (.cst (.int 1))) .nil))))))
  (.cons (.ret (.call 29 (.cons (.call 29 (.cons (.tup (.cons (.cst (.str "num")) (.cons (.tup (.cons (.ix (.var 0) (.cst (.int 2))) (.cons (.cst (.int 1)) .nil))) .nil))) (.cons (.var 6) .nil))) (.cons (.var 5) .nil)))) .nil))) .nil
def st__law_slope_5 : MP.St := .asg (.of (.name 7)) (.call 31 (.cons (.ix (.var 0) (.cst (.int 2))) (.cons (.var 1) (.cons (.var 2) .nil))))
def st__law_slope_6 : MP.St := .ifs (.cmp .eq (.var 4) (.cst (.str "sub"))) (.cons (.ret (.ife (.cmp .eq (.var 7) (.var 3)) (.var 5) (.tup (.cons (.cst (.str "sub")) (.cons (.var 5) (.cons (.var 7) .nil)))))) .nil) .nil
def st__law_slope_7 : MP.St := .ifs (.cmp .eq (.var 4) (.cst (.str "div"))) (.cons (.ret (.call 30 (.cons (.var 0) (.cons (.var 5) (.cons (.var 7) .nil))))) .nil) .nil
def st__law_slope_8 : MP.St := .ifs (.cmp .eq (.var 4) (.cst (.str "mul"))) (.cons (.par 5 7 (.call 29 (.cons (.var 5) (.cons (.ix (.var 0) (.cst (.int 2))) .nil))) (.call 29 (.cons (.ix (.var 0) (.cst (.int 1))) (.cons (.var 7) .nil)))) .nil) .nil
def st__law_slope_9 : MP.St := .ifs (.cmp .eq (.var 5) (.var 3)) (.cons (.ret (.var 7)) .nil) .nil
def st__law_slope_10 : MP.St := .ret (.ife (.cmp .eq (.var 7) (.var 3)) (.var 5) (.tup (.cons (.cst (.str "add")) (.cons (.var 5) (.cons (.var 7) .nil)))))
def b__law_slope : Ss := .cons st__law_slope_0 (.cons st__law_slope_1 (.cons st__law_slope_2 (.cons st__law_slope_3 (.cons st__law_slope_4 (.cons st__law_slope_5 (.cons st__law_slope_6 (.cons st__law_slope_7 (.cons st__law_slope_8 (.cons st__law_slope_9 (.cons st__law_slope_10 .nil))))))))))
def st__law_grown_0 : MP.St := .asg (.of (.name 5)) (.ix (.var 0) (.cst (.int 0)))
def st__law_grown_1 : MP.St := .asg (.of (.name 6)) (.call 23 (.cons (.var 0) (.cons (.var 1) (.cons (.var 2) .nil))))
def st__law_grown_2 : MP.St := .ifs (.cmp .inn (.var 5) (.lst (.cons (.cst (.str "num")) (.cons (.cst (.str "state")) (.cons (.cst (.str "const")) .nil))))) (.cons (.ret (.tup (.cons (.var 6) (.cons (.ife (.and (.cmp .eq (.var 5) (.var 3)) (.cmp .eq (.ix (.var 0) (.cst (.int 1))) (.var 4))) (.tup (.cons (.cst (.int 1)) (.cons (.cst (.int 1)) .nil))) (.tup (.cons (.cst (.int 0)) (.cons (.cst (.int 1)) .nil)))) .nil)))) .nil) .nil
def st__law_grown_3 : MP.St := .asg (.of (.name 7)) (.call 32 (.cons (.ix (.var 0) (.cst (.int 1))) (.cons (.var 1) (.cons (.var 2) (.cons (.var 3) (.cons (.var 4) .nil))))))
def st__law_grown_4 : MP.St := .ifs (.cmp .eq (.var 5) (.cst (.str "pow"))) (.cons (.ifs (.cmp .eq (.ix (.var 0) (.cst (.int 2))) (.cst (.int 0))) (.cons (.ret (.tup (.cons (.var 6) (.cons (.tup (.cons (.cst (.int 0)) (.cons (.cst (.int 1)) .nil))) .nil)))) .nil) .nil)
  (.cons (.asg (.of (.name 8)) (.call 23 (.cons (.tup (.cons (.cst (.str "pow")) (.cons (.ix (.var 0) (.cst (.int 1))) (.cons (.bin .sub (.ix (.var 0) (.cst (.int 2))) (.cst (.int 1))) .nil)))) (.cons (.var 1) (.cons (.var 2) .nil)))))
  (.cons (.ret (.tup (.cons (.var 6) (.cons (.tup (.cons (.bin .mul (.bin .mul (.ix (.var 0) (.cst (.int 2))) (.ix (.var 8) (.cst (.int 0)))) (.ix (.ix (.var 7) (.cst (.int 1))) (.cst (.int 0)))) (.cons (.bin .mul (.ix (.var 8) (.cst (.int 1))) (.ix (.ix (.var 7) (.cst (.int 1))) (.cst (.int 1)))) .nil))) .nil)))) .nil))) .nil
def st__law_grown_5 : MP.St := .asg (.of (.name 9)) (.call 32 (.cons (.ix (.var 0) (.cst (.int 2))) (.cons (.var 1) (.cons (.var 2) (.cons (.var 3) (.cons (.var 4) .nil))))))
def st__law_grown_6 : MP.St := .ifs (.or (.cmp .eq (.var 5) (.cst (.str "add"))) (.cmp .eq (.var 5) (.cst (.str "sub")))) (.cons (.asg (.of (.name 10)) (.ife (.cmp .eq (.var 5) (.cst (.str "add"))) (.cst (.int 1)) (.neg (.cst (.int 1)))))
  (.cons (.ret (.tup (.cons (.var 6) (.cons (.tup (.cons (.bin .add (.bin .mul (.ix (.ix (.var 7) (.cst (.int 1))) (.cst (.int 0))) (.ix (.ix (.var 9) (.cst (.int 1))) (.cst (.int 1)))) (.bin .mul (.bin .mul (.var 10) (.ix (.ix (.var 9) (.cst (.int 1))) (.cst (.int 0)))) (.ix (.ix (.var 7) (.cst (.int 1))) (.cst (.int 1))))) (.cons (.bin .mul (.ix (.ix (.var 7) (.cst (.int 1))) (.cst (.int 1))) (.ix (.ix (.var 9) (.cst (.int 1))) (.cst (.int 1)))) .nil))) .nil)))) .nil)) .nil
def st__law_grown_7 : MP.St := .asg (.of (.name 11)) (.tup (.cons (.bin .mul (.ix (.ix (.var 7) (.cst (.int 1))) (.cst (.int 0))) (.ix (.ix (.var 9) (.cst (.int 0))) (.cst (.int 0)))) (.cons (.bin .mul (.ix (.ix (.var 7) (.cst (.int 1))) (.cst (.int 1))) (.ix (.ix (.var 9) (.cst (.int 0))) (.cst (.int 1)))) .nil)))
def st__law_grown_8 : MP.St := .asg (.of (.name 12)) (.tup (.cons (.bin .mul (.ix (.ix (.var 9) (.cst (.int 1))) (.cst (.int 0))) (.ix (.ix (.var 7) (.cst (.int 0))) (.cst (.int 0)))) (.cons (.bin .mul (.ix (.ix (.var 9) (.cst (.int 1))) (.cst (.int 1))) (.ix (.ix (.var 7) (.cst (.int 0))) (.cst (.int 1)))) .nil)))
def st__law_grown_9 : MP.St := .asg (.of (.name 10)) (.ife (.cmp .eq (.var 5) (.cst (.str "mul"))) (.cst (.int 1)) (.neg (.cst (.int 1))))
def st__law_grown_10 : MP.St := .asg (.of (.name 13)) (.tup (.cons (.bin .add (.bin .mul (.ix (.var 11) (.cst (.int 0))) (.ix (.var 12) (.cst (.int 1)))) (.bin .mul (.bin .mul (.var 10) (.ix (.var 12) (.cst (.int 0)))) (.ix (.var 11) (.cst (.int 1))))) (.cons (.bin .mul (.ix (.var 11) (.cst (.int 1))) (.ix (.var 12) (.cst (.int 1)))) .nil)))
def st__law_grown_11 : MP.St := .ifs (.cmp .eq (.var 5) (.cst (.str "mul"))) (.cons (.ret (.tup (.cons (.var 6) (.cons (.var 13) .nil)))) .nil) .nil
def st__law_grown_12 : MP.St := .ret (.tup (.cons (.var 6) (.cons (.tup (.cons (.bin .mul (.bin .mul (.ix (.var 13) (.cst (.int 0))) (.ix (.ix (.var 9) (.cst (.int 0))) (.cst (.int 1)))) (.ix (.ix (.var 9) (.cst (.int 0))) (.cst (.int 1)))) (.cons (.bin .mul (.bin .mul (.ix (.var 13) (.cst (.int 1))) (.ix (.ix (.var 9) (.cst (.int 0))) (.cst (.int 0)))) (.ix (.ix (.var 9) (.cst (.int 0))) (.cst (.int 0)))) .nil))) .nil)))
def b__law_grown : Ss := .cons st__law_grown_0 (.cons st__law_grown_1 (.cons st__law_grown_2 (.cons st__law_grown_3 (.cons st__law_grown_4 (.cons st__law_grown_5 (.cons st__law_grown_6 (.cons st__law_grown_7 (.cons st__law_grown_8 (.cons st__law_grown_9 (.cons st__law_grown_10 (.cons st__law_grown_11 (.cons st__law_grown_12 .nil))))))))))))
def st_law_0 : MP.St := .asg (.of (.name 1)) (.call 19 (.cons (.var 0) .nil))
def st_law_1 : MP.St := .asg (.of (.name 2)) (.call 22 (.cons (.var 1) (.cons (.bin .add (.cst (.int 1)) (.call 20 (.cons (.var 1) (.cons (.cst (.int 3)) .nil)))) .nil)))
def st_law_2 : MP.St := .asg (.of (.name 3)) (.lst (.cons (.call 21 (.cons (.var 1) .nil)) (.cons (.call 21 (.cons (.var 1) .nil)) .nil)))
def st_law_3 : MP.St := .asg (.of (.name 4)) (.lst (.cons (.call 21 (.cons (.var 1) .nil)) (.cons (.ife (.cmp .eq (.call 20 (.cons (.var 1) (.cons (.cst (.int 3)) .nil))) (.cst (.int 0))) (.tup (.cons (.cst (.int 0)) (.cons (.cst (.int 1)) .nil))) (.call 21 (.cons (.var 1) .nil))) .nil)))
def st_law_4 : MP.St := .asg (.of (.name 5)) (.call 23 (.cons (.var 2) (.cons (.var 3) (.cons (.var 4) .nil))))
def st_law_5 : MP.St := .ifs (.or (.not (.call 26 (.cons (.call 25 (.cons (.var 2) (.cons (.var 3) (.cons (.var 4) .nil)))) (.cons (.var 5) .nil)))) (.cmp .ne (.call 7 (.cons (.var 2) .nil)) (.call 27 (.cons (.var 2) .nil)))) (.cons (.ret (.cst (.bl false))) .nil) .nil
def bk_law_0 : MP.Ss := .cons (.asg (.of (.name 10)) (.ife (.cmp .eq (.var 6) (.cst (.str "state"))) (.call 8 (.cons (.var 2) (.cons (.var 8) (.cons (.cst (.int 2)) .nil)))) (.call 8 (.cons (.var 2) (.cons (.cst (.int 2)) (.cons (.var 8) .nil))))))
  (.cons (.ifs (.cmp .ne (.var 10) (.cmp .le (.var 7) (.var 8))) (.cons (.ret (.cst (.bl false))) .nil) .nil) .nil)
def bk_law_1 : MP.Ss := .cons (.asg (.of (.name 11)) (.call 15 (.cons (.var 2) (.cons (.var 6) (.cons (.var 9) .nil)))))
  (.cons (.ifs (.cmp .ne (.var 11) (.call 31 (.cons (.var 2) (.cons (.var 6) (.cons (.var 9) .nil))))) (.cons (.ret (.cst (.bl false))) .nil) .nil)
  (.cons (.ifs (.and (.cmp .nisn (.var 5) (.cst .non)) (.not (.call 26 (.cons (.call 25 (.cons (.var 11) (.cons (.var 3) (.cons (.var 4) .nil)))) (.cons (.ix (.call 32 (.cons (.var 2) (.cons (.var 3) (.cons (.var 4) (.cons (.var 6) (.cons (.var 9) .nil)))))) (.cst (.int 1))) .nil))))) (.cons (.ret (.cst (.bl false))) .nil) .nil) .nil))
def bk_law_2 : MP.Ss := .cons (.asg (.of (.name 7)) (.call 28 (.cons (.var 2) (.cons (.var 6) .nil))))
  (.cons (.fors (.name 8) (.rng1 (.cst (.int 3))) bk_law_0)
  (.cons (.fors (.name 9) (.rng1 (.cst (.int 2))) bk_law_1) .nil))
def st_law_6 : MP.St := .fors (.name 6) (.seq (.lst (.cons (.cst (.str "state")) (.cons (.cst (.str "const")) .nil)))) bk_law_2
def st_law_7 : MP.St := .ifs (.or (.call 8 (.cons (.tup (.cons (.cst (.str "pow")) (.cons (.var 2) (.cons (.cst (.int 9)) .nil)))) (.cons (.cst (.int 2)) (.cons (.cst (.int 2)) .nil)))) (.or (.call 8 (.cons (.tup (.cons (.cst (.str "state")) (.cons (.neg (.cst (.int 1))) .nil))) (.cons (.cst (.int 2)) (.cons (.cst (.int 2)) .nil)))) (.call 8 (.cons (.tup (.cons (.cst (.str "neg")) (.cons (.var 2) .nil))) (.cons (.cst (.int 2)) (.cons (.cst (.int 2)) .nil)))))) (.cons (.ret (.cst (.bl false))) .nil) .nil
def st_law_8 : MP.St := .asg (.of (.name 12)) (.lc (.name 13) [13] (.rng1 (.cst (.int 4))) .none (.call 22 (.cons (.var 1) (.cons (.cst (.int 1)) .nil))))
def st_law_9 : MP.St := .asg (.of (.name 14)) (.lc (.name 15) [15] (.seq (.var 12)) .none (.call 23 (.cons (.var 15) (.cons (.var 3) (.cons (.var 4) .nil)))))
def st_law_10 : MP.St := .asg (.of (.name 16)) (.call 16 (.cons (.var 2) (.cons (.slc (.var 12) .none (.some (.cst (.int 2)))) (.cons (.slc (.var 12) (.some (.cst (.int 2))) .none) .nil))))
def st_law_11 : MP.St := .ifs (.cmp .inn (.cst .non) (.var 14)) (.cons (.ret (.cmp .ge (.call 7 (.cons (.var 16) .nil)) (.call 7 (.cons (.var 2) .nil)))) .nil) .nil
def st_law_12 : MP.St := .ret (.call 26 (.cons (.call 25 (.cons (.var 16) (.cons (.var 3) (.cons (.var 4) .nil)))) (.cons (.call 23 (.cons (.var 2) (.cons (.slc (.var 14) .none (.some (.cst (.int 2)))) (.cons (.slc (.var 14) (.some (.cst (.int 2))) .none) .nil)))) .nil)))
def b_law : Ss := .cons st_law_0 (.cons st_law_1 (.cons st_law_2 (.cons st_law_3 (.cons st_law_4 (.cons st_law_5 (.cons st_law_6 (.cons st_law_7 (.cons st_law_8 (.cons st_law_9 (.cons st_law_10 (.cons st_law_11 (.cons st_law_12 .nil))))))))))))
abbrev n_make : Nat := 0
abbrev n_add : Nat := 1
abbrev n_neg : Nat := 2
abbrev n_sub : Nat := 3
abbrev n_mul : Nat := 4
abbrev n_div : Nat := 5
abbrev n_power : Nat := 6
abbrev n_size : Nat := 7
abbrev n_fits : Nat := 8
abbrev n_value : Nat := 9
abbrev n_joined : Nat := 10
abbrev n_taken : Nat := 11
abbrev n_product : Nat := 12
abbrev n_ratio : Nat := 13
abbrev n__slope_of_power : Nat := 14
abbrev n_slope : Nat := 15
abbrev n_replaced : Nat := 16
abbrev n__law_mix : Nat := 17
abbrev n__law_number : Nat := 18
abbrev n__law_state : Nat := 19
abbrev n__law_draw : Nat := 20
abbrev n__law_pair : Nat := 21
abbrev n__law_tree : Nat := 22
abbrev n__law_value : Nat := 23
abbrev n__law_equal : Nat := 24
abbrev n__law_told : Nat := 25
abbrev n__law_agrees : Nat := 26
abbrev n__law_size : Nat := 27
abbrev n__law_most : Nat := 28
abbrev n__law_product : Nat := 29
abbrev n__law_quotient_slope : Nat := 30
abbrev n__law_slope : Nat := 31
abbrev n__law_grown : Nat := 32
abbrev n_law : Nat := 33
abbrev x_Zero : Nat := 0
abbrev x_Hole : Nat := 1
def t_make : DefT := ⟨"make", top 8, [.ofString "top", .ofString "bottom", .ofString "common"], [.ofString "top", .ofString "bottom"], ⟨2, 3, b_make⟩⟩
def t_add : DefT := ⟨"add", top 9, [.ofString "a", .ofString "b"], [.ofString "a", .ofString "b"], ⟨2, 2, b_add⟩⟩
def t_neg : DefT := ⟨"neg", top 10, [.ofString "a"], [.ofString "a"], ⟨1, 1, b_neg⟩⟩
def t_sub : DefT := ⟨"sub", top 11, [.ofString "a", .ofString "b"], [.ofString "a", .ofString "b"], ⟨2, 2, b_sub⟩⟩
def t_mul : DefT := ⟨"mul", top 12, [.ofString "a", .ofString "b"], [.ofString "a", .ofString "b"], ⟨2, 2, b_mul⟩⟩
def t_div : DefT := ⟨"div", top 13, [.ofString "a", .ofString "b"], [.ofString "a", .ofString "b"], ⟨2, 2, b_div⟩⟩
def t_power : DefT := ⟨"power", top 14, [.ofString "a", .ofString "exponent", .ofString "result", .ofString "_"], [.ofString "a", .ofString "exponent"], ⟨2, 4, b_power⟩⟩
def t_size : DefT := ⟨"size", top 19, [.ofString "tree"], [.ofString "tree"], ⟨1, 1, b_size⟩⟩
def t_fits : DefT := ⟨"fits", top 20, [.ofString "tree", .ofString "states", .ofString "consts", .ofString "kind"], [.ofString "tree", .ofString "states", .ofString "consts"], ⟨3, 4, b_fits⟩⟩
def t_value : DefT := ⟨"value", top 21, [.ofString "tree", .ofString "states", .ofString "consts", .ofString "kind", .ofString "left", .ofString "right"], [.ofString "tree", .ofString "states", .ofString "consts"], ⟨3, 6, b_value⟩⟩
def t_joined : DefT := ⟨"joined", top 22, [.ofString "a", .ofString "b"], [.ofString "a", .ofString "b"], ⟨2, 2, b_joined⟩⟩
def t_taken : DefT := ⟨"taken", top 23, [.ofString "a", .ofString "b"], [.ofString "a", .ofString "b"], ⟨2, 2, b_taken⟩⟩
def t_product : DefT := ⟨"product", top 24, [.ofString "a", .ofString "b"], [.ofString "a", .ofString "b"], ⟨2, 2, b_product⟩⟩
def t_ratio : DefT := ⟨"ratio", top 25, [.ofString "a", .ofString "b"], [.ofString "a", .ofString "b"], ⟨2, 2, b_ratio⟩⟩
def t__slope_of_power : DefT := ⟨"_slope_of_power", top 26, [.ofString "tree", .ofString "inner", .ofString "exponent", .ofString "base"], [.ofString "tree", .ofString "inner"], ⟨2, 4, b__slope_of_power⟩⟩
def t_slope : DefT := ⟨"slope", top 27, [.ofString "tree", .ofString "kind", .ofString "index", .ofString "word", .ofString "first", .ofString "second"], [.ofString "tree", .ofString "kind", .ofString "index"], ⟨3, 6, b_slope⟩⟩
def t_replaced : DefT := ⟨"replaced", top 28, [.ofString "tree", .ofString "states", .ofString "consts", .ofString "kind"], [.ofString "tree", .ofString "states", .ofString "consts"], ⟨3, 4, b_replaced⟩⟩
def t__law_mix : DefT := ⟨"_law_mix", top 30, [.ofString "cell", .ofString "number"], [.ofString "cell"], ⟨1, 2, b__law_mix⟩⟩
def t__law_number : DefT := ⟨"_law_number", top 31, [.ofString "cell", .ofString "first"], [.ofString "cell"], ⟨1, 2, b__law_number⟩⟩
def t__law_state : DefT := ⟨"_law_state", top 32, [.ofString "script"], [.ofString "script"], ⟨1, 1, b__law_state⟩⟩
def t__law_draw : DefT := ⟨"_law_draw", top 33, [.ofString "state", .ofString "many", .ofString "digit"], [.ofString "state", .ofString "many"], ⟨2, 3, b__law_draw⟩⟩
def t__law_pair : DefT := ⟨"_law_pair", top 34, [.ofString "state", .ofString "bottom"], [.ofString "state"], ⟨1, 2, b__law_pair⟩⟩
def t__law_tree : DefT := ⟨"_law_tree", top 35, [.ofString "state", .ofString "deep", .ofString "kind", .ofString "left"], [.ofString "state", .ofString "deep"], ⟨2, 4, b__law_tree⟩⟩
def t__law_value : DefT := ⟨"_law_value", top 36, [.ofString "tree", .ofString "xs", .ofString "cs", .ofString "kind", .ofString "left", .ofString "top", .ofString "bottom", .ofString "k", .ofString "right", .ofString "sign"], [.ofString "tree", .ofString "xs", .ofString "cs"], ⟨3, 10, b__law_value⟩⟩
def t__law_equal : DefT := ⟨"_law_equal", top 37, [.ofString "a", .ofString "b"], [.ofString "a", .ofString "b"], ⟨2, 2, b__law_equal⟩⟩
def t__law_told : DefT := ⟨"_law_told", top 38, [.ofString "tree", .ofString "xs", .ofString "cs", .ofString "e"], [.ofString "tree", .ofString "xs", .ofString "cs"], ⟨3, 4, b__law_told⟩⟩
def t__law_agrees : DefT := ⟨"_law_agrees", top 39, [.ofString "told", .ofString "due"], [.ofString "told", .ofString "due"], ⟨2, 2, b__law_agrees⟩⟩
def t__law_size : DefT := ⟨"_law_size", top 40, [.ofString "tree"], [.ofString "tree"], ⟨1, 1, b__law_size⟩⟩
def t__law_most : DefT := ⟨"_law_most", top 41, [.ofString "tree", .ofString "kind", .ofString "first", .ofString "second"], [.ofString "tree", .ofString "kind"], ⟨2, 4, b__law_most⟩⟩
def t__law_product : DefT := ⟨"_law_product", top 42, [.ofString "a", .ofString "b", .ofString "zero", .ofString "one"], [.ofString "a", .ofString "b"], ⟨2, 4, b__law_product⟩⟩
def t__law_quotient_slope : DefT := ⟨"_law_quotient_slope", top 43, [.ofString "tree", .ofString "a", .ofString "b", .ofString "zero", .ofString "left", .ofString "right", .ofString "top"], [.ofString "tree", .ofString "a", .ofString "b"], ⟨3, 7, b__law_quotient_slope⟩⟩
def t__law_slope : DefT := ⟨"_law_slope", top 44, [.ofString "tree", .ofString "kind", .ofString "index", .ofString "zero", .ofString "word", .ofString "a", .ofString "base", .ofString "b"], [.ofString "tree", .ofString "kind", .ofString "index"], ⟨3, 8, b__law_slope⟩⟩
def t__law_grown : DefT := ⟨"_law_grown", top 45, [.ofString "tree", .ofString "xs", .ofString "cs", .ofString "kind", .ofString "index", .ofString "word", .ofString "here", .ofString "a", .ofString "low", .ofString "b", .ofString "sign", .ofString "left", .ofString "right", .ofString "both"], [.ofString "tree", .ofString "xs", .ofString "cs", .ofString "kind", .ofString "index"], ⟨5, 14, b__law_grown⟩⟩
def t_law : DefT := ⟨"law", top 46, [.ofString "script", .ofString "state", .ofString "tree", .ofString "xs", .ofString "cs", .ofString "due", .ofString "kind", .ofString "most", .ofString "many", .ofString "index", .ofString "held", .ofString "told", .ofString "others", .ofString "k", .ofString "values", .ofString "other", .ofString "both"], [.ofString "script"], ⟨1, 17, b_law⟩⟩
def D : List DefT := [t_make, t_add, t_neg, t_sub, t_mul, t_div, t_power, t_size, t_fits, t_value, t_joined, t_taken, t_product, t_ratio, t__slope_of_power, t_slope, t_replaced, t__law_mix, t__law_number, t__law_state, t__law_draw, t__law_pair, t__law_tree, t__law_value, t__law_equal, t__law_told, t__law_agrees, t__law_size, t__law_most, t__law_product, t__law_quotient_slope, t__law_slope, t__law_grown, t_law]
def F : List FDef := [⟨2, 3, b_make⟩, ⟨2, 2, b_add⟩, ⟨1, 1, b_neg⟩, ⟨2, 2, b_sub⟩, ⟨2, 2, b_mul⟩, ⟨2, 2, b_div⟩, ⟨2, 4, b_power⟩, ⟨1, 1, b_size⟩, ⟨3, 4, b_fits⟩, ⟨3, 6, b_value⟩, ⟨2, 2, b_joined⟩, ⟨2, 2, b_taken⟩, ⟨2, 2, b_product⟩, ⟨2, 2, b_ratio⟩, ⟨2, 4, b__slope_of_power⟩, ⟨3, 6, b_slope⟩, ⟨3, 4, b_replaced⟩, ⟨1, 2, b__law_mix⟩, ⟨1, 2, b__law_number⟩, ⟨1, 1, b__law_state⟩, ⟨2, 3, b__law_draw⟩, ⟨1, 2, b__law_pair⟩, ⟨2, 4, b__law_tree⟩, ⟨3, 10, b__law_value⟩, ⟨2, 2, b__law_equal⟩, ⟨3, 4, b__law_told⟩, ⟨2, 2, b__law_agrees⟩, ⟨1, 1, b__law_size⟩, ⟨2, 4, b__law_most⟩, ⟨2, 4, b__law_product⟩, ⟨3, 7, b__law_quotient_slope⟩, ⟨3, 8, b__law_slope⟩, ⟨5, 14, b__law_grown⟩, ⟨1, 17, b_law⟩]
def T : Tab := ⟨[some (.ofString "make"), some (.ofString "add"), some (.ofString "neg"), some (.ofString "sub"), some (.ofString "mul"), some (.ofString "div"), some (.ofString "power"), some (.ofString "size"), some (.ofString "fits"), some (.ofString "value"), some (.ofString "joined"), some (.ofString "taken"), some (.ofString "product"), some (.ofString "ratio"), some (.ofString "_slope_of_power"), some (.ofString "slope"), some (.ofString "replaced"), some (.ofString "_law_mix"), some (.ofString "_law_number"), some (.ofString "_law_state"), some (.ofString "_law_draw"), some (.ofString "_law_pair"), some (.ofString "_law_tree"), some (.ofString "_law_value"), some (.ofString "_law_equal"), some (.ofString "_law_told"), some (.ofString "_law_agrees"), some (.ofString "_law_size"), some (.ofString "_law_most"), some (.ofString "_law_product"), some (.ofString "_law_quotient_slope"), some (.ofString "_law_slope"), some (.ofString "_law_grown"), some (.ofString "law")], [("Zero", [], [.ofString "Zero", .ofString "Trouble", .ofString "ValueError"]), ("Hole", [], [.ofString "Hole", .ofString "Trouble", .ofString "ValueError"])], [("ZERO", .tup [.int 0, .int 1]), ("ONE", .tup [.int 1, .int 1]), ("NOTHING", .tup [.str "num", .tup [.int 0, .int 1]]), ("UNIT", .tup [.str "num", .tup [.int 1, .int 1]]), ("PAIRS", .tup [.str "add", .str "sub", .str "mul", .str "div"])], [.ofString "gcd", .ofString "int", .ofString "isinstance", .ofString "len", .ofString "list", .ofString "max", .ofString "range", .ofString "tuple"], [], [], []⟩
theorem look_make : DefT.look T t_make = true := by decide +kernel
theorem look_add : DefT.look T t_add = true := by decide +kernel
theorem look_neg : DefT.look T t_neg = true := by decide +kernel
theorem look_sub : DefT.look T t_sub = true := by decide +kernel
theorem look_mul : DefT.look T t_mul = true := by decide +kernel
theorem look_div : DefT.look T t_div = true := by decide +kernel
theorem look_power : DefT.look T t_power = true := by decide +kernel
theorem look_size : DefT.look T t_size = true := by decide +kernel
theorem look_fits : DefT.look T t_fits = true := by decide +kernel
theorem look_value : DefT.look T t_value = true := by decide +kernel
theorem look_joined : DefT.look T t_joined = true := by decide +kernel
theorem look_taken : DefT.look T t_taken = true := by decide +kernel
theorem look_product : DefT.look T t_product = true := by decide +kernel
theorem look_ratio : DefT.look T t_ratio = true := by decide +kernel
theorem look__slope_of_power : DefT.look T t__slope_of_power = true := by decide +kernel
theorem look_slope : DefT.look T t_slope = true := by decide +kernel
theorem look_replaced : DefT.look T t_replaced = true := by decide +kernel
theorem look__law_mix : DefT.look T t__law_mix = true := by decide +kernel
theorem look__law_number : DefT.look T t__law_number = true := by decide +kernel
theorem look__law_state : DefT.look T t__law_state = true := by decide +kernel
theorem look__law_draw : DefT.look T t__law_draw = true := by decide +kernel
theorem look__law_pair : DefT.look T t__law_pair = true := by decide +kernel
theorem look__law_tree : DefT.look T t__law_tree = true := by decide +kernel
theorem look__law_value : DefT.look T t__law_value = true := by decide +kernel
theorem look__law_equal : DefT.look T t__law_equal = true := by decide +kernel
theorem look__law_told : DefT.look T t__law_told = true := by decide +kernel
theorem look__law_agrees : DefT.look T t__law_agrees = true := by decide +kernel
theorem look__law_size : DefT.look T t__law_size = true := by decide +kernel
theorem look__law_most : DefT.look T t__law_most = true := by decide +kernel
theorem look__law_product : DefT.look T t__law_product = true := by decide +kernel
theorem look__law_quotient_slope : DefT.look T t__law_quotient_slope = true := by decide +kernel
theorem look__law_slope : DefT.look T t__law_slope = true := by decide +kernel
theorem look__law_grown : DefT.look T t__law_grown = true := by decide +kernel
theorem look_law : DefT.look T t_law = true := by decide +kernel
theorem bd_make : BdT t_make := fun _ _ _ _ _ _ us hl => match us, hl with | [_, _], _ => rfl
theorem bd_add : BdT t_add := fun _ _ _ _ _ _ us hl => match us, hl with | [_, _], _ => rfl
theorem bd_neg : BdT t_neg := fun _ _ _ _ _ _ us hl => match us, hl with | [_], _ => rfl
theorem bd_sub : BdT t_sub := fun _ _ _ _ _ _ us hl => match us, hl with | [_, _], _ => rfl
theorem bd_mul : BdT t_mul := fun _ _ _ _ _ _ us hl => match us, hl with | [_, _], _ => rfl
theorem bd_div : BdT t_div := fun _ _ _ _ _ _ us hl => match us, hl with | [_, _], _ => rfl
theorem bd_power : BdT t_power := fun _ _ _ _ _ _ us hl => match us, hl with | [_, _], _ => rfl
theorem bd_size : BdT t_size := fun _ _ _ _ _ _ us hl => match us, hl with | [_], _ => rfl
theorem bd_fits : BdT t_fits := fun _ _ _ _ _ _ us hl => match us, hl with | [_, _, _], _ => rfl
theorem bd_value : BdT t_value := fun _ _ _ _ _ _ us hl => match us, hl with | [_, _, _], _ => rfl
theorem bd_joined : BdT t_joined := fun _ _ _ _ _ _ us hl => match us, hl with | [_, _], _ => rfl
theorem bd_taken : BdT t_taken := fun _ _ _ _ _ _ us hl => match us, hl with | [_, _], _ => rfl
theorem bd_product : BdT t_product := fun _ _ _ _ _ _ us hl => match us, hl with | [_, _], _ => rfl
theorem bd_ratio : BdT t_ratio := fun _ _ _ _ _ _ us hl => match us, hl with | [_, _], _ => rfl
theorem bd__slope_of_power : BdT t__slope_of_power := fun _ _ _ _ _ _ us hl => match us, hl with | [_, _], _ => rfl
theorem bd_slope : BdT t_slope := fun _ _ _ _ _ _ us hl => match us, hl with | [_, _, _], _ => rfl
theorem bd_replaced : BdT t_replaced := fun _ _ _ _ _ _ us hl => match us, hl with | [_, _, _], _ => rfl
theorem bd__law_mix : BdT t__law_mix := fun _ _ _ _ _ _ us hl => match us, hl with | [_], _ => rfl
theorem bd__law_number : BdT t__law_number := fun _ _ _ _ _ _ us hl => match us, hl with | [_], _ => rfl
theorem bd__law_state : BdT t__law_state := fun _ _ _ _ _ _ us hl => match us, hl with | [_], _ => rfl
theorem bd__law_draw : BdT t__law_draw := fun _ _ _ _ _ _ us hl => match us, hl with | [_, _], _ => rfl
theorem bd__law_pair : BdT t__law_pair := fun _ _ _ _ _ _ us hl => match us, hl with | [_], _ => rfl
theorem bd__law_tree : BdT t__law_tree := fun _ _ _ _ _ _ us hl => match us, hl with | [_, _], _ => rfl
theorem bd__law_value : BdT t__law_value := fun _ _ _ _ _ _ us hl => match us, hl with | [_, _, _], _ => rfl
theorem bd__law_equal : BdT t__law_equal := fun _ _ _ _ _ _ us hl => match us, hl with | [_, _], _ => rfl
theorem bd__law_told : BdT t__law_told := fun _ _ _ _ _ _ us hl => match us, hl with | [_, _, _], _ => rfl
theorem bd__law_agrees : BdT t__law_agrees := fun _ _ _ _ _ _ us hl => match us, hl with | [_, _], _ => rfl
theorem bd__law_size : BdT t__law_size := fun _ _ _ _ _ _ us hl => match us, hl with | [_], _ => rfl
theorem bd__law_most : BdT t__law_most := fun _ _ _ _ _ _ us hl => match us, hl with | [_, _], _ => rfl
theorem bd__law_product : BdT t__law_product := fun _ _ _ _ _ _ us hl => match us, hl with | [_, _], _ => rfl
theorem bd__law_quotient_slope : BdT t__law_quotient_slope := fun _ _ _ _ _ _ us hl => match us, hl with | [_, _, _], _ => rfl
theorem bd__law_slope : BdT t__law_slope := fun _ _ _ _ _ _ us hl => match us, hl with | [_, _, _], _ => rfl
theorem bd__law_grown : BdT t__law_grown := fun _ _ _ _ _ _ us hl => match us, hl with | [_, _, _, _, _], _ => rfl
theorem bd_law : BdT t_law := fun _ _ _ _ _ _ us hl => match us, hl with | [_], _ => rfl
theorem looks : (D.all fun t => t.look T) = true := by
  simp only [D, List.all_cons, List.all_nil, look_make, look_add, look_neg, look_sub, look_mul, look_div, look_power, look_size, look_fits, look_value, look_joined, look_taken, look_product, look_ratio, look__slope_of_power, look_slope, look_replaced, look__law_mix, look__law_number, look__law_state, look__law_draw, look__law_pair, look__law_tree, look__law_value, look__law_equal, look__law_told, look__law_agrees, look__law_size, look__law_most, look__law_product, look__law_quotient_slope, look__law_slope, look__law_grown, look_law, Bool.and_self]
theorem bds : AllT BdT D := .cons bd_make (.cons bd_add (.cons bd_neg (.cons bd_sub (.cons bd_mul (.cons bd_div (.cons bd_power (.cons bd_size (.cons bd_fits (.cons bd_value (.cons bd_joined (.cons bd_taken (.cons bd_product (.cons bd_ratio (.cons bd__slope_of_power (.cons bd_slope (.cons bd_replaced (.cons bd__law_mix (.cons bd__law_number (.cons bd__law_state (.cons bd__law_draw (.cons bd__law_pair (.cons bd__law_tree (.cons bd__law_value (.cons bd__law_equal (.cons bd__law_told (.cons bd__law_agrees (.cons bd__law_size (.cons bd__law_most (.cons bd__law_product (.cons bd__law_quotient_slope (.cons bd__law_slope (.cons bd__law_grown (.cons bd_law (.nil))))))))))))))))))))))))))))))))))
theorem fdsEq : D.map (·.fd) = F := rfl
abbrev R : PySem.W.OpenRow := PySem.W.OpenLaw.row PySem.Challenge.rw_motionsheld_k04_trees
abbrev view : List Nat := [0, 46]
abbrev loose : List Str := [.ofString "Trouble", .ofString "Zero", .ofString "Hole", .ofString "make", .ofString "add", .ofString "neg", .ofString "sub", .ofString "mul", .ofString "div", .ofString "power", .ofString "size", .ofString "fits", .ofString "value", .ofString "joined", .ofString "taken", .ofString "product", .ofString "ratio", .ofString "_slope_of_power", .ofString "slope", .ofString "replaced", .ofString "_law_mix", .ofString "_law_number", .ofString "_law_state", .ofString "_law_draw", .ofString "_law_pair", .ofString "_law_tree", .ofString "_law_value", .ofString "_law_equal", .ofString "_law_told", .ofString "_law_agrees", .ofString "_law_size", .ofString "_law_most", .ofString "_law_product", .ofString "_law_quotient_slope", .ofString "_law_slope", .ofString "_law_grown", .ofString "ZERO", .ofString "ONE", .ofString "NOTHING", .ofString "UNIT", .ofString "PAIRS"]
abbrev lawAt : Nat := 46
abbrev lawNo : Nat := 33
end K04
namespace K04
open PySem PySem.Spec PyProof.Rows L2 MP
abbrev hk : PySem.W.Hook := hookM 4 T D
def ob (s : PySem.W.SharedT) : Bool × List He.FnW := seenM 4 T D (HandSHeadRun.getT s)
theorem ob_eq (s : PySem.W.SharedT) : ob s = hk.obs s.abs := seenM_eq (HandSHeadRun.getT_eq s)
theorem run (w : World) : HandSHeadRun.RunEqI R (PySem.W.view R.prog view) hk ob 40000 loose w := by
  unfold HandSHeadRun.RunEqI
  kernel_rfl
end K04
end
section
set_option Elab.async false
set_option linter.all false
set_option maxRecDepth 100000
set_option maxHeartbeats 1000000
namespace K04
open PySem MP
section
variable {d j k n : Nat} {a b : Rat} {S : Sto}
theorem c_make {t b : Int} : callN F (d + 1) n_make [.int t, .int b] S = if b = 0 then .exc 0 [] S else .ok (pr (mkT t b) (mkB t b)) S := by
  rw [callN_of (fd := ⟨2, 3, b_make⟩) rfl rfl]
  by_cases h0 : b = 0
  · rw [if_pos h0]
    refine run_exc (σ := [some (.int t), some (.int b), none]) ?_ rfl
    simp [st_make_0, st_make_1, st_make_2, st_make_3, b_make, bd_ok, bd_exc, st_ok, st_exc, xss_cons, xss_nil, seq_next, seq_ret, seq_brk, seq_cont, seq_exc, eqV_int, xst, ev, evT, evs, evo, evc, evi, itemAt, MP.placeOf, bindT, bindTs, unslot, hold, unhold, subR, freeze, ix_tup, ix_lst, ix_r, cm_eq, cm_ne, cm_lt, cm_le, cm_gt, cm_ge, cm_isn, cm_nisn, cm_isb, cm_inn, cm_nin, op_ad, op_sb, op_ml, op_dv, op_md, op_pw, op_sl, op_as, op_at, op_mt, op_al, bi_abs, bi_int, bi_intb, bi_ints, bi_lent, bi_lenl, bi_lenr, bi_lens, bi_listt, bi_listl, bi_tupt, bi_tupl, bi_tupr, bi_gcd, bi_max, bi_min, bi_str, bi_sum, bi_all, bi_any, tr_non, tr_bl, tr_int, tr_tup, tr_lst, ty_nt, ty_tt, ty_ti, ty_ii, ty_it, ty_is, sl_tup, sl_lst, sq_tup, sq_lst, ls_lst, th_lst, wk_tup, wk_lst, opt_some, eqV_non, h0]
  · rw [if_neg h0]
    have hg := mkG_pos (t := t) h0
    have hd : divOk (mkG t b) = true := divOk_of (by omega)
    refine run_ret ?_ rfl
    by_cases hn : b < 0
    · unfold mkT mkB mkG at *
      simp [st_make_0, st_make_1, st_make_2, st_make_3, b_make, bd_ok, bd_exc, st_ok, st_exc, xss_cons, xss_nil, seq_next, seq_ret, seq_brk, seq_cont, seq_exc, eqV_int, xst, ev, evT, evs, evo, evc, evi, itemAt, MP.placeOf, bindT, bindTs, unslot, hold, unhold, subR, freeze, ix_tup, ix_lst, ix_r, cm_eq, cm_ne, cm_lt, cm_le, cm_gt, cm_ge, cm_isn, cm_nisn, cm_isb, cm_inn, cm_nin, op_ad, op_sb, op_ml, op_dv, op_md, op_pw, op_sl, op_as, op_at, op_mt, op_al, bi_abs, bi_int, bi_intb, bi_ints, bi_lent, bi_lenl, bi_lenr, bi_lens, bi_listt, bi_listl, bi_tupt, bi_tupl, bi_tupr, bi_gcd, bi_max, bi_min, bi_str, bi_sum, bi_all, bi_any, tr_non, tr_bl, tr_int, tr_tup, tr_lst, ty_nt, ty_tt, ty_ti, ty_ii, ty_it, ty_is, sl_tup, sl_lst, sq_tup, sq_lst, ls_lst, th_lst, wk_tup, wk_lst, opt_some, eqV_non, h0, hn, hd]
    · unfold mkT mkB mkG at *
      simp [st_make_0, st_make_1, st_make_2, st_make_3, b_make, bd_ok, bd_exc, st_ok, st_exc, xss_cons, xss_nil, seq_next, seq_ret, seq_brk, seq_cont, seq_exc, eqV_int, xst, ev, evT, evs, evo, evc, evi, itemAt, MP.placeOf, bindT, bindTs, unslot, hold, unhold, subR, freeze, ix_tup, ix_lst, ix_r, cm_eq, cm_ne, cm_lt, cm_le, cm_gt, cm_ge, cm_isn, cm_nisn, cm_isb, cm_inn, cm_nin, op_ad, op_sb, op_ml, op_dv, op_md, op_pw, op_sl, op_as, op_at, op_mt, op_al, bi_abs, bi_int, bi_intb, bi_ints, bi_lent, bi_lenl, bi_lenr, bi_lens, bi_listt, bi_listl, bi_tupt, bi_tupl, bi_tupr, bi_gcd, bi_max, bi_min, bi_str, bi_sum, bi_all, bi_any, tr_non, tr_bl, tr_int, tr_tup, tr_lst, ty_nt, ty_tt, ty_ti, ty_ii, ty_it, ty_is, sl_tup, sl_lst, sq_tup, sq_lst, ls_lst, th_lst, wk_tup, wk_lst, opt_some, eqV_non, h0, hn, hd]
theorem r_make {t b : Int} (hb : b ≠ 0) : callN F (d + 1) n_make [.int t, .int b] S = .ok (fr (Rat.divInt t b)) S := by
  rw [c_make, if_neg hb, fr_mk hb]
theorem r_neg : callN F (d + 1) n_neg [fr a] S = .ok (fr (-a)) S := by
  unfold fr
  rw [callN_of (fd := ⟨1, 1, b_neg⟩) rfl rfl]
  refine run_ret ?_ rfl
  simp [st_neg_0, b_neg, bd_ok, bd_exc, st_ok, st_exc, xss_cons, xss_nil, seq_next, seq_ret, seq_brk, seq_cont, seq_exc, eqV_int, xst, ev, evT, evs, evo, evc, evi, itemAt, MP.placeOf, bindT, bindTs, unslot, hold, unhold, subR, freeze, ix_tup, ix_lst, ix_r, cm_eq, cm_ne, cm_lt, cm_le, cm_gt, cm_ge, cm_isn, cm_nisn, cm_isb, cm_inn, cm_nin, op_ad, op_sb, op_ml, op_dv, op_md, op_pw, op_sl, op_as, op_at, op_mt, op_al, bi_abs, bi_int, bi_intb, bi_ints, bi_lent, bi_lenl, bi_lenr, bi_lens, bi_listt, bi_listl, bi_tupt, bi_tupl, bi_tupr, bi_gcd, bi_max, bi_min, bi_str, bi_sum, bi_all, bi_any, tr_non, tr_bl, tr_int, tr_tup, tr_lst, ty_nt, ty_tt, ty_ti, ty_ii, ty_it, ty_is, sl_tup, sl_lst, sq_tup, sq_lst, ls_lst, th_lst, wk_tup, wk_lst, opt_some, eqV_non, Rat.neg_num, Rat.neg_den]
theorem r_add (ha : szq j a) (hb : szq k b) (l : j + k + 2 ≤ 134217728) : callN F (d + 2) n_add [fr a, fr b] S = .ok (fr (a + b)) S := by
  have m1 : mulOk a.num b.den = true := mulOk_of ha.1 hb.2 l
  have m2 : mulOk b.num a.den = true := mulOk_of hb.1 ha.2 (by omega)
  have m3 : mulOk a.den b.den = true := mulOk_of ha.2 hb.2 l
  rw [callN_of (fd := ⟨2, 2, b_add⟩) rfl rfl]
  refine run_ret ?_ rfl
  have e0 := rat_add a b
  unfold fr at *
  by_cases e : (a.den : Int) = b.den
  · have e1 := r_make (d := d) (S := ⟨S.cells, false⟩) (t := a.num + b.num) (den_ne a)
    rw [rat_same (den_ne a)] at e1
    rw [← e] at e0
    rw [e0] at e1
    unfold fr at e1
    simp [st_add_0, st_add_1, b_add, bd_ok, bd_exc, st_ok, st_exc, xss_cons, xss_nil, seq_next, seq_ret, seq_brk, seq_cont, seq_exc, eqV_int, xst, ev, evT, evs, evo, evc, evi, itemAt, MP.placeOf, bindT, bindTs, unslot, hold, unhold, subR, freeze, ix_tup, ix_lst, ix_r, cm_eq, cm_ne, cm_lt, cm_le, cm_gt, cm_ge, cm_isn, cm_nisn, cm_isb, cm_inn, cm_nin, op_ad, op_sb, op_ml, op_dv, op_md, op_pw, op_sl, op_as, op_at, op_mt, op_al, bi_abs, bi_int, bi_intb, bi_ints, bi_lent, bi_lenl, bi_lenr, bi_lens, bi_listt, bi_listl, bi_tupt, bi_tupl, bi_tupr, bi_gcd, bi_max, bi_min, bi_str, bi_sum, bi_all, bi_any, tr_non, tr_bl, tr_int, tr_tup, tr_lst, ty_nt, ty_tt, ty_ti, ty_ii, ty_it, ty_is, sl_tup, sl_lst, sq_tup, sq_lst, ls_lst, th_lst, wk_tup, wk_lst, opt_some, eqV_non, e1, ← e]
  · have e1 := r_make (d := d) (S := ⟨S.cells, false⟩) (t := a.num * b.den + b.num * a.den) (Int.mul_ne_zero (den_ne a) (den_ne b))
    rw [e0] at e1
    unfold fr at e1
    simp [st_add_0, st_add_1, b_add, bd_ok, bd_exc, st_ok, st_exc, xss_cons, xss_nil, seq_next, seq_ret, seq_brk, seq_cont, seq_exc, eqV_int, xst, ev, evT, evs, evo, evc, evi, itemAt, MP.placeOf, bindT, bindTs, unslot, hold, unhold, subR, freeze, ix_tup, ix_lst, ix_r, cm_eq, cm_ne, cm_lt, cm_le, cm_gt, cm_ge, cm_isn, cm_nisn, cm_isb, cm_inn, cm_nin, op_ad, op_sb, op_ml, op_dv, op_md, op_pw, op_sl, op_as, op_at, op_mt, op_al, bi_abs, bi_int, bi_intb, bi_ints, bi_lent, bi_lenl, bi_lenr, bi_lens, bi_listt, bi_listl, bi_tupt, bi_tupl, bi_tupr, bi_gcd, bi_max, bi_min, bi_str, bi_sum, bi_all, bi_any, tr_non, tr_bl, tr_int, tr_tup, tr_lst, ty_nt, ty_tt, ty_ti, ty_ii, ty_it, ty_is, sl_tup, sl_lst, sq_tup, sq_lst, ls_lst, th_lst, wk_tup, wk_lst, opt_some, eqV_non, e, m1, m2, m3, e1]
theorem r_sub (ha : szq j a) (hb : szq k b) (l : j + k + 2 ≤ 134217728) : callN F (d + 3) n_sub [fr a, fr b] S = .ok (fr (a - b)) S := by
  have e1 := r_neg (d := d + 1) (a := b) (S := ⟨S.cells, false⟩)
  have e2 := r_add (d := d) (S := ⟨S.cells, false⟩) ha hb.neg l
  rw [← Rat.sub_eq_add_neg] at e2
  rw [callN_of (fd := ⟨2, 2, b_sub⟩) rfl rfl]
  refine run_ret ?_ rfl
  simp [st_sub_0, b_sub, bd_ok, bd_exc, st_ok, st_exc, xss_cons, xss_nil, seq_next, seq_ret, seq_brk, seq_cont, seq_exc, eqV_int, xst, ev, evT, evs, evo, evc, evi, itemAt, MP.placeOf, bindT, bindTs, unslot, hold, unhold, subR, freeze, ix_tup, ix_lst, ix_r, cm_eq, cm_ne, cm_lt, cm_le, cm_gt, cm_ge, cm_isn, cm_nisn, cm_isb, cm_inn, cm_nin, op_ad, op_sb, op_ml, op_dv, op_md, op_pw, op_sl, op_as, op_at, op_mt, op_al, bi_abs, bi_int, bi_intb, bi_ints, bi_lent, bi_lenl, bi_lenr, bi_lens, bi_listt, bi_listl, bi_tupt, bi_tupl, bi_tupr, bi_gcd, bi_max, bi_min, bi_str, bi_sum, bi_all, bi_any, tr_non, tr_bl, tr_int, tr_tup, tr_lst, ty_nt, ty_tt, ty_ti, ty_ii, ty_it, ty_is, sl_tup, sl_lst, sq_tup, sq_lst, ls_lst, th_lst, wk_tup, wk_lst, opt_some, eqV_non, e1, e2]
theorem r_mul (ha : szq j a) (hb : szq k b) (l : j + k + 2 ≤ 134217728) : callN F (d + 2) n_mul [fr a, fr b] S = .ok (fr (a * b)) S := by
  have m1 : mulOk a.num b.num = true := mulOk_of ha.1 hb.1 l
  have m3 : mulOk a.den b.den = true := mulOk_of ha.2 hb.2 l
  have e1 := r_make (d := d) (S := ⟨S.cells, false⟩) (t := a.num * b.num) (Int.mul_ne_zero (den_ne a) (den_ne b))
  rw [rat_mul] at e1
  rw [callN_of (fd := ⟨2, 2, b_mul⟩) rfl rfl]
  refine run_ret ?_ rfl
  unfold fr at *
  simp [st_mul_0, b_mul, bd_ok, bd_exc, st_ok, st_exc, xss_cons, xss_nil, seq_next, seq_ret, seq_brk, seq_cont, seq_exc, eqV_int, xst, ev, evT, evs, evo, evc, evi, itemAt, MP.placeOf, bindT, bindTs, unslot, hold, unhold, subR, freeze, ix_tup, ix_lst, ix_r, cm_eq, cm_ne, cm_lt, cm_le, cm_gt, cm_ge, cm_isn, cm_nisn, cm_isb, cm_inn, cm_nin, op_ad, op_sb, op_ml, op_dv, op_md, op_pw, op_sl, op_as, op_at, op_mt, op_al, bi_abs, bi_int, bi_intb, bi_ints, bi_lent, bi_lenl, bi_lenr, bi_lens, bi_listt, bi_listl, bi_tupt, bi_tupl, bi_tupr, bi_gcd, bi_max, bi_min, bi_str, bi_sum, bi_all, bi_any, tr_non, tr_bl, tr_int, tr_tup, tr_lst, ty_nt, ty_tt, ty_ti, ty_ii, ty_it, ty_is, sl_tup, sl_lst, sq_tup, sq_lst, ls_lst, th_lst, wk_tup, wk_lst, opt_some, eqV_non, m1, m3, e1]
theorem r_div (ha : szq j a) (hb : szq k b) (h0 : b ≠ 0) (l : j + k + 2 ≤ 134217728) : callN F (d + 2) n_div [fr a, fr b] S = .ok (fr (a / b)) S := by
  have m1 : mulOk a.num b.den = true := mulOk_of ha.1 hb.2 l
  have m3 : mulOk a.den b.num = true := mulOk_of ha.2 hb.1 l
  have e1 := r_make (d := d) (S := ⟨S.cells, false⟩) (t := a.num * b.den) (Int.mul_ne_zero (den_ne a) (num_ne h0))
  rw [rat_div] at e1
  rw [callN_of (fd := ⟨2, 2, b_div⟩) rfl rfl]
  refine run_ret ?_ rfl
  unfold fr at *
  simp [st_div_0, b_div, bd_ok, bd_exc, st_ok, st_exc, xss_cons, xss_nil, seq_next, seq_ret, seq_brk, seq_cont, seq_exc, eqV_int, xst, ev, evT, evs, evo, evc, evi, itemAt, MP.placeOf, bindT, bindTs, unslot, hold, unhold, subR, freeze, ix_tup, ix_lst, ix_r, cm_eq, cm_ne, cm_lt, cm_le, cm_gt, cm_ge, cm_isn, cm_nisn, cm_isb, cm_inn, cm_nin, op_ad, op_sb, op_ml, op_dv, op_md, op_pw, op_sl, op_as, op_at, op_mt, op_al, bi_abs, bi_int, bi_intb, bi_ints, bi_lent, bi_lenl, bi_lenr, bi_lens, bi_listt, bi_listl, bi_tupt, bi_tupl, bi_tupr, bi_gcd, bi_max, bi_min, bi_str, bi_sum, bi_all, bi_any, tr_non, tr_bl, tr_int, tr_tup, tr_lst, ty_nt, ty_tt, ty_ti, ty_ii, ty_it, ty_is, sl_tup, sl_lst, sq_tup, sq_lst, ls_lst, th_lst, wk_tup, wk_lst, opt_some, eqV_non, m1, m3, e1]
theorem r_power (ha : szq k a) (hn : n < 1000) (hk : k * n + k + 3 ≤ 134217728) : callN F (d + 3) n_power [fr a, .int n] S = .ok (fr (a ^ n)) S := by
  rw [callN_of (fd := ⟨2, 4, b_power⟩) rfl rfl]
  obtain ⟨σ', S', lp, x, rfl, rfl⟩ := for_rng (C := callN F (d + 2)) (b := S.cells.length) (t := .name 3) (e := .var 1) (p := bk_power_0) (n := n)
    (P := fun i σ S' => ∃ x, σ = [some (fr a), some (.int n), some (fr (a ^ i)), x] ∧ S' = ⟨S.cells, false⟩)
    (σ := [some (fr a), some (.int n), some (fr 1), none]) (S := ⟨S.cells, false⟩) (by simp [bd_ok, bd_exc, st_ok, st_exc, xss_cons, xss_nil, seq_next, seq_ret, seq_brk, seq_cont, seq_exc, eqV_int, xst, ev, evT, evs, evo, evc, evi, itemAt, MP.placeOf, bindT, bindTs, unslot, hold, unhold, subR, freeze, ix_tup, ix_lst, ix_r, cm_eq, cm_ne, cm_lt, cm_le, cm_gt, cm_ge, cm_isn, cm_nisn, cm_isb, cm_inn, cm_nin, op_ad, op_sb, op_ml, op_dv, op_md, op_pw, op_sl, op_as, op_at, op_mt, op_al, bi_abs, bi_int, bi_intb, bi_ints, bi_lent, bi_lenl, bi_lenr, bi_lens, bi_listt, bi_listl, bi_tupt, bi_tupl, bi_tupr, bi_gcd, bi_max, bi_min, bi_str, bi_sum, bi_all, bi_any, tr_non, tr_bl, tr_int, tr_tup, tr_lst, ty_nt, ty_tt, ty_ti, ty_ii, ty_it, ty_is, sl_tup, sl_lst, sq_tup, sq_lst, ls_lst, th_lst, wk_tup, wk_lst, opt_some, eqV_non]) (by omega) ⟨_, by rw [Rat.pow_zero], rfl⟩ (fun j σ S' hj ⟨y, h1, h2⟩ => by
      subst h1; subst h2
      have l1 : k * j + k ≤ k * n := by
        have z : k * (j + 1) ≤ k * n := Nat.mul_le_mul_left k (by omega)
        rw [Nat.mul_add] at z
        omega
      have e2 := r_mul (d := d) (S := ⟨S.cells, false⟩) (ha.pow j) ha (by omega)
      rw [← Rat.pow_succ] at e2
      exact ⟨_, [some (fr a), some (.int n), some (fr (a ^ (j + 1))), some (.int j)], ⟨S.cells, false⟩, rfl, by simp [bk_power_0, bd_ok, bd_exc, st_ok, st_exc, xss_cons, xss_nil, seq_next, seq_ret, seq_brk, seq_cont, seq_exc, eqV_int, xst, ev, evT, evs, evo, evc, evi, itemAt, MP.placeOf, bindT, bindTs, unslot, hold, unhold, subR, freeze, ix_tup, ix_lst, ix_r, cm_eq, cm_ne, cm_lt, cm_le, cm_gt, cm_ge, cm_isn, cm_nisn, cm_isb, cm_inn, cm_nin, op_ad, op_sb, op_ml, op_dv, op_md, op_pw, op_sl, op_as, op_at, op_mt, op_al, bi_abs, bi_int, bi_intb, bi_ints, bi_lent, bi_lenl, bi_lenr, bi_lens, bi_listt, bi_listl, bi_tupt, bi_tupl, bi_tupr, bi_gcd, bi_max, bi_min, bi_str, bi_sum, bi_all, bi_any, tr_non, tr_bl, tr_int, tr_tup, tr_lst, ty_nt, ty_tt, ty_ti, ty_ii, ty_it, ty_is, sl_tup, sl_lst, sq_tup, sq_lst, ls_lst, th_lst, wk_tup, wk_lst, opt_some, eqV_non, e2], some (.int j), rfl, rfl⟩)
  refine run_ret ?_ (fr_pure _)
  unfold b_power
  refine (xss_step (σ' := [some (fr a), some (.int n), some (fr 1), none]) (S' := ⟨S.cells, false⟩) (by simp [st_power_0, bd_ok, bd_exc, st_ok, st_exc, xss_cons, xss_nil, seq_next, seq_ret, seq_brk, seq_cont, seq_exc, eqV_int, xst, ev, evT, evs, evo, evc, evi, itemAt, MP.placeOf, bindT, bindTs, unslot, hold, unhold, subR, freeze, ix_tup, ix_lst, ix_r, cm_eq, cm_ne, cm_lt, cm_le, cm_gt, cm_ge, cm_isn, cm_nisn, cm_isb, cm_inn, cm_nin, op_ad, op_sb, op_ml, op_dv, op_md, op_pw, op_sl, op_as, op_at, op_mt, op_al, bi_abs, bi_int, bi_intb, bi_ints, bi_lent, bi_lenl, bi_lenr, bi_lens, bi_listt, bi_listl, bi_tupt, bi_tupl, bi_tupr, bi_gcd, bi_max, bi_min, bi_str, bi_sum, bi_all, bi_any, tr_non, tr_bl, tr_int, tr_tup, tr_lst, ty_nt, ty_tt, ty_ti, ty_ii, ty_it, ty_is, sl_tup, sl_lst, sq_tup, sq_lst, ls_lst, th_lst, wk_tup, wk_lst, opt_some, eqV_non, fr, pr])).trans ((xss_step lp).trans ?_)
  simp [st_power_2, bd_ok, bd_exc, st_ok, st_exc, xss_cons, xss_nil, seq_next, seq_ret, seq_brk, seq_cont, seq_exc, eqV_int, xst, ev, evT, evs, evo, evc, evi, itemAt, MP.placeOf, bindT, bindTs, unslot, hold, unhold, subR, freeze, ix_tup, ix_lst, ix_r, cm_eq, cm_ne, cm_lt, cm_le, cm_gt, cm_ge, cm_isn, cm_nisn, cm_isb, cm_inn, cm_nin, op_ad, op_sb, op_ml, op_dv, op_md, op_pw, op_sl, op_as, op_at, op_mt, op_al, bi_abs, bi_int, bi_intb, bi_ints, bi_lent, bi_lenl, bi_lenr, bi_lens, bi_listt, bi_listl, bi_tupt, bi_tupl, bi_tupr, bi_gcd, bi_max, bi_min, bi_str, bi_sum, bi_all, bi_any, tr_non, tr_bl, tr_int, tr_tup, tr_lst, ty_nt, ty_tt, ty_ti, ty_ii, ty_it, ty_is, sl_tup, sl_lst, sq_tup, sq_lst, ls_lst, th_lst, wk_tup, wk_lst, opt_some, eqV_non]
end
end K04
end
section
set_option Elab.async false
set_option linter.all false
set_option maxRecDepth 100000
set_option maxHeartbeats 1000000
namespace K04
open PySem MP
theorem c_mix {d : Nat} {c : Int} {S : Sto} : ∃ r, callN F (d + 1) n__law_mix [.int c] S = .ok (.int r) S ∧ 0 ≤ r := by
  have m : ∀ x : Int, mulOk x 48271 = true := fun x => mulOk_r (by unfold sz; decide)
  have m' : ∀ x : Int, mulOk x 69621 = true := fun x => mulOk_r (by unfold sz; decide)
  refine ⟨(((c.fmod 2147483647 * 48271 + 11).fmod 2147483647) * 69621 + 5).fmod 2147483629, ?_, Int.fmod_nonneg_of_pos _ (by decide)⟩
  rw [callN_of (fd := ⟨1, 2, b__law_mix⟩) rfl rfl]
  refine run_ret ?_ rfl
  simp [st__law_mix_0, st__law_mix_1, st__law_mix_2, b__law_mix, bd_ok, bd_exc, st_ok, st_exc, xss_cons, xss_nil, seq_next, seq_ret, seq_brk, seq_cont, seq_exc, eqV_int, xst, ev, evT, evs, evo, evc, evi, itemAt, MP.placeOf, bindT, bindTs, unslot, hold, unhold, subR, freeze, ix_tup, ix_lst, ix_r, cm_eq, cm_ne, cm_lt, cm_le, cm_gt, cm_ge, cm_isn, cm_nisn, cm_isb, cm_inn, cm_nin, op_ad, op_sb, op_ml, op_dv, op_md, op_pw, op_sl, op_as, op_at, op_mt, op_al, bi_abs, bi_int, bi_intb, bi_ints, bi_lent, bi_lenl, bi_lenr, bi_lens, bi_listt, bi_listl, bi_tupt, bi_tupl, bi_tupr, bi_gcd, bi_max, bi_min, bi_str, bi_sum, bi_all, bi_any, tr_non, tr_bl, tr_int, tr_tup, tr_lst, ty_nt, ty_tt, ty_ti, ty_ii, ty_it, ty_is, sl_tup, sl_lst, sq_tup, sq_lst, ls_lst, th_lst, wk_tup, wk_lst, opt_some, eqV_non, m, m']
theorem c_number {d : Nat} {c : Int} {S : Sto} : ∃ r, callN F (d + 2) n__law_number [.int c] S = .ok (.int r) S ∧ 0 ≤ r := by
  rw [callN_of (fd := ⟨1, 2, b__law_number⟩) rfl rfl]
  have pw : powOk 10 18 = true := by decide
  by_cases h : 10 ^ 18 ≤ c
  · have h' : (1000000000000000000 : Int) ≤ c := h
    refine ⟨c, ?_, by omega⟩
    refine run_ret ?_ rfl
    simp [st__law_number_0, st__law_number_1, st__law_number_2, b__law_number, bd_ok, bd_exc, st_ok, st_exc, xss_cons, xss_nil, seq_next, seq_ret, seq_brk, seq_cont, seq_exc, eqV_int, xst, ev, evT, evs, evo, evc, evi, itemAt, MP.placeOf, bindT, bindTs, unslot, hold, unhold, subR, freeze, ix_tup, ix_lst, ix_r, cm_eq, cm_ne, cm_lt, cm_le, cm_gt, cm_ge, cm_isn, cm_nisn, cm_isb, cm_inn, cm_nin, op_ad, op_sb, op_ml, op_dv, op_md, op_pw, op_sl, op_as, op_at, op_mt, op_al, bi_abs, bi_int, bi_intb, bi_ints, bi_lent, bi_lenl, bi_lenr, bi_lens, bi_listt, bi_listl, bi_tupt, bi_tupl, bi_tupr, bi_gcd, bi_max, bi_min, bi_str, bi_sum, bi_all, bi_any, tr_non, tr_bl, tr_int, tr_tup, tr_lst, ty_nt, ty_tt, ty_ti, ty_ii, ty_it, ty_is, sl_tup, sl_lst, sq_tup, sq_lst, ls_lst, th_lst, wk_tup, wk_lst, opt_some, eqV_non, pw, h']
  · have h' : ¬ (1000000000000000000 : Int) ≤ c := h
    obtain ⟨r, e1, p1⟩ := c_mix (d := d) (c := c) (S := ⟨S.cells, false⟩)
    obtain ⟨s, e2, p2⟩ := c_mix (d := d) (c := r + c) (S := ⟨S.cells, false⟩)
    have m : mulOk r 2147483629 = true := mulOk_r (by unfold sz; decide)
    refine ⟨r * 2147483629 + s, ?_, by omega⟩
    refine run_ret ?_ rfl
    simp [st__law_number_0, st__law_number_1, st__law_number_2, b__law_number, bd_ok, bd_exc, st_ok, st_exc, xss_cons, xss_nil, seq_next, seq_ret, seq_brk, seq_cont, seq_exc, eqV_int, xst, ev, evT, evs, evo, evc, evi, itemAt, MP.placeOf, bindT, bindTs, unslot, hold, unhold, subR, freeze, ix_tup, ix_lst, ix_r, cm_eq, cm_ne, cm_lt, cm_le, cm_gt, cm_ge, cm_isn, cm_nisn, cm_isb, cm_inn, cm_nin, op_ad, op_sb, op_ml, op_dv, op_md, op_pw, op_sl, op_as, op_at, op_mt, op_al, bi_abs, bi_int, bi_intb, bi_ints, bi_lent, bi_lenl, bi_lenr, bi_lens, bi_listt, bi_listl, bi_tupt, bi_tupl, bi_tupr, bi_gcd, bi_max, bi_min, bi_str, bi_sum, bi_all, bi_any, tr_non, tr_bl, tr_int, tr_tup, tr_lst, ty_nt, ty_tt, ty_ti, ty_ii, ty_it, ty_is, sl_tup, sl_lst, sq_tup, sq_lst, ls_lst, th_lst, wk_tup, wk_lst, opt_some, eqV_non, pw, h', m, e1, e2]
theorem c_state {d : Nat} {ns : List Int} : callN F (d + 1) n__law_state [.lst (ns.map .int)] ⟨[], false⟩ = .ok (.ref 0) (G ns 0 0 (1 + (ns.length : Int)) []) := by
  rw [callN_of (fd := ⟨1, 1, b__law_state⟩) rfl rfl]
  unfold runF
  have e : xss (callN F d) 0 b__law_state [some (.lst (ns.map .int))] ⟨[], false⟩ = .ret (.ref 0) (G ns 0 0 (1 + (ns.length : Int)) []) := by
    simp [st__law_state_0, b__law_state, bd_ok, bd_exc, st_ok, st_exc, xss_cons, xss_nil, seq_next, seq_ret, seq_brk, seq_cont, seq_exc, eqV_int, xst, ev, evT, evs, evo, evc, evi, itemAt, MP.placeOf, bindT, bindTs, unslot, hold, unhold, subR, freeze, ix_tup, ix_lst, ix_r, cm_eq, cm_ne, cm_lt, cm_le, cm_gt, cm_ge, cm_isn, cm_nisn, cm_isb, cm_inn, cm_nin, op_ad, op_sb, op_ml, op_dv, op_md, op_pw, op_sl, op_as, op_at, op_mt, op_al, bi_abs, bi_int, bi_intb, bi_ints, bi_lent, bi_lenl, bi_lenr, bi_lens, bi_listt, bi_listl, bi_tupt, bi_tupl, bi_tupr, bi_gcd, bi_max, bi_min, bi_str, bi_sum, bi_all, bi_any, tr_non, tr_bl, tr_int, tr_tup, tr_lst, ty_nt, ty_tt, ty_ti, ty_ii, ty_it, ty_is, sl_tup, sl_lst, sq_tup, sq_lst, ls_lst, th_lst, wk_tup, wk_lst, opt_some, eqV_non, Sto.push, Sto.len, G]
  show (match xss (callN F d) 0 b__law_state [some (.lst (ns.map .int))] ⟨[], false⟩ with
  | .next _ S1 => fin ⟨[], false⟩ .non S1
  | .ret v S1 => fin ⟨[], false⟩ v S1
  | .exc c as _ S1 => if PV.pures as && !S1.dirty then .exc c as ⟨S1.cells.take 0, false⟩ else .bad
  | _ => .bad) = _
  rw [e]
  rfl
/-- a draw's first part -/
theorem draw1 {d : Nat} {ns : List Int} {a i c m : Int} {tl : List Cell} (ha : 0 ≤ a) (hi : 0 ≤ i) : ∃ a' i', 0 ≤ a' ∧ 0 ≤ i' ∧
    xst (callN F (d + 2)) (1 + tl.length) st__law_draw_0 [some (.ref 0), some (.int m), none] (G ns a i c tl) = .next [some (.ref 0), some (.int m), none] (G ns a' i' c tl) := by
  have ob : ∀ x : Int, PV.pure (.int x) = true := fun _ => rfl
  unfold st__law_draw_0
  by_cases h1 : a < m
  · by_cases h2 : i < (ns.length : Int)
    · obtain ⟨r, e1, p1⟩ := c_number (d := d) (c := ns[i.toNat]'(by omega)) (S := G ns a i c tl)
      refine ⟨r, i + 1, p1, by omega, ?_⟩
      have e2 : (ns.map PV.int)[i.toNat]? = some (.int (ns[i.toNat]'(by omega))) := by
        rw [List.getElem?_map, List.getElem?_eq_getElem (by omega)]
        rfl
      unfold G at *
      simp at e2
      simp [bd_ok, bd_exc, st_ok, st_exc, xss_cons, xss_nil, seq_next, seq_ret, seq_brk, seq_cont, seq_exc, eqV_int, xst, ev, evT, evs, evo, evc, evi, itemAt, MP.placeOf, bindT, bindTs, unslot, hold, unhold, subR, freeze, ix_tup, ix_lst, ix_r, cm_eq, cm_ne, cm_lt, cm_le, cm_gt, cm_ge, cm_isn, cm_nisn, cm_isb, cm_inn, cm_nin, op_ad, op_sb, op_ml, op_dv, op_md, op_pw, op_sl, op_as, op_at, op_mt, op_al, bi_abs, bi_int, bi_intb, bi_ints, bi_lent, bi_lenl, bi_lenr, bi_lens, bi_listt, bi_listl, bi_tupt, bi_tupl, bi_tupr, bi_gcd, bi_max, bi_min, bi_str, bi_sum, bi_all, bi_any, tr_non, tr_bl, tr_int, tr_tup, tr_lst, ty_nt, ty_tt, ty_ti, ty_ii, ty_it, ty_is, sl_tup, sl_lst, sq_tup, sq_lst, ls_lst, th_lst, wk_tup, wk_lst, opt_some, eqV_non, Sto.lst?, Sto.wr, h1, h2, hi, e2, e1, ob]
    · refine ⟨a, i, ha, hi, ?_⟩
      unfold G
      simp [bd_ok, bd_exc, st_ok, st_exc, xss_cons, xss_nil, seq_next, seq_ret, seq_brk, seq_cont, seq_exc, eqV_int, xst, ev, evT, evs, evo, evc, evi, itemAt, MP.placeOf, bindT, bindTs, unslot, hold, unhold, subR, freeze, ix_tup, ix_lst, ix_r, cm_eq, cm_ne, cm_lt, cm_le, cm_gt, cm_ge, cm_isn, cm_nisn, cm_isb, cm_inn, cm_nin, op_ad, op_sb, op_ml, op_dv, op_md, op_pw, op_sl, op_as, op_at, op_mt, op_al, bi_abs, bi_int, bi_intb, bi_ints, bi_lent, bi_lenl, bi_lenr, bi_lens, bi_listt, bi_listl, bi_tupt, bi_tupl, bi_tupr, bi_gcd, bi_max, bi_min, bi_str, bi_sum, bi_all, bi_any, tr_non, tr_bl, tr_int, tr_tup, tr_lst, ty_nt, ty_tt, ty_ti, ty_ii, ty_it, ty_is, sl_tup, sl_lst, sq_tup, sq_lst, ls_lst, th_lst, wk_tup, wk_lst, opt_some, eqV_non, Sto.lst?, Sto.wr, h1, h2]
  · refine ⟨a, i, ha, hi, ?_⟩
    unfold G
    simp [bd_ok, bd_exc, st_ok, st_exc, xss_cons, xss_nil, seq_next, seq_ret, seq_brk, seq_cont, seq_exc, eqV_int, xst, ev, evT, evs, evo, evc, evi, itemAt, MP.placeOf, bindT, bindTs, unslot, hold, unhold, subR, freeze, ix_tup, ix_lst, ix_r, cm_eq, cm_ne, cm_lt, cm_le, cm_gt, cm_ge, cm_isn, cm_nisn, cm_isb, cm_inn, cm_nin, op_ad, op_sb, op_ml, op_dv, op_md, op_pw, op_sl, op_as, op_at, op_mt, op_al, bi_abs, bi_int, bi_intb, bi_ints, bi_lent, bi_lenl, bi_lenr, bi_lens, bi_listt, bi_listl, bi_tupt, bi_tupl, bi_tupr, bi_gcd, bi_max, bi_min, bi_str, bi_sum, bi_all, bi_any, tr_non, tr_bl, tr_int, tr_tup, tr_lst, ty_nt, ty_tt, ty_ti, ty_ii, ty_it, ty_is, sl_tup, sl_lst, sq_tup, sq_lst, ls_lst, th_lst, wk_tup, wk_lst, opt_some, eqV_non, Sto.lst?, Sto.wr, h1]
/-- a run that gives a thing and may have drawn -/
theorem run_G {C : Nat → List PV → Sto → MP.R PV} {fd : FDef} {args : List PV} {ns : List Int} {a i c a' i' c' : Int} {tl more : List Cell} {v : PV} (h : xss C (1 + tl.length) fd.body (args.map some ++ List.replicate (fd.nn - fd.np) none) (G ns a i c tl) = .ret v (G ns a' i' c' (tl ++ more))) (p : v.pure = true) : runF C fd args (G ns a i c tl) = .ok v (G ns a' i' c' tl) := by
  have hl : (G ns a i c tl).cells.length = 1 + tl.length := by unfold G; simp; omega
  have z := run_retT (C := C) (fd := fd) (args := args) (S := G ns a i c tl) (v := v) (cs := (G ns a' i' c' (tl ++ more)).cells) (by rw [hl]; exact h) p
  rw [z, hl]
  have e : (G ns a' i' c' (tl ++ more)).cells.take (1 + tl.length) = (G ns a' i' c' tl).cells := by
    unfold G
    rw [show 1 + tl.length = tl.length + 1 by omega]
    simp
  rw [e]
  rfl
theorem run_G0 {C : Nat → List PV → Sto → MP.R PV} {fd : FDef} {args : List PV} {ns : List Int} {a i c a' i' c' : Int} {tl : List Cell} {v : PV} (h : xss C (1 + tl.length) fd.body (args.map some ++ List.replicate (fd.nn - fd.np) none) (G ns a i c tl) = .ret v (G ns a' i' c' tl)) (p : v.pure = true) : runF C fd args (G ns a i c tl) = .ok v (G ns a' i' c' tl) :=
  run_G (more := []) (by rw [List.append_nil]; exact h) p
theorem c_draw {d : Nat} {ns : List Int} {a i c m : Int} {tl : List Cell} (ha : 0 ≤ a) (hi : 0 ≤ i) (hm : 0 < m) : ∃ r a' i' c', callN F (d + 3) n__law_draw [.ref 0, .int m] (G ns a i c tl) = .ok (.int r) (G ns a' i' c' tl) ∧ 0 ≤ r ∧ r < m ∧ 0 ≤ a' ∧ 0 ≤ i' := by
  have ob : ∀ x : Int, PV.pure (.int x) = true := fun _ => rfl
  rw [callN_of (fd := ⟨2, 3, b__law_draw⟩) rfl rfl]
  obtain ⟨a1, i1, ha1, hi1, e1⟩ := draw1 (d := d) (ns := ns) (c := c) (m := m) (tl := tl) ha hi
  have hm0 : m ≠ 0 := by omega
  have dv : divOk m = true := divOk_of hm0
  have d11 : divOk 11 = true := by decide
  have m48 : mulOk c 48271 = true := mulOk_r (by unfold sz; decide)
  by_cases h0 : a1 = 0
  · subst h0
    refine ⟨(((c * 48271 + 7).fmod 2147483647).fdiv 11).fmod m, 0, i1, (c * 48271 + 7).fmod 2147483647, run_G0 ?_ rfl, Int.fmod_nonneg_of_pos _ hm, Int.fmod_lt_of_pos _ hm, by omega, hi1⟩
    unfold b__law_draw
    refine (xss_step e1).trans ?_
    unfold G
    simp [st__law_draw_0, st__law_draw_1, st__law_draw_2, st__law_draw_3, st__law_draw_4, b__law_draw, bd_ok, bd_exc, st_ok, st_exc, xss_cons, xss_nil, seq_next, seq_ret, seq_brk, seq_cont, seq_exc, eqV_int, xst, ev, evT, evs, evo, evc, evi, itemAt, MP.placeOf, bindT, bindTs, unslot, hold, unhold, subR, freeze, ix_tup, ix_lst, ix_r, cm_eq, cm_ne, cm_lt, cm_le, cm_gt, cm_ge, cm_isn, cm_nisn, cm_isb, cm_inn, cm_nin, op_ad, op_sb, op_ml, op_dv, op_md, op_pw, op_sl, op_as, op_at, op_mt, op_al, bi_abs, bi_int, bi_intb, bi_ints, bi_lent, bi_lenl, bi_lenr, bi_lens, bi_listt, bi_listl, bi_tupt, bi_tupl, bi_tupr, bi_gcd, bi_max, bi_min, bi_str, bi_sum, bi_all, bi_any, tr_non, tr_bl, tr_int, tr_tup, tr_lst, ty_nt, ty_tt, ty_ti, ty_ii, ty_it, ty_is, sl_tup, sl_lst, sq_tup, sq_lst, ls_lst, th_lst, wk_tup, wk_lst, opt_some, eqV_non, Sto.lst?, Sto.wr, ob, d11, m48, hm0]
  · refine ⟨a1.fmod m, a1.fdiv m, i1, c, run_G0 ?_ rfl, Int.fmod_nonneg_of_pos _ hm, Int.fmod_lt_of_pos _ hm, Int.fdiv_nonneg ha1 (by omega), hi1⟩
    unfold b__law_draw
    refine (xss_step e1).trans ?_
    unfold G
    simp [st__law_draw_0, st__law_draw_1, st__law_draw_2, st__law_draw_3, st__law_draw_4, b__law_draw, bd_ok, bd_exc, st_ok, st_exc, xss_cons, xss_nil, seq_next, seq_ret, seq_brk, seq_cont, seq_exc, eqV_int, xst, ev, evT, evs, evo, evc, evi, itemAt, MP.placeOf, bindT, bindTs, unslot, hold, unhold, subR, freeze, ix_tup, ix_lst, ix_r, cm_eq, cm_ne, cm_lt, cm_le, cm_gt, cm_ge, cm_isn, cm_nisn, cm_isb, cm_inn, cm_nin, op_ad, op_sb, op_ml, op_dv, op_md, op_pw, op_sl, op_as, op_at, op_mt, op_al, bi_abs, bi_int, bi_intb, bi_ints, bi_lent, bi_lenl, bi_lenr, bi_lens, bi_listt, bi_listl, bi_tupt, bi_tupl, bi_tupr, bi_gcd, bi_max, bi_min, bi_str, bi_sum, bi_all, bi_any, tr_non, tr_bl, tr_int, tr_tup, tr_lst, ty_nt, ty_tt, ty_ti, ty_ii, ty_it, ty_is, sl_tup, sl_lst, sq_tup, sq_lst, ls_lst, th_lst, wk_tup, wk_lst, opt_some, eqV_non, Sto.lst?, Sto.wr, ob, h0, dv, hm0]
end K04
end
section
set_option Elab.async false
set_option linter.all false
set_option maxRecDepth 100000
set_option maxHeartbeats 1000000
namespace K04
open PySem MP
inductive Bo where | add | sub | mul | div
  deriving DecidableEq
inductive Tr where
  | num (q : Rat) | st (i : Nat) | cn (i : Nat) | pw (t : Tr) (m : Nat) | bin (o : Bo) (a b : Tr)
  deriving DecidableEq
def Bo.nm : Bo → Str
  | .add => "add"
  | .sub => "sub"
  | .mul => "mul"
  | .div => "div"
def Tr.tv : Tr → PV
  | .num q => .tup [.str "num", fr q]
  | .st i => .tup [.str "state", .int i]
  | .cn i => .tup [.str "const", .int i]
  | .pw t m => .tup [.str "pow", t.tv, .int m]
  | .bin o a b => .tup [.str o.nm, a.tv, b.tv]
def Tr.ht : Tr → Nat
  | .pw t _ => t.ht + 1
  | .bin _ a b => max a.ht b.ht + 1
  | _ => 0
/-- numbers of k bits, n states, c constants, exponents below m -/
def Tr.okT (k n c m : Nat) : Tr → Prop
  | .num q => szq k q
  | .st i => i < n
  | .cn i => i < c
  | .pw t e => t.okT k n c m ∧ e < m
  | .bin _ a b => a.okT k n c m ∧ b.okT k n c m
theorem okT_mono {k n c m k' n' c' m' : Nat} (hk : k ≤ k') (hn : n ≤ n') (hc : c ≤ c') (hm : m ≤ m') : ∀ {t : Tr}, t.okT k n c m → t.okT k' n' c' m'
  | .num q, h => szq.mono (show szq k q from h) hk
  | .st i, h => Nat.lt_of_lt_of_le (show i < n from h) hn
  | .cn i, h => Nat.lt_of_lt_of_le (show i < c from h) hc
  | .pw t e, h => ⟨okT_mono hk hn hc hm h.1, Nat.lt_of_lt_of_le h.2 hm⟩
  | .bin _ a b, h => ⟨okT_mono hk hn hc hm h.1, okT_mono hk hn hc hm h.2⟩
theorem tv_pure : ∀ t : Tr, t.tv.pure = true
  | .num _ => rfl
  | .st _ => rfl
  | .cn _ => rfl
  | .pw t m => by
    have := tv_pure t
    simp [Tr.tv, PV.pure, PV.pures, this]
  | .bin o a b => by
    have := tv_pure a
    have := tv_pure b
    simp [Tr.tv, PV.pure, PV.pures, *]
theorem nm_ok (o : Bo) : PyData.strOk o.nm = true := by cases o <;> decide +kernel
theorem tv_std : ∀ t : Tr, t.tv.std = true
  | .num q => by simp only [Tr.tv, fr, pr, PV.std, PV.stds, Bool.and_true]; decide +kernel
  | .st i => by simp only [Tr.tv, PV.std, PV.stds, Bool.and_true]; decide +kernel
  | .cn i => by simp only [Tr.tv, PV.std, PV.stds, Bool.and_true]; decide +kernel
  | .pw t m => by
    have h := tv_std t
    simp only [Tr.tv, PV.std, PV.stds, h, Bool.and_true]
    decide +kernel
  | .bin o a b => by
    have h := tv_std a
    have h2 := tv_std b
    simp only [Tr.tv, PV.std, PV.stds, h, h2, Bool.and_true]
    exact nm_ok o
theorem tv_dp : ∀ t : Tr, t.tv.dp ≤ t.ht + 2
  | .num q => by simp [Tr.tv, fr, pr, PV.dp, PV.dps, Tr.ht]
  | .st i => by simp [Tr.tv, PV.dp, PV.dps, Tr.ht]
  | .cn i => by simp [Tr.tv, PV.dp, PV.dps, Tr.ht]
  | .pw t m => by
    have h := tv_dp t
    simp [Tr.tv, PV.dp, PV.dps, Tr.ht]
    omega
  | .bin o a b => by
    have h := tv_dp a
    have h2 := tv_dp b
    simp [Tr.tv, PV.dp, PV.dps, Tr.ht]
    omega
theorem nm_inj : ∀ {o p : Bo}, o.nm = p.nm → o = p := by
  intro o p h
  cases o <;> cases p <;> first | rfl | (exact absurd h (by decide +kernel))
theorem nm_pow (o : Bo) : o.nm ≠ "pow" := by cases o <;> decide +kernel
theorem fr_eq {a b : Rat} (h : fr a = fr b) : a = b := by
  unfold fr pr at h
  injection h with h
  injection h with h1 h2
  injection h1 with h1
  injection h2 with h2
  injection h2 with h2
  exact Rat.ext h1 (by omega)
theorem tup2 {a b c d : PV} (h : PV.tup [a, b] = .tup [c, d]) : a = c ∧ b = d := by
  injection h with h
  injection h with h1 h2
  injection h2 with h2
  exact ⟨h1, h2⟩
theorem tup3 {a b c d e f : PV} (h : PV.tup [a, b, c] = .tup [d, e, f]) : a = d ∧ b = e ∧ c = f := by
  injection h with h
  injection h with h1 h2
  injection h2 with h2 h3
  injection h3 with h3
  exact ⟨h1, h2, h3⟩
theorem tup23 {a b c d e : PV} (h : PV.tup [a, b] = .tup [c, d, e]) : False := by
  injection h with h
  injection h with h1 h2
  injection h2 with h2 h3
  cases h3
theorem str_ne {x y : Str} (h : x ≠ y) : PV.str x ≠ .str y := fun e => h (by injection e)
theorem tv_inj : ∀ {t u : Tr}, t.tv = u.tv → t = u
  | .num q, .num r, h => by rw [fr_eq (tup2 h).2]
  | .num q, .st i, h => absurd (tup2 h).1 (str_ne (by decide +kernel))
  | .num q, .cn i, h => absurd (tup2 h).1 (str_ne (by decide +kernel))
  | .st i, .num r, h => absurd (tup2 h).1 (str_ne (by decide +kernel))
  | .st i, .st j, h => by
    have := (tup2 h).2
    injection this with this
    rw [Int.ofNat.inj this]
  | .st i, .cn j, h => absurd (tup2 h).1 (str_ne (by decide +kernel))
  | .cn i, .num r, h => absurd (tup2 h).1 (str_ne (by decide +kernel))
  | .cn i, .st j, h => absurd (tup2 h).1 (str_ne (by decide +kernel))
  | .cn i, .cn j, h => by
    have := (tup2 h).2
    injection this with this
    rw [Int.ofNat.inj this]
  | .num q, .pw _ _, h => (tup23 h).elim
  | .num q, .bin _ _ _, h => (tup23 h).elim
  | .st q, .pw _ _, h => (tup23 h).elim
  | .st q, .bin _ _ _, h => (tup23 h).elim
  | .cn q, .pw _ _, h => (tup23 h).elim
  | .cn q, .bin _ _ _, h => (tup23 h).elim
  | .pw _ _, .num q, h => (tup23 h.symm).elim
  | .pw _ _, .st q, h => (tup23 h.symm).elim
  | .pw _ _, .cn q, h => (tup23 h.symm).elim
  | .bin _ _ _, .num q, h => (tup23 h.symm).elim
  | .bin _ _ _, .st q, h => (tup23 h.symm).elim
  | .bin _ _ _, .cn q, h => (tup23 h.symm).elim
  | .pw t m, .pw u n, h => by
    obtain ⟨_, h2, h3⟩ := tup3 h
    injection h3 with h3
    rw [tv_inj h2, Int.ofNat.inj h3]
  | .pw t m, .bin o a b, h => absurd (tup3 h).1.symm (str_ne (nm_pow o))
  | .bin o a b, .pw t m, h => absurd (tup3 h).1 (str_ne (nm_pow o))
  | .bin o a b, .bin p c d, h => by
    obtain ⟨h1, h2, h3⟩ := tup3 h
    injection h1 with h1
    rw [nm_inj h1, tv_inj h2, tv_inj h3]
theorem eqT {S : Sto} {t u : Tr} (ht : t.ht ≤ 60) (hu : u.ht ≤ 60) : eqV S t.tv u.tv = some (decide (t = u)) := by
  have h1 := tv_dp t
  have h2 := tv_dp u
  rw [eqV_std (tv_std t) (tv_std u) (by omega) (by omega)]
  congr 1
  exact decide_eq_decide.mpr ⟨tv_inj, fun e => by rw [e]⟩
theorem eqZ {S : Sto} {t : Tr} (ht : t.ht ≤ 60) : eqV S t.tv (.tup [.str "num", .tup [.int 0, .int 1]]) = some (decide (t = .num 0)) := eqT (u := .num 0) ht (by decide)
theorem eqO {S : Sto} {t : Tr} (ht : t.ht ≤ 60) : eqV S t.tv (.tup [.str "num", .tup [.int 1, .int 1]]) = some (decide (t = .num 1)) := eqT (u := .num 1) ht (by decide)
/-! ### values -/
def vl (X C : Nat → Rat) : Tr → Option Rat
  | .num q => some q
  | .st i => some (X i)
  | .cn i => some (C i)
  | .pw t m => (vl X C t).map fun q => q ^ m
  | .bin o a b => (vl X C a).bind fun x => (vl X C b).bind fun y => match o with
    | .add => some (x + y)
    | .sub => some (x - y)
    | .mul => some (x * y)
    | .div => if y = 0 then none else some (x / y)
def bt (k : Nat) : Tr → Nat
  | .pw t m => bt k t * (m + 1) + 2
  | .bin _ a b => bt k a + bt k b + 2
  | _ => k
theorem vl_sz {k n c m : Nat} {X C : Nat → Rat} (hX : ∀ i, i < n → szq k (X i)) (hC : ∀ i, i < c → szq k (C i)) : ∀ {t : Tr} {q : Rat}, t.okT k n c m → vl X C t = some q → szq (bt k t) q
  | .num r, q, ok, h => by cases h; exact ok
  | .st i, q, ok, h => by cases h; exact hX i ok
  | .cn i, q, ok, h => by cases h; exact hC i ok
  | .pw t e, q, ok, h => by
    unfold vl at h
    cases h1 : vl X C t with
    | none => rw [h1] at h; cases h
    | some r =>
      rw [h1] at h
      cases h
      refine (szq.pow (vl_sz hX hC ok.1 h1) e).mono ?_
      show 1 + bt k t * e ≤ bt k t * (e + 1) + 2
      rw [Nat.mul_succ]
      omega
  | .bin o a b, q, ok, h => by
    unfold vl at h
    cases h1 : vl X C a with
    | none => rw [h1] at h; cases h
    | some x =>
      cases h2 : vl X C b with
      | none => rw [h1, h2] at h; cases h
      | some y =>
        rw [h1, h2] at h
        have z1 := vl_sz hX hC ok.1 h1
        have z2 := vl_sz hX hC ok.2 h2
        have e : bt k (.bin o a b) = bt k a + bt k b + 2 := rfl
        rw [e]
        cases o with
        | add => cases h; exact (z1.addA z2).mono (by omega)
        | sub => cases h; exact (z1.subA z2).mono (by omega)
        | mul => cases h; exact (z1.mul z2).mono (by omega)
        | div =>
          have h : (if y = 0 then none else some (x / y)) = some q := h
          split at h
          · cases h
          · rename_i hy
            cases h
            exact (z1.div z2 hy).mono (by omega)
/-- a value, or none -/
def oq : Option Rat → PV
  | none => .non
  | some q => fr q
theorem fr_z {q : Rat} : decide (q.num = 0) = decide (q = 0) := decide_eq_decide.mpr ⟨Rat.num_eq_zero.mp, fun h => by rw [h]; rfl⟩
section
variable {L k n c m : Nat} {X C : Nat → Rat} {xv cv : PV}
/-- what value gives -/
def ValOk (X C : Nat → Rat) (xv cv : PV) (t : Tr) (e : Nat) : Prop := ∀ S : Sto, callN F e n_value [t.tv, xv, cv] S = match vl X C t with
  | some q => .ok (fr q) S
  | none => .exc x_Hole [] S
theorem v_num {q : Rat} {d : Nat} : ValOk X C xv cv (.num q) (d + 1) := by
  intro S
  rw [callN_of (fd := ⟨3, 6, b_value⟩) rfl rfl]
  refine run_ret ?_ (fr_pure _)
  simp [st_value_0, st_value_1, st_value_2, st_value_3, st_value_4, st_value_5, st_value_6, st_value_7, st_value_8, st_value_9, st_value_10, st_value_11, b_value, bd_ok, bd_exc, st_ok, st_exc, xss_cons, xss_nil, seq_next, seq_ret, seq_brk, seq_cont, seq_exc, eqV_int, xst, ev, evT, evs, evo, evc, evi, itemAt, MP.placeOf, bindT, bindTs, unslot, hold, unhold, subR, freeze, ix_tup, ix_lst, ix_r, cm_eq, cm_ne, cm_lt, cm_le, cm_gt, cm_ge, cm_isn, cm_nisn, cm_isb, cm_inn, cm_nin, op_ad, op_sb, op_ml, op_dv, op_md, op_pw, op_sl, op_as, op_at, op_mt, op_al, bi_abs, bi_int, bi_intb, bi_ints, bi_lent, bi_lenl, bi_lenr, bi_lens, bi_listt, bi_listl, bi_tupt, bi_tupl, bi_tupr, bi_gcd, bi_max, bi_min, bi_str, bi_sum, bi_all, bi_any, tr_non, tr_bl, tr_int, tr_tup, tr_lst, ty_nt, ty_tt, ty_ti, ty_ii, ty_it, ty_is, sl_tup, sl_lst, sq_tup, sq_lst, ls_lst, th_lst, wk_tup, wk_lst, opt_some, eqV_non, es_num_num, es_num_state, es_num_const, es_num_pow, es_num_add, es_num_sub, es_num_mul, es_num_div, es_state_num, es_state_state, es_state_const, es_state_pow, es_state_add, es_state_sub, es_state_mul, es_state_div, es_const_num, es_const_state, es_const_const, es_const_pow, es_const_add, es_const_sub, es_const_mul, es_const_div, es_pow_num, es_pow_state, es_pow_const, es_pow_pow, es_pow_add, es_pow_sub, es_pow_mul, es_pow_div, es_add_num, es_add_state, es_add_const, es_add_pow, es_add_add, es_add_sub, es_add_mul, es_add_div, es_sub_num, es_sub_state, es_sub_const, es_sub_pow, es_sub_add, es_sub_sub, es_sub_mul, es_sub_div, es_mul_num, es_mul_state, es_mul_const, es_mul_pow, es_mul_add, es_mul_sub, es_mul_mul, es_mul_div, es_div_num, es_div_state, es_div_const, es_div_pow, es_div_add, es_div_sub, es_div_mul, es_div_div, ip_num, ip_state, ip_const, ip_pow, ip_add, ip_sub, ip_mul, ip_div, il_num, il_state, il_const, il_pow, il_add, il_sub, il_mul, il_div, it_num, it_state, it_const, it_pow, it_add, it_sub, it_mul, it_div, Tr.tv]
theorem v_st {i d : Nat} (h : ∀ S, ixV S xv (.int (i : Nat)) = some (fr (X i))) : ValOk X C xv cv (.st i) (d + 1) := by
  intro S
  have h1 := h ⟨S.cells, false⟩
  rw [callN_of (fd := ⟨3, 6, b_value⟩) rfl rfl]
  refine run_ret ?_ (fr_pure _)
  simp [st_value_0, st_value_1, st_value_2, st_value_3, st_value_4, st_value_5, st_value_6, st_value_7, st_value_8, st_value_9, st_value_10, st_value_11, b_value, bd_ok, bd_exc, st_ok, st_exc, xss_cons, xss_nil, seq_next, seq_ret, seq_brk, seq_cont, seq_exc, eqV_int, xst, ev, evT, evs, evo, evc, evi, itemAt, MP.placeOf, bindT, bindTs, unslot, hold, unhold, subR, freeze, ix_tup, ix_lst, ix_r, cm_eq, cm_ne, cm_lt, cm_le, cm_gt, cm_ge, cm_isn, cm_nisn, cm_isb, cm_inn, cm_nin, op_ad, op_sb, op_ml, op_dv, op_md, op_pw, op_sl, op_as, op_at, op_mt, op_al, bi_abs, bi_int, bi_intb, bi_ints, bi_lent, bi_lenl, bi_lenr, bi_lens, bi_listt, bi_listl, bi_tupt, bi_tupl, bi_tupr, bi_gcd, bi_max, bi_min, bi_str, bi_sum, bi_all, bi_any, tr_non, tr_bl, tr_int, tr_tup, tr_lst, ty_nt, ty_tt, ty_ti, ty_ii, ty_it, ty_is, sl_tup, sl_lst, sq_tup, sq_lst, ls_lst, th_lst, wk_tup, wk_lst, opt_some, eqV_non, es_num_num, es_num_state, es_num_const, es_num_pow, es_num_add, es_num_sub, es_num_mul, es_num_div, es_state_num, es_state_state, es_state_const, es_state_pow, es_state_add, es_state_sub, es_state_mul, es_state_div, es_const_num, es_const_state, es_const_const, es_const_pow, es_const_add, es_const_sub, es_const_mul, es_const_div, es_pow_num, es_pow_state, es_pow_const, es_pow_pow, es_pow_add, es_pow_sub, es_pow_mul, es_pow_div, es_add_num, es_add_state, es_add_const, es_add_pow, es_add_add, es_add_sub, es_add_mul, es_add_div, es_sub_num, es_sub_state, es_sub_const, es_sub_pow, es_sub_add, es_sub_sub, es_sub_mul, es_sub_div, es_mul_num, es_mul_state, es_mul_const, es_mul_pow, es_mul_add, es_mul_sub, es_mul_mul, es_mul_div, es_div_num, es_div_state, es_div_const, es_div_pow, es_div_add, es_div_sub, es_div_mul, es_div_div, ip_num, ip_state, ip_const, ip_pow, ip_add, ip_sub, ip_mul, ip_div, il_num, il_state, il_const, il_pow, il_add, il_sub, il_mul, il_div, it_num, it_state, it_const, it_pow, it_add, it_sub, it_mul, it_div, Tr.tv, h1]
theorem v_cn {i d : Nat} (h : ∀ S, ixV S cv (.int (i : Nat)) = some (fr (C i))) : ValOk X C xv cv (.cn i) (d + 1) := by
  intro S
  have h1 := h ⟨S.cells, false⟩
  rw [callN_of (fd := ⟨3, 6, b_value⟩) rfl rfl]
  refine run_ret ?_ (fr_pure _)
  simp [st_value_0, st_value_1, st_value_2, st_value_3, st_value_4, st_value_5, st_value_6, st_value_7, st_value_8, st_value_9, st_value_10, st_value_11, b_value, bd_ok, bd_exc, st_ok, st_exc, xss_cons, xss_nil, seq_next, seq_ret, seq_brk, seq_cont, seq_exc, eqV_int, xst, ev, evT, evs, evo, evc, evi, itemAt, MP.placeOf, bindT, bindTs, unslot, hold, unhold, subR, freeze, ix_tup, ix_lst, ix_r, cm_eq, cm_ne, cm_lt, cm_le, cm_gt, cm_ge, cm_isn, cm_nisn, cm_isb, cm_inn, cm_nin, op_ad, op_sb, op_ml, op_dv, op_md, op_pw, op_sl, op_as, op_at, op_mt, op_al, bi_abs, bi_int, bi_intb, bi_ints, bi_lent, bi_lenl, bi_lenr, bi_lens, bi_listt, bi_listl, bi_tupt, bi_tupl, bi_tupr, bi_gcd, bi_max, bi_min, bi_str, bi_sum, bi_all, bi_any, tr_non, tr_bl, tr_int, tr_tup, tr_lst, ty_nt, ty_tt, ty_ti, ty_ii, ty_it, ty_is, sl_tup, sl_lst, sq_tup, sq_lst, ls_lst, th_lst, wk_tup, wk_lst, opt_some, eqV_non, es_num_num, es_num_state, es_num_const, es_num_pow, es_num_add, es_num_sub, es_num_mul, es_num_div, es_state_num, es_state_state, es_state_const, es_state_pow, es_state_add, es_state_sub, es_state_mul, es_state_div, es_const_num, es_const_state, es_const_const, es_const_pow, es_const_add, es_const_sub, es_const_mul, es_const_div, es_pow_num, es_pow_state, es_pow_const, es_pow_pow, es_pow_add, es_pow_sub, es_pow_mul, es_pow_div, es_add_num, es_add_state, es_add_const, es_add_pow, es_add_add, es_add_sub, es_add_mul, es_add_div, es_sub_num, es_sub_state, es_sub_const, es_sub_pow, es_sub_add, es_sub_sub, es_sub_mul, es_sub_div, es_mul_num, es_mul_state, es_mul_const, es_mul_pow, es_mul_add, es_mul_sub, es_mul_mul, es_mul_div, es_div_num, es_div_state, es_div_const, es_div_pow, es_div_add, es_div_sub, es_div_mul, es_div_div, ip_num, ip_state, ip_const, ip_pow, ip_add, ip_sub, ip_mul, ip_div, il_num, il_state, il_const, il_pow, il_add, il_sub, il_mul, il_div, it_num, it_state, it_const, it_pow, it_add, it_sub, it_mul, it_div, Tr.tv, h1]
theorem vl_pw {t : Tr} {e : Nat} : vl X C (.pw t e) = (vl X C t).map fun q => q ^ e := by rw [vl]
theorem vp_ok {t y : PV} {d : Nat} {S : Sto} {x z : PV} (ih : callN F (d + 3) n_value [t, xv, cv] ⟨S.cells, false⟩ = .ok x ⟨S.cells, false⟩) (h : callN F (d + 3) n_power [x, y] ⟨S.cells, false⟩ = .ok z ⟨S.cells, false⟩) (hz : z.pure = true) : callN F (d + 4) n_value [.tup [.str "pow", t, y], xv, cv] S = .ok z S := by
  rw [callN_of (fd := ⟨3, 6, b_value⟩) rfl rfl]
  refine run_ret ?_ hz
  simp [st_value_0, st_value_1, st_value_2, st_value_3, st_value_4, st_value_5, st_value_6, st_value_7, st_value_8, st_value_9, st_value_10, st_value_11, b_value, bd_ok, bd_exc, st_ok, st_exc, xss_cons, xss_nil, seq_next, seq_ret, seq_brk, seq_cont, seq_exc, eqV_int, xst, ev, evT, evs, evo, evc, evi, itemAt, MP.placeOf, bindT, bindTs, unslot, hold, unhold, subR, freeze, ix_tup, ix_lst, ix_r, cm_eq, cm_ne, cm_lt, cm_le, cm_gt, cm_ge, cm_isn, cm_nisn, cm_isb, cm_inn, cm_nin, op_ad, op_sb, op_ml, op_dv, op_md, op_pw, op_sl, op_as, op_at, op_mt, op_al, bi_abs, bi_int, bi_intb, bi_ints, bi_lent, bi_lenl, bi_lenr, bi_lens, bi_listt, bi_listl, bi_tupt, bi_tupl, bi_tupr, bi_gcd, bi_max, bi_min, bi_str, bi_sum, bi_all, bi_any, tr_non, tr_bl, tr_int, tr_tup, tr_lst, ty_nt, ty_tt, ty_ti, ty_ii, ty_it, ty_is, sl_tup, sl_lst, sq_tup, sq_lst, ls_lst, th_lst, wk_tup, wk_lst, opt_some, eqV_non, es_num_num, es_num_state, es_num_const, es_num_pow, es_num_add, es_num_sub, es_num_mul, es_num_div, es_state_num, es_state_state, es_state_const, es_state_pow, es_state_add, es_state_sub, es_state_mul, es_state_div, es_const_num, es_const_state, es_const_const, es_const_pow, es_const_add, es_const_sub, es_const_mul, es_const_div, es_pow_num, es_pow_state, es_pow_const, es_pow_pow, es_pow_add, es_pow_sub, es_pow_mul, es_pow_div, es_add_num, es_add_state, es_add_const, es_add_pow, es_add_add, es_add_sub, es_add_mul, es_add_div, es_sub_num, es_sub_state, es_sub_const, es_sub_pow, es_sub_add, es_sub_sub, es_sub_mul, es_sub_div, es_mul_num, es_mul_state, es_mul_const, es_mul_pow, es_mul_add, es_mul_sub, es_mul_mul, es_mul_div, es_div_num, es_div_state, es_div_const, es_div_pow, es_div_add, es_div_sub, es_div_mul, es_div_div, ip_num, ip_state, ip_const, ip_pow, ip_add, ip_sub, ip_mul, ip_div, il_num, il_state, il_const, il_pow, il_add, il_sub, il_mul, il_div, it_num, it_state, it_const, it_pow, it_add, it_sub, it_mul, it_div, ih, h]
theorem vp_none {t : Tr} {e0 d : Nat} {S : Sto} (ih : callN F (d + 3) n_value [t.tv, xv, cv] ⟨S.cells, false⟩ = .exc x_Hole [] ⟨S.cells, false⟩) : callN F (d + 4) n_value [(Tr.pw t e0).tv, xv, cv] S = .exc x_Hole [] S := by
  rw [callN_of (fd := ⟨3, 6, b_value⟩) rfl rfl]
  refine run_exc (σ := [some (Tr.pw t e0).tv, some xv, some cv, some (.str "pow"), none, none]) ?_ rfl
  simp [st_value_0, st_value_1, st_value_2, st_value_3, st_value_4, st_value_5, st_value_6, st_value_7, st_value_8, st_value_9, st_value_10, st_value_11, b_value, bd_ok, bd_exc, st_ok, st_exc, xss_cons, xss_nil, seq_next, seq_ret, seq_brk, seq_cont, seq_exc, eqV_int, xst, ev, evT, evs, evo, evc, evi, itemAt, MP.placeOf, bindT, bindTs, unslot, hold, unhold, subR, freeze, ix_tup, ix_lst, ix_r, cm_eq, cm_ne, cm_lt, cm_le, cm_gt, cm_ge, cm_isn, cm_nisn, cm_isb, cm_inn, cm_nin, op_ad, op_sb, op_ml, op_dv, op_md, op_pw, op_sl, op_as, op_at, op_mt, op_al, bi_abs, bi_int, bi_intb, bi_ints, bi_lent, bi_lenl, bi_lenr, bi_lens, bi_listt, bi_listl, bi_tupt, bi_tupl, bi_tupr, bi_gcd, bi_max, bi_min, bi_str, bi_sum, bi_all, bi_any, tr_non, tr_bl, tr_int, tr_tup, tr_lst, ty_nt, ty_tt, ty_ti, ty_ii, ty_it, ty_is, sl_tup, sl_lst, sq_tup, sq_lst, ls_lst, th_lst, wk_tup, wk_lst, opt_some, eqV_non, es_num_num, es_num_state, es_num_const, es_num_pow, es_num_add, es_num_sub, es_num_mul, es_num_div, es_state_num, es_state_state, es_state_const, es_state_pow, es_state_add, es_state_sub, es_state_mul, es_state_div, es_const_num, es_const_state, es_const_const, es_const_pow, es_const_add, es_const_sub, es_const_mul, es_const_div, es_pow_num, es_pow_state, es_pow_const, es_pow_pow, es_pow_add, es_pow_sub, es_pow_mul, es_pow_div, es_add_num, es_add_state, es_add_const, es_add_pow, es_add_add, es_add_sub, es_add_mul, es_add_div, es_sub_num, es_sub_state, es_sub_const, es_sub_pow, es_sub_add, es_sub_sub, es_sub_mul, es_sub_div, es_mul_num, es_mul_state, es_mul_const, es_mul_pow, es_mul_add, es_mul_sub, es_mul_mul, es_mul_div, es_div_num, es_div_state, es_div_const, es_div_pow, es_div_add, es_div_sub, es_div_mul, es_div_div, ip_num, ip_state, ip_const, ip_pow, ip_add, ip_sub, ip_mul, ip_div, il_num, il_state, il_const, il_pow, il_add, il_sub, il_mul, il_div, it_num, it_state, it_const, it_pow, it_add, it_sub, it_mul, it_div, Tr.tv, ih]
theorem v_pw {t : Tr} {e0 d : Nat} (ih : ValOk X C xv cv t (d + 3)) (hp : ∀ q S, vl X C t = some q → callN F (d + 3) n_power [fr q, .int e0] S = .ok (fr (q ^ e0)) S) : ValOk X C xv cv (.pw t e0) (d + 4) := by
  intro S
  have ih := ih ⟨S.cells, false⟩
  rw [vl_pw]
  cases h1 : vl X C t with
  | none =>
    rw [h1] at ih
    exact vp_none ih
  | some q =>
    rw [h1] at ih
    exact vp_ok ih (hp q _ h1) (fr_pure _)
/-- a rule on values -/
def Bo.op : Bo → Rat → Rat → Option Rat
  | .add, x, y => some (x + y)
  | .sub, x, y => some (x - y)
  | .mul, x, y => some (x * y)
  | .div, x, y => if y = 0 then none else some (x / y)
theorem vl_bin {o : Bo} {a b : Tr} : vl X C (.bin o a b) = (vl X C a).bind fun x => (vl X C b).bind fun y => o.op x y := by
  rw [vl]
  cases vl X C a with
  | none => rfl
  | some x =>
    cases vl X C b with
    | none => rfl
    | some y => cases o <;> rfl
theorem vb_none {o : Bo} {a b : Tr} {d : Nat} {S : Sto} (ih : callN F (d + 3) n_value [a.tv, xv, cv] ⟨S.cells, false⟩ = .exc x_Hole [] ⟨S.cells, false⟩) : callN F (d + 4) n_value [(Tr.bin o a b).tv, xv, cv] S = .exc x_Hole [] S := by
  rw [callN_of (fd := ⟨3, 6, b_value⟩) rfl rfl]
  refine run_exc (σ := [some (Tr.bin o a b).tv, some xv, some cv, some (.str o.nm), none, none]) ?_ rfl
  cases o <;> simp [st_value_0, st_value_1, st_value_2, st_value_3, st_value_4, st_value_5, st_value_6, st_value_7, st_value_8, st_value_9, st_value_10, st_value_11, b_value, bd_ok, bd_exc, st_ok, st_exc, xss_cons, xss_nil, seq_next, seq_ret, seq_brk, seq_cont, seq_exc, eqV_int, xst, ev, evT, evs, evo, evc, evi, itemAt, MP.placeOf, bindT, bindTs, unslot, hold, unhold, subR, freeze, ix_tup, ix_lst, ix_r, cm_eq, cm_ne, cm_lt, cm_le, cm_gt, cm_ge, cm_isn, cm_nisn, cm_isb, cm_inn, cm_nin, op_ad, op_sb, op_ml, op_dv, op_md, op_pw, op_sl, op_as, op_at, op_mt, op_al, bi_abs, bi_int, bi_intb, bi_ints, bi_lent, bi_lenl, bi_lenr, bi_lens, bi_listt, bi_listl, bi_tupt, bi_tupl, bi_tupr, bi_gcd, bi_max, bi_min, bi_str, bi_sum, bi_all, bi_any, tr_non, tr_bl, tr_int, tr_tup, tr_lst, ty_nt, ty_tt, ty_ti, ty_ii, ty_it, ty_is, sl_tup, sl_lst, sq_tup, sq_lst, ls_lst, th_lst, wk_tup, wk_lst, opt_some, eqV_non, es_num_num, es_num_state, es_num_const, es_num_pow, es_num_add, es_num_sub, es_num_mul, es_num_div, es_state_num, es_state_state, es_state_const, es_state_pow, es_state_add, es_state_sub, es_state_mul, es_state_div, es_const_num, es_const_state, es_const_const, es_const_pow, es_const_add, es_const_sub, es_const_mul, es_const_div, es_pow_num, es_pow_state, es_pow_const, es_pow_pow, es_pow_add, es_pow_sub, es_pow_mul, es_pow_div, es_add_num, es_add_state, es_add_const, es_add_pow, es_add_add, es_add_sub, es_add_mul, es_add_div, es_sub_num, es_sub_state, es_sub_const, es_sub_pow, es_sub_add, es_sub_sub, es_sub_mul, es_sub_div, es_mul_num, es_mul_state, es_mul_const, es_mul_pow, es_mul_add, es_mul_sub, es_mul_mul, es_mul_div, es_div_num, es_div_state, es_div_const, es_div_pow, es_div_add, es_div_sub, es_div_mul, es_div_div, ip_num, ip_state, ip_const, ip_pow, ip_add, ip_sub, ip_mul, ip_div, il_num, il_state, il_const, il_pow, il_add, il_sub, il_mul, il_div, it_num, it_state, it_const, it_pow, it_add, it_sub, it_mul, it_div, Tr.tv, Bo.nm, ih]
theorem vb_none2 {o : Bo} {a b : Tr} {d : Nat} {S : Sto} {x : Rat} (ih : callN F (d + 3) n_value [a.tv, xv, cv] ⟨S.cells, false⟩ = .ok (fr x) ⟨S.cells, false⟩) (ih2 : callN F (d + 3) n_value [b.tv, xv, cv] ⟨S.cells, false⟩ = .exc x_Hole [] ⟨S.cells, false⟩) : callN F (d + 4) n_value [(Tr.bin o a b).tv, xv, cv] S = .exc x_Hole [] S := by
  rw [callN_of (fd := ⟨3, 6, b_value⟩) rfl rfl]
  refine run_exc (σ := [some (Tr.bin o a b).tv, some xv, some cv, some (.str o.nm), some (fr x), none]) ?_ rfl
  cases o <;> simp [st_value_0, st_value_1, st_value_2, st_value_3, st_value_4, st_value_5, st_value_6, st_value_7, st_value_8, st_value_9, st_value_10, st_value_11, b_value, bd_ok, bd_exc, st_ok, st_exc, xss_cons, xss_nil, seq_next, seq_ret, seq_brk, seq_cont, seq_exc, eqV_int, xst, ev, evT, evs, evo, evc, evi, itemAt, MP.placeOf, bindT, bindTs, unslot, hold, unhold, subR, freeze, ix_tup, ix_lst, ix_r, cm_eq, cm_ne, cm_lt, cm_le, cm_gt, cm_ge, cm_isn, cm_nisn, cm_isb, cm_inn, cm_nin, op_ad, op_sb, op_ml, op_dv, op_md, op_pw, op_sl, op_as, op_at, op_mt, op_al, bi_abs, bi_int, bi_intb, bi_ints, bi_lent, bi_lenl, bi_lenr, bi_lens, bi_listt, bi_listl, bi_tupt, bi_tupl, bi_tupr, bi_gcd, bi_max, bi_min, bi_str, bi_sum, bi_all, bi_any, tr_non, tr_bl, tr_int, tr_tup, tr_lst, ty_nt, ty_tt, ty_ti, ty_ii, ty_it, ty_is, sl_tup, sl_lst, sq_tup, sq_lst, ls_lst, th_lst, wk_tup, wk_lst, opt_some, eqV_non, es_num_num, es_num_state, es_num_const, es_num_pow, es_num_add, es_num_sub, es_num_mul, es_num_div, es_state_num, es_state_state, es_state_const, es_state_pow, es_state_add, es_state_sub, es_state_mul, es_state_div, es_const_num, es_const_state, es_const_const, es_const_pow, es_const_add, es_const_sub, es_const_mul, es_const_div, es_pow_num, es_pow_state, es_pow_const, es_pow_pow, es_pow_add, es_pow_sub, es_pow_mul, es_pow_div, es_add_num, es_add_state, es_add_const, es_add_pow, es_add_add, es_add_sub, es_add_mul, es_add_div, es_sub_num, es_sub_state, es_sub_const, es_sub_pow, es_sub_add, es_sub_sub, es_sub_mul, es_sub_div, es_mul_num, es_mul_state, es_mul_const, es_mul_pow, es_mul_add, es_mul_sub, es_mul_mul, es_mul_div, es_div_num, es_div_state, es_div_const, es_div_pow, es_div_add, es_div_sub, es_div_mul, es_div_div, ip_num, ip_state, ip_const, ip_pow, ip_add, ip_sub, ip_mul, ip_div, il_num, il_state, il_const, il_pow, il_add, il_sub, il_mul, il_div, it_num, it_state, it_const, it_pow, it_add, it_sub, it_mul, it_div, Tr.tv, Bo.nm, ih, ih2]
def Bo.fn : Bo → Nat
  | .add => n_add
  | .sub => n_sub
  | .mul => n_mul
  | .div => n_div
theorem vb_ok {o : Bo} {a b : Tr} {d : Nat} {S : Sto} {x y z : Rat} (ih : callN F (d + 3) n_value [a.tv, xv, cv] ⟨S.cells, false⟩ = .ok (fr x) ⟨S.cells, false⟩) (ih2 : callN F (d + 3) n_value [b.tv, xv, cv] ⟨S.cells, false⟩ = .ok (fr y) ⟨S.cells, false⟩)
    (h : callN F (d + 3) o.fn [fr x, fr y] ⟨S.cells, false⟩ = .ok (fr z) ⟨S.cells, false⟩) (h0 : o = .div → ¬ y.num = 0) : callN F (d + 4) n_value [(Tr.bin o a b).tv, xv, cv] S = .ok (fr z) S := by
  rw [callN_of (fd := ⟨3, 6, b_value⟩) rfl rfl]
  refine run_ret ?_ (fr_pure _)
  cases o with
  | add =>
    have h : callN F (d + 3) n_add [fr x, fr y] ⟨S.cells, false⟩ = .ok (fr z) ⟨S.cells, false⟩ := h
    simp [st_value_0, st_value_1, st_value_2, st_value_3, st_value_4, st_value_5, st_value_6, st_value_7, st_value_8, st_value_9, st_value_10, st_value_11, b_value, bd_ok, bd_exc, st_ok, st_exc, xss_cons, xss_nil, seq_next, seq_ret, seq_brk, seq_cont, seq_exc, eqV_int, xst, ev, evT, evs, evo, evc, evi, itemAt, MP.placeOf, bindT, bindTs, unslot, hold, unhold, subR, freeze, ix_tup, ix_lst, ix_r, cm_eq, cm_ne, cm_lt, cm_le, cm_gt, cm_ge, cm_isn, cm_nisn, cm_isb, cm_inn, cm_nin, op_ad, op_sb, op_ml, op_dv, op_md, op_pw, op_sl, op_as, op_at, op_mt, op_al, bi_abs, bi_int, bi_intb, bi_ints, bi_lent, bi_lenl, bi_lenr, bi_lens, bi_listt, bi_listl, bi_tupt, bi_tupl, bi_tupr, bi_gcd, bi_max, bi_min, bi_str, bi_sum, bi_all, bi_any, tr_non, tr_bl, tr_int, tr_tup, tr_lst, ty_nt, ty_tt, ty_ti, ty_ii, ty_it, ty_is, sl_tup, sl_lst, sq_tup, sq_lst, ls_lst, th_lst, wk_tup, wk_lst, opt_some, eqV_non, es_num_num, es_num_state, es_num_const, es_num_pow, es_num_add, es_num_sub, es_num_mul, es_num_div, es_state_num, es_state_state, es_state_const, es_state_pow, es_state_add, es_state_sub, es_state_mul, es_state_div, es_const_num, es_const_state, es_const_const, es_const_pow, es_const_add, es_const_sub, es_const_mul, es_const_div, es_pow_num, es_pow_state, es_pow_const, es_pow_pow, es_pow_add, es_pow_sub, es_pow_mul, es_pow_div, es_add_num, es_add_state, es_add_const, es_add_pow, es_add_add, es_add_sub, es_add_mul, es_add_div, es_sub_num, es_sub_state, es_sub_const, es_sub_pow, es_sub_add, es_sub_sub, es_sub_mul, es_sub_div, es_mul_num, es_mul_state, es_mul_const, es_mul_pow, es_mul_add, es_mul_sub, es_mul_mul, es_mul_div, es_div_num, es_div_state, es_div_const, es_div_pow, es_div_add, es_div_sub, es_div_mul, es_div_div, ip_num, ip_state, ip_const, ip_pow, ip_add, ip_sub, ip_mul, ip_div, il_num, il_state, il_const, il_pow, il_add, il_sub, il_mul, il_div, it_num, it_state, it_const, it_pow, it_add, it_sub, it_mul, it_div, Tr.tv, Bo.nm, ih, ih2, h]
  | sub =>
    have h : callN F (d + 3) n_sub [fr x, fr y] ⟨S.cells, false⟩ = .ok (fr z) ⟨S.cells, false⟩ := h
    simp [st_value_0, st_value_1, st_value_2, st_value_3, st_value_4, st_value_5, st_value_6, st_value_7, st_value_8, st_value_9, st_value_10, st_value_11, b_value, bd_ok, bd_exc, st_ok, st_exc, xss_cons, xss_nil, seq_next, seq_ret, seq_brk, seq_cont, seq_exc, eqV_int, xst, ev, evT, evs, evo, evc, evi, itemAt, MP.placeOf, bindT, bindTs, unslot, hold, unhold, subR, freeze, ix_tup, ix_lst, ix_r, cm_eq, cm_ne, cm_lt, cm_le, cm_gt, cm_ge, cm_isn, cm_nisn, cm_isb, cm_inn, cm_nin, op_ad, op_sb, op_ml, op_dv, op_md, op_pw, op_sl, op_as, op_at, op_mt, op_al, bi_abs, bi_int, bi_intb, bi_ints, bi_lent, bi_lenl, bi_lenr, bi_lens, bi_listt, bi_listl, bi_tupt, bi_tupl, bi_tupr, bi_gcd, bi_max, bi_min, bi_str, bi_sum, bi_all, bi_any, tr_non, tr_bl, tr_int, tr_tup, tr_lst, ty_nt, ty_tt, ty_ti, ty_ii, ty_it, ty_is, sl_tup, sl_lst, sq_tup, sq_lst, ls_lst, th_lst, wk_tup, wk_lst, opt_some, eqV_non, es_num_num, es_num_state, es_num_const, es_num_pow, es_num_add, es_num_sub, es_num_mul, es_num_div, es_state_num, es_state_state, es_state_const, es_state_pow, es_state_add, es_state_sub, es_state_mul, es_state_div, es_const_num, es_const_state, es_const_const, es_const_pow, es_const_add, es_const_sub, es_const_mul, es_const_div, es_pow_num, es_pow_state, es_pow_const, es_pow_pow, es_pow_add, es_pow_sub, es_pow_mul, es_pow_div, es_add_num, es_add_state, es_add_const, es_add_pow, es_add_add, es_add_sub, es_add_mul, es_add_div, es_sub_num, es_sub_state, es_sub_const, es_sub_pow, es_sub_add, es_sub_sub, es_sub_mul, es_sub_div, es_mul_num, es_mul_state, es_mul_const, es_mul_pow, es_mul_add, es_mul_sub, es_mul_mul, es_mul_div, es_div_num, es_div_state, es_div_const, es_div_pow, es_div_add, es_div_sub, es_div_mul, es_div_div, ip_num, ip_state, ip_const, ip_pow, ip_add, ip_sub, ip_mul, ip_div, il_num, il_state, il_const, il_pow, il_add, il_sub, il_mul, il_div, it_num, it_state, it_const, it_pow, it_add, it_sub, it_mul, it_div, Tr.tv, Bo.nm, ih, ih2, h]
  | mul =>
    have h : callN F (d + 3) n_mul [fr x, fr y] ⟨S.cells, false⟩ = .ok (fr z) ⟨S.cells, false⟩ := h
    simp [st_value_0, st_value_1, st_value_2, st_value_3, st_value_4, st_value_5, st_value_6, st_value_7, st_value_8, st_value_9, st_value_10, st_value_11, b_value, bd_ok, bd_exc, st_ok, st_exc, xss_cons, xss_nil, seq_next, seq_ret, seq_brk, seq_cont, seq_exc, eqV_int, xst, ev, evT, evs, evo, evc, evi, itemAt, MP.placeOf, bindT, bindTs, unslot, hold, unhold, subR, freeze, ix_tup, ix_lst, ix_r, cm_eq, cm_ne, cm_lt, cm_le, cm_gt, cm_ge, cm_isn, cm_nisn, cm_isb, cm_inn, cm_nin, op_ad, op_sb, op_ml, op_dv, op_md, op_pw, op_sl, op_as, op_at, op_mt, op_al, bi_abs, bi_int, bi_intb, bi_ints, bi_lent, bi_lenl, bi_lenr, bi_lens, bi_listt, bi_listl, bi_tupt, bi_tupl, bi_tupr, bi_gcd, bi_max, bi_min, bi_str, bi_sum, bi_all, bi_any, tr_non, tr_bl, tr_int, tr_tup, tr_lst, ty_nt, ty_tt, ty_ti, ty_ii, ty_it, ty_is, sl_tup, sl_lst, sq_tup, sq_lst, ls_lst, th_lst, wk_tup, wk_lst, opt_some, eqV_non, es_num_num, es_num_state, es_num_const, es_num_pow, es_num_add, es_num_sub, es_num_mul, es_num_div, es_state_num, es_state_state, es_state_const, es_state_pow, es_state_add, es_state_sub, es_state_mul, es_state_div, es_const_num, es_const_state, es_const_const, es_const_pow, es_const_add, es_const_sub, es_const_mul, es_const_div, es_pow_num, es_pow_state, es_pow_const, es_pow_pow, es_pow_add, es_pow_sub, es_pow_mul, es_pow_div, es_add_num, es_add_state, es_add_const, es_add_pow, es_add_add, es_add_sub, es_add_mul, es_add_div, es_sub_num, es_sub_state, es_sub_const, es_sub_pow, es_sub_add, es_sub_sub, es_sub_mul, es_sub_div, es_mul_num, es_mul_state, es_mul_const, es_mul_pow, es_mul_add, es_mul_sub, es_mul_mul, es_mul_div, es_div_num, es_div_state, es_div_const, es_div_pow, es_div_add, es_div_sub, es_div_mul, es_div_div, ip_num, ip_state, ip_const, ip_pow, ip_add, ip_sub, ip_mul, ip_div, il_num, il_state, il_const, il_pow, il_add, il_sub, il_mul, il_div, it_num, it_state, it_const, it_pow, it_add, it_sub, it_mul, it_div, Tr.tv, Bo.nm, ih, ih2, h]
  | div =>
    have h : callN F (d + 3) n_div [fr x, fr y] ⟨S.cells, false⟩ = .ok (fr z) ⟨S.cells, false⟩ := h
    have hn := h0 rfl
    unfold fr at ih ih2 h
    unfold fr
    simp [st_value_0, st_value_1, st_value_2, st_value_3, st_value_4, st_value_5, st_value_6, st_value_7, st_value_8, st_value_9, st_value_10, st_value_11, b_value, bd_ok, bd_exc, st_ok, st_exc, xss_cons, xss_nil, seq_next, seq_ret, seq_brk, seq_cont, seq_exc, eqV_int, xst, ev, evT, evs, evo, evc, evi, itemAt, MP.placeOf, bindT, bindTs, unslot, hold, unhold, subR, freeze, ix_tup, ix_lst, ix_r, cm_eq, cm_ne, cm_lt, cm_le, cm_gt, cm_ge, cm_isn, cm_nisn, cm_isb, cm_inn, cm_nin, op_ad, op_sb, op_ml, op_dv, op_md, op_pw, op_sl, op_as, op_at, op_mt, op_al, bi_abs, bi_int, bi_intb, bi_ints, bi_lent, bi_lenl, bi_lenr, bi_lens, bi_listt, bi_listl, bi_tupt, bi_tupl, bi_tupr, bi_gcd, bi_max, bi_min, bi_str, bi_sum, bi_all, bi_any, tr_non, tr_bl, tr_int, tr_tup, tr_lst, ty_nt, ty_tt, ty_ti, ty_ii, ty_it, ty_is, sl_tup, sl_lst, sq_tup, sq_lst, ls_lst, th_lst, wk_tup, wk_lst, opt_some, eqV_non, es_num_num, es_num_state, es_num_const, es_num_pow, es_num_add, es_num_sub, es_num_mul, es_num_div, es_state_num, es_state_state, es_state_const, es_state_pow, es_state_add, es_state_sub, es_state_mul, es_state_div, es_const_num, es_const_state, es_const_const, es_const_pow, es_const_add, es_const_sub, es_const_mul, es_const_div, es_pow_num, es_pow_state, es_pow_const, es_pow_pow, es_pow_add, es_pow_sub, es_pow_mul, es_pow_div, es_add_num, es_add_state, es_add_const, es_add_pow, es_add_add, es_add_sub, es_add_mul, es_add_div, es_sub_num, es_sub_state, es_sub_const, es_sub_pow, es_sub_add, es_sub_sub, es_sub_mul, es_sub_div, es_mul_num, es_mul_state, es_mul_const, es_mul_pow, es_mul_add, es_mul_sub, es_mul_mul, es_mul_div, es_div_num, es_div_state, es_div_const, es_div_pow, es_div_add, es_div_sub, es_div_mul, es_div_div, ip_num, ip_state, ip_const, ip_pow, ip_add, ip_sub, ip_mul, ip_div, il_num, il_state, il_const, il_pow, il_add, il_sub, il_mul, il_div, it_num, it_state, it_const, it_pow, it_add, it_sub, it_mul, it_div, Tr.tv, Bo.nm, ih, ih2, h, hn]
theorem vb_zero {a b : Tr} {d : Nat} {S : Sto} {x : Rat} (ih : callN F (d + 3) n_value [a.tv, xv, cv] ⟨S.cells, false⟩ = .ok (fr x) ⟨S.cells, false⟩) (ih2 : callN F (d + 3) n_value [b.tv, xv, cv] ⟨S.cells, false⟩ = .ok (.tup [.int 0, .int 1]) ⟨S.cells, false⟩) : callN F (d + 4) n_value [(Tr.bin .div a b).tv, xv, cv] S = .exc x_Hole [] S := by
  rw [callN_of (fd := ⟨3, 6, b_value⟩) rfl rfl]
  refine run_exc (σ := [some (Tr.bin .div a b).tv, some xv, some cv, some (.str "div"), some (fr x), some (.tup [.int 0, .int 1])]) ?_ rfl
  simp [st_value_0, st_value_1, st_value_2, st_value_3, st_value_4, st_value_5, st_value_6, st_value_7, st_value_8, st_value_9, st_value_10, st_value_11, b_value, bd_ok, bd_exc, st_ok, st_exc, xss_cons, xss_nil, seq_next, seq_ret, seq_brk, seq_cont, seq_exc, eqV_int, xst, ev, evT, evs, evo, evc, evi, itemAt, MP.placeOf, bindT, bindTs, unslot, hold, unhold, subR, freeze, ix_tup, ix_lst, ix_r, cm_eq, cm_ne, cm_lt, cm_le, cm_gt, cm_ge, cm_isn, cm_nisn, cm_isb, cm_inn, cm_nin, op_ad, op_sb, op_ml, op_dv, op_md, op_pw, op_sl, op_as, op_at, op_mt, op_al, bi_abs, bi_int, bi_intb, bi_ints, bi_lent, bi_lenl, bi_lenr, bi_lens, bi_listt, bi_listl, bi_tupt, bi_tupl, bi_tupr, bi_gcd, bi_max, bi_min, bi_str, bi_sum, bi_all, bi_any, tr_non, tr_bl, tr_int, tr_tup, tr_lst, ty_nt, ty_tt, ty_ti, ty_ii, ty_it, ty_is, sl_tup, sl_lst, sq_tup, sq_lst, ls_lst, th_lst, wk_tup, wk_lst, opt_some, eqV_non, es_num_num, es_num_state, es_num_const, es_num_pow, es_num_add, es_num_sub, es_num_mul, es_num_div, es_state_num, es_state_state, es_state_const, es_state_pow, es_state_add, es_state_sub, es_state_mul, es_state_div, es_const_num, es_const_state, es_const_const, es_const_pow, es_const_add, es_const_sub, es_const_mul, es_const_div, es_pow_num, es_pow_state, es_pow_const, es_pow_pow, es_pow_add, es_pow_sub, es_pow_mul, es_pow_div, es_add_num, es_add_state, es_add_const, es_add_pow, es_add_add, es_add_sub, es_add_mul, es_add_div, es_sub_num, es_sub_state, es_sub_const, es_sub_pow, es_sub_add, es_sub_sub, es_sub_mul, es_sub_div, es_mul_num, es_mul_state, es_mul_const, es_mul_pow, es_mul_add, es_mul_sub, es_mul_mul, es_mul_div, es_div_num, es_div_state, es_div_const, es_div_pow, es_div_add, es_div_sub, es_div_mul, es_div_div, ip_num, ip_state, ip_const, ip_pow, ip_add, ip_sub, ip_mul, ip_div, il_num, il_state, il_const, il_pow, il_add, il_sub, il_mul, il_div, it_num, it_state, it_const, it_pow, it_add, it_sub, it_mul, it_div, Tr.tv, Bo.nm, ih, ih2]
theorem v_bin {o : Bo} {a b : Tr} {d : Nat} (ih : ValOk X C xv cv a (d + 3)) (ih2 : ValOk X C xv cv b (d + 3))
    (ho : ∀ x y z S, vl X C a = some x → vl X C b = some y → o.op x y = some z → callN F (d + 3) o.fn [fr x, fr y] S = .ok (fr z) S) : ValOk X C xv cv (.bin o a b) (d + 4) := by
  intro S
  have ih := ih ⟨S.cells, false⟩
  have ih2 := ih2 ⟨S.cells, false⟩
  rw [vl_bin]
  cases h1 : vl X C a with
  | none =>
    rw [h1] at ih
    exact vb_none ih
  | some x =>
    rw [h1] at ih
    cases h2 : vl X C b with
    | none =>
      rw [h2] at ih2
      exact vb_none2 ih ih2
    | some y =>
      rw [h2] at ih2
      rw [Option.bind_some, Option.bind_some]
      cases h3 : o.op x y with
      | some z =>
        refine vb_ok ih ih2 (ho x y z _ h1 h2 h3) fun e => ?_
        subst e
        have h3 : (if y = 0 then none else some (x / y)) = some z := h3
        intro hz
        rw [if_pos (Rat.num_eq_zero.mp hz)] at h3
        cases h3
      | none =>
        have e : o = .div ∧ y = 0 := by
          cases o with
          | div =>
            have h3 : (if y = 0 then none else some (x / y)) = none := h3
            by_cases hy : y = 0
            · exact ⟨rfl, hy⟩
            · rw [if_neg hy] at h3
              cases h3
          | _ => cases h3
        obtain ⟨rfl, rfl⟩ := e
        exact vb_zero ih (by rw [fr_zero]; exact ih2)
theorem r_value (hL : L + 728 ≤ 134217728) (hm : m ≤ 1000) (hX : ∀ i, i < n → szq k (X i)) (hC : ∀ i, i < c → szq k (C i)) (ix : ∀ i S, i < n → ixV S xv (.int (i : Nat)) = some (fr (X i))) (ic : ∀ i S, i < c → ixV S cv (.int (i : Nat)) = some (fr (C i))) :
    ∀ (t : Tr) (e : Nat), t.ht + 4 ≤ e → t.okT k n c m → bt k t ≤ L → ValOk X C xv cv t e := by
  intro t
  induction t with
  | num q =>
    intro e he ok hb
    obtain ⟨d, rfl⟩ : ∃ d, e = d + 1 := ⟨e - 1, by omega⟩
    exact v_num
  | st i =>
    intro e he ok hb
    obtain ⟨d, rfl⟩ : ∃ d, e = d + 1 := ⟨e - 1, by omega⟩
    exact v_st fun S => ix i S ok
  | cn i =>
    intro e he ok hb
    obtain ⟨d, rfl⟩ : ∃ d, e = d + 1 := ⟨e - 1, by omega⟩
    exact v_cn fun S => ic i S ok
  | pw t e0 iht =>
    intro e he ok hb
    obtain ⟨d, rfl⟩ : ∃ d, e = d + 4 := ⟨e - 4, by omega⟩
    have hh : (Tr.pw t e0).ht = t.ht + 1 := rfl
    have hbt : bt k (.pw t e0) = bt k t * (e0 + 1) + 2 := rfl
    have l1 : bt k t ≤ bt k t * (e0 + 1) := Nat.le_mul_of_pos_right _ (by omega)
    have l2 : bt k t * e0 + bt k t = bt k t * (e0 + 1) := (Nat.mul_succ _ _).symm
    have hm2 : e0 < m := ok.2
    refine v_pw (iht (d + 3) (by omega) ok.1 (by omega)) fun q S h => ?_
    exact r_power (d := d) (vl_sz hX hC ok.1 h) (n := e0) (by omega) (by omega)
  | bin o a b iha ihb =>
    intro e he ok hb
    obtain ⟨d, rfl⟩ : ∃ d, e = d + 4 := ⟨e - 4, by omega⟩
    have hh : (Tr.bin o a b).ht = max a.ht b.ht + 1 := rfl
    have hbt : bt k (.bin o a b) = bt k a + bt k b + 2 := rfl
    have l : bt k a + bt k b + 2 ≤ 134217728 := by omega
    refine v_bin (iha (d + 3) (by omega) ok.1 (by omega)) (ihb (d + 3) (by omega) ok.2 (by omega)) fun x y z S h1 h2 h3 => ?_
    have z1 := vl_sz hX hC ok.1 h1
    have z2 := vl_sz hX hC ok.2 h2
    cases o with
    | add => cases h3; exact r_add (d := d + 1) z1 z2 l
    | sub => cases h3; exact r_sub (d := d) z1 z2 l
    | mul => cases h3; exact r_mul (d := d + 1) z1 z2 l
    | div =>
      have h3 : (if y = 0 then none else some (x / y)) = some z := h3
      by_cases hy : y = 0
      · rw [if_pos hy] at h3
        cases h3
      · rw [if_neg hy] at h3
        cases h3
        exact r_div (d := d + 1) z1 z2 hy l
end
end K04
end
section
set_option Elab.async false
set_option linter.all false
set_option maxRecDepth 100000
set_option maxHeartbeats 1000000
namespace K04
open PySem MP
section
variable {d : Nat} {S : Sto} {x y z u v w : PV} {i j : Int} {p q r : Bool}
/-! ### size -/
theorem z_leaf {s : Str} (h : s = "num" ∨ s = "state" ∨ s = "const") : callN F (d + 1) n_size [.tup [.str s, x]] S = .ok (.int 1) S := by
  rw [callN_of (fd := ⟨1, 1, b_size⟩) rfl rfl]
  refine run_ret ?_ rfl
  rcases h with rfl | rfl | rfl <;> simp [st_size_0, st_size_1, b_size, bd_ok, bd_exc, st_ok, st_exc, xss_cons, xss_nil, seq_next, seq_ret, seq_brk, seq_cont, seq_exc, eqV_int, xst, ev, evT, evs, evo, evc, evi, itemAt, MP.placeOf, bindT, bindTs, unslot, hold, unhold, subR, freeze, ix_tup, ix_lst, ix_r, cm_eq, cm_ne, cm_lt, cm_le, cm_gt, cm_ge, cm_isn, cm_nisn, cm_isb, cm_inn, cm_nin, op_ad, op_sb, op_ml, op_dv, op_md, op_pw, op_sl, op_as, op_at, op_mt, op_al, bi_abs, bi_int, bi_intb, bi_ints, bi_lent, bi_lenl, bi_lenr, bi_lens, bi_listt, bi_listl, bi_tupt, bi_tupl, bi_tupr, bi_gcd, bi_max, bi_min, bi_str, bi_sum, bi_all, bi_any, tr_non, tr_bl, tr_int, tr_tup, tr_lst, ty_nt, ty_tt, ty_ti, ty_ii, ty_it, ty_is, sl_tup, sl_lst, sq_tup, sq_lst, ls_lst, th_lst, wk_tup, wk_lst, opt_some, eqV_non, es_num_num, es_num_state, es_num_const, es_num_pow, es_num_add, es_num_sub, es_num_mul, es_num_div, es_state_num, es_state_state, es_state_const, es_state_pow, es_state_add, es_state_sub, es_state_mul, es_state_div, es_const_num, es_const_state, es_const_const, es_const_pow, es_const_add, es_const_sub, es_const_mul, es_const_div, es_pow_num, es_pow_state, es_pow_const, es_pow_pow, es_pow_add, es_pow_sub, es_pow_mul, es_pow_div, es_add_num, es_add_state, es_add_const, es_add_pow, es_add_add, es_add_sub, es_add_mul, es_add_div, es_sub_num, es_sub_state, es_sub_const, es_sub_pow, es_sub_add, es_sub_sub, es_sub_mul, es_sub_div, es_mul_num, es_mul_state, es_mul_const, es_mul_pow, es_mul_add, es_mul_sub, es_mul_mul, es_mul_div, es_div_num, es_div_state, es_div_const, es_div_pow, es_div_add, es_div_sub, es_div_mul, es_div_div, ip_num, ip_state, ip_const, ip_pow, ip_add, ip_sub, ip_mul, ip_div, il_num, il_state, il_const, il_pow, il_add, il_sub, il_mul, il_div, it_num, it_state, it_const, it_pow, it_add, it_sub, it_mul, it_div]
theorem z_pow (h : callN F d n_size [x] ⟨S.cells, false⟩ = .ok (.int i) ⟨S.cells, false⟩) : callN F (d + 1) n_size [.tup [.str "pow", x, y]] S = .ok (.int (1 + i)) S := by
  rw [callN_of (fd := ⟨1, 1, b_size⟩) rfl rfl]
  refine run_ret ?_ rfl
  simp [st_size_0, st_size_1, b_size, bd_ok, bd_exc, st_ok, st_exc, xss_cons, xss_nil, seq_next, seq_ret, seq_brk, seq_cont, seq_exc, eqV_int, xst, ev, evT, evs, evo, evc, evi, itemAt, MP.placeOf, bindT, bindTs, unslot, hold, unhold, subR, freeze, ix_tup, ix_lst, ix_r, cm_eq, cm_ne, cm_lt, cm_le, cm_gt, cm_ge, cm_isn, cm_nisn, cm_isb, cm_inn, cm_nin, op_ad, op_sb, op_ml, op_dv, op_md, op_pw, op_sl, op_as, op_at, op_mt, op_al, bi_abs, bi_int, bi_intb, bi_ints, bi_lent, bi_lenl, bi_lenr, bi_lens, bi_listt, bi_listl, bi_tupt, bi_tupl, bi_tupr, bi_gcd, bi_max, bi_min, bi_str, bi_sum, bi_all, bi_any, tr_non, tr_bl, tr_int, tr_tup, tr_lst, ty_nt, ty_tt, ty_ti, ty_ii, ty_it, ty_is, sl_tup, sl_lst, sq_tup, sq_lst, ls_lst, th_lst, wk_tup, wk_lst, opt_some, eqV_non, es_num_num, es_num_state, es_num_const, es_num_pow, es_num_add, es_num_sub, es_num_mul, es_num_div, es_state_num, es_state_state, es_state_const, es_state_pow, es_state_add, es_state_sub, es_state_mul, es_state_div, es_const_num, es_const_state, es_const_const, es_const_pow, es_const_add, es_const_sub, es_const_mul, es_const_div, es_pow_num, es_pow_state, es_pow_const, es_pow_pow, es_pow_add, es_pow_sub, es_pow_mul, es_pow_div, es_add_num, es_add_state, es_add_const, es_add_pow, es_add_add, es_add_sub, es_add_mul, es_add_div, es_sub_num, es_sub_state, es_sub_const, es_sub_pow, es_sub_add, es_sub_sub, es_sub_mul, es_sub_div, es_mul_num, es_mul_state, es_mul_const, es_mul_pow, es_mul_add, es_mul_sub, es_mul_mul, es_mul_div, es_div_num, es_div_state, es_div_const, es_div_pow, es_div_add, es_div_sub, es_div_mul, es_div_div, ip_num, ip_state, ip_const, ip_pow, ip_add, ip_sub, ip_mul, ip_div, il_num, il_state, il_const, il_pow, il_add, il_sub, il_mul, il_div, it_num, it_state, it_const, it_pow, it_add, it_sub, it_mul, it_div, h]
theorem z_bin {o : Bo} (h : callN F d n_size [x] ⟨S.cells, false⟩ = .ok (.int i) ⟨S.cells, false⟩) (h2 : callN F d n_size [y] ⟨S.cells, false⟩ = .ok (.int j) ⟨S.cells, false⟩) : callN F (d + 1) n_size [.tup [.str o.nm, x, y]] S = .ok (.int (1 + i + j)) S := by
  rw [callN_of (fd := ⟨1, 1, b_size⟩) rfl rfl]
  refine run_ret ?_ rfl
  cases o <;> simp [st_size_0, st_size_1, b_size, bd_ok, bd_exc, st_ok, st_exc, xss_cons, xss_nil, seq_next, seq_ret, seq_brk, seq_cont, seq_exc, eqV_int, xst, ev, evT, evs, evo, evc, evi, itemAt, MP.placeOf, bindT, bindTs, unslot, hold, unhold, subR, freeze, ix_tup, ix_lst, ix_r, cm_eq, cm_ne, cm_lt, cm_le, cm_gt, cm_ge, cm_isn, cm_nisn, cm_isb, cm_inn, cm_nin, op_ad, op_sb, op_ml, op_dv, op_md, op_pw, op_sl, op_as, op_at, op_mt, op_al, bi_abs, bi_int, bi_intb, bi_ints, bi_lent, bi_lenl, bi_lenr, bi_lens, bi_listt, bi_listl, bi_tupt, bi_tupl, bi_tupr, bi_gcd, bi_max, bi_min, bi_str, bi_sum, bi_all, bi_any, tr_non, tr_bl, tr_int, tr_tup, tr_lst, ty_nt, ty_tt, ty_ti, ty_ii, ty_it, ty_is, sl_tup, sl_lst, sq_tup, sq_lst, ls_lst, th_lst, wk_tup, wk_lst, opt_some, eqV_non, es_num_num, es_num_state, es_num_const, es_num_pow, es_num_add, es_num_sub, es_num_mul, es_num_div, es_state_num, es_state_state, es_state_const, es_state_pow, es_state_add, es_state_sub, es_state_mul, es_state_div, es_const_num, es_const_state, es_const_const, es_const_pow, es_const_add, es_const_sub, es_const_mul, es_const_div, es_pow_num, es_pow_state, es_pow_const, es_pow_pow, es_pow_add, es_pow_sub, es_pow_mul, es_pow_div, es_add_num, es_add_state, es_add_const, es_add_pow, es_add_add, es_add_sub, es_add_mul, es_add_div, es_sub_num, es_sub_state, es_sub_const, es_sub_pow, es_sub_add, es_sub_sub, es_sub_mul, es_sub_div, es_mul_num, es_mul_state, es_mul_const, es_mul_pow, es_mul_add, es_mul_sub, es_mul_mul, es_mul_div, es_div_num, es_div_state, es_div_const, es_div_pow, es_div_add, es_div_sub, es_div_mul, es_div_div, ip_num, ip_state, ip_const, ip_pow, ip_add, ip_sub, ip_mul, ip_div, il_num, il_state, il_const, il_pow, il_add, il_sub, il_mul, il_div, it_num, it_state, it_const, it_pow, it_add, it_sub, it_mul, it_div, Bo.nm, h, h2]
def sizeT : Tr → Int
  | .pw t _ => 1 + sizeT t
  | .bin _ a b => 1 + sizeT a + sizeT b
  | _ => 1
theorem r_size : ∀ (t : Tr) (e : Nat) (S : Sto), t.ht + 1 ≤ e → callN F e n_size [t.tv] S = .ok (.int (sizeT t)) S := by
  intro t
  induction t with
  | num q => intro e S he; obtain ⟨d, rfl⟩ : ∃ d, e = d + 1 := ⟨e - 1, by omega⟩; exact z_leaf (.inl rfl)
  | st q => intro e S he; obtain ⟨d, rfl⟩ : ∃ d, e = d + 1 := ⟨e - 1, by omega⟩; exact z_leaf (.inr (.inl rfl))
  | cn q => intro e S he; obtain ⟨d, rfl⟩ : ∃ d, e = d + 1 := ⟨e - 1, by omega⟩; exact z_leaf (.inr (.inr rfl))
  | pw t m ih =>
    intro e S he
    have hh : (Tr.pw t m).ht = t.ht + 1 := rfl
    obtain ⟨d, rfl⟩ : ∃ d, e = d + 1 := ⟨e - 1, by omega⟩
    exact z_pow (ih d _ (by omega))
  | bin o a b iha ihb =>
    intro e S he
    have hh : (Tr.bin o a b).ht = max a.ht b.ht + 1 := rfl
    obtain ⟨d, rfl⟩ : ∃ d, e = d + 1 := ⟨e - 1, by omega⟩
    exact z_bin (iha d _ (by omega)) (ihb d _ (by omega))
/-! ### fits -/
theorem f_num : callN F (d + 1) n_fits [.tup [.str "num", x], u, v] S = .ok (.bl true) S := by
  rw [callN_of (fd := ⟨3, 4, b_fits⟩) rfl rfl]
  refine run_ret ?_ rfl
  simp [st_fits_0, st_fits_1, st_fits_2, st_fits_3, st_fits_4, st_fits_5, b_fits, bd_ok, bd_exc, st_ok, st_exc, xss_cons, xss_nil, seq_next, seq_ret, seq_brk, seq_cont, seq_exc, eqV_int, xst, ev, evT, evs, evo, evc, evi, itemAt, MP.placeOf, bindT, bindTs, unslot, hold, unhold, subR, freeze, ix_tup, ix_lst, ix_r, cm_eq, cm_ne, cm_lt, cm_le, cm_gt, cm_ge, cm_isn, cm_nisn, cm_isb, cm_inn, cm_nin, op_ad, op_sb, op_ml, op_dv, op_md, op_pw, op_sl, op_as, op_at, op_mt, op_al, bi_abs, bi_int, bi_intb, bi_ints, bi_lent, bi_lenl, bi_lenr, bi_lens, bi_listt, bi_listl, bi_tupt, bi_tupl, bi_tupr, bi_gcd, bi_max, bi_min, bi_str, bi_sum, bi_all, bi_any, tr_non, tr_bl, tr_int, tr_tup, tr_lst, ty_nt, ty_tt, ty_ti, ty_ii, ty_it, ty_is, sl_tup, sl_lst, sq_tup, sq_lst, ls_lst, th_lst, wk_tup, wk_lst, opt_some, eqV_non, es_num_num, es_num_state, es_num_const, es_num_pow, es_num_add, es_num_sub, es_num_mul, es_num_div, es_state_num, es_state_state, es_state_const, es_state_pow, es_state_add, es_state_sub, es_state_mul, es_state_div, es_const_num, es_const_state, es_const_const, es_const_pow, es_const_add, es_const_sub, es_const_mul, es_const_div, es_pow_num, es_pow_state, es_pow_const, es_pow_pow, es_pow_add, es_pow_sub, es_pow_mul, es_pow_div, es_add_num, es_add_state, es_add_const, es_add_pow, es_add_add, es_add_sub, es_add_mul, es_add_div, es_sub_num, es_sub_state, es_sub_const, es_sub_pow, es_sub_add, es_sub_sub, es_sub_mul, es_sub_div, es_mul_num, es_mul_state, es_mul_const, es_mul_pow, es_mul_add, es_mul_sub, es_mul_mul, es_mul_div, es_div_num, es_div_state, es_div_const, es_div_pow, es_div_add, es_div_sub, es_div_mul, es_div_div, ip_num, ip_state, ip_const, ip_pow, ip_add, ip_sub, ip_mul, ip_div, il_num, il_state, il_const, il_pow, il_add, il_sub, il_mul, il_div, it_num, it_state, it_const, it_pow, it_add, it_sub, it_mul, it_div]
theorem f_st {n : Int} : callN F (d + 1) n_fits [.tup [.str "state", .int i], .int n, v] S = .ok (.bl (decide (0 ≤ i) && decide (i < n))) S := by
  rw [callN_of (fd := ⟨3, 4, b_fits⟩) rfl rfl]
  refine run_ret ?_ rfl
  by_cases h : 0 ≤ i
  · simp [st_fits_0, st_fits_1, st_fits_2, st_fits_3, st_fits_4, st_fits_5, b_fits, bd_ok, bd_exc, st_ok, st_exc, xss_cons, xss_nil, seq_next, seq_ret, seq_brk, seq_cont, seq_exc, eqV_int, xst, ev, evT, evs, evo, evc, evi, itemAt, MP.placeOf, bindT, bindTs, unslot, hold, unhold, subR, freeze, ix_tup, ix_lst, ix_r, cm_eq, cm_ne, cm_lt, cm_le, cm_gt, cm_ge, cm_isn, cm_nisn, cm_isb, cm_inn, cm_nin, op_ad, op_sb, op_ml, op_dv, op_md, op_pw, op_sl, op_as, op_at, op_mt, op_al, bi_abs, bi_int, bi_intb, bi_ints, bi_lent, bi_lenl, bi_lenr, bi_lens, bi_listt, bi_listl, bi_tupt, bi_tupl, bi_tupr, bi_gcd, bi_max, bi_min, bi_str, bi_sum, bi_all, bi_any, tr_non, tr_bl, tr_int, tr_tup, tr_lst, ty_nt, ty_tt, ty_ti, ty_ii, ty_it, ty_is, sl_tup, sl_lst, sq_tup, sq_lst, ls_lst, th_lst, wk_tup, wk_lst, opt_some, eqV_non, es_num_num, es_num_state, es_num_const, es_num_pow, es_num_add, es_num_sub, es_num_mul, es_num_div, es_state_num, es_state_state, es_state_const, es_state_pow, es_state_add, es_state_sub, es_state_mul, es_state_div, es_const_num, es_const_state, es_const_const, es_const_pow, es_const_add, es_const_sub, es_const_mul, es_const_div, es_pow_num, es_pow_state, es_pow_const, es_pow_pow, es_pow_add, es_pow_sub, es_pow_mul, es_pow_div, es_add_num, es_add_state, es_add_const, es_add_pow, es_add_add, es_add_sub, es_add_mul, es_add_div, es_sub_num, es_sub_state, es_sub_const, es_sub_pow, es_sub_add, es_sub_sub, es_sub_mul, es_sub_div, es_mul_num, es_mul_state, es_mul_const, es_mul_pow, es_mul_add, es_mul_sub, es_mul_mul, es_mul_div, es_div_num, es_div_state, es_div_const, es_div_pow, es_div_add, es_div_sub, es_div_mul, es_div_div, ip_num, ip_state, ip_const, ip_pow, ip_add, ip_sub, ip_mul, ip_div, il_num, il_state, il_const, il_pow, il_add, il_sub, il_mul, il_div, it_num, it_state, it_const, it_pow, it_add, it_sub, it_mul, it_div, h]
  · simp [st_fits_0, st_fits_1, st_fits_2, st_fits_3, st_fits_4, st_fits_5, b_fits, bd_ok, bd_exc, st_ok, st_exc, xss_cons, xss_nil, seq_next, seq_ret, seq_brk, seq_cont, seq_exc, eqV_int, xst, ev, evT, evs, evo, evc, evi, itemAt, MP.placeOf, bindT, bindTs, unslot, hold, unhold, subR, freeze, ix_tup, ix_lst, ix_r, cm_eq, cm_ne, cm_lt, cm_le, cm_gt, cm_ge, cm_isn, cm_nisn, cm_isb, cm_inn, cm_nin, op_ad, op_sb, op_ml, op_dv, op_md, op_pw, op_sl, op_as, op_at, op_mt, op_al, bi_abs, bi_int, bi_intb, bi_ints, bi_lent, bi_lenl, bi_lenr, bi_lens, bi_listt, bi_listl, bi_tupt, bi_tupl, bi_tupr, bi_gcd, bi_max, bi_min, bi_str, bi_sum, bi_all, bi_any, tr_non, tr_bl, tr_int, tr_tup, tr_lst, ty_nt, ty_tt, ty_ti, ty_ii, ty_it, ty_is, sl_tup, sl_lst, sq_tup, sq_lst, ls_lst, th_lst, wk_tup, wk_lst, opt_some, eqV_non, es_num_num, es_num_state, es_num_const, es_num_pow, es_num_add, es_num_sub, es_num_mul, es_num_div, es_state_num, es_state_state, es_state_const, es_state_pow, es_state_add, es_state_sub, es_state_mul, es_state_div, es_const_num, es_const_state, es_const_const, es_const_pow, es_const_add, es_const_sub, es_const_mul, es_const_div, es_pow_num, es_pow_state, es_pow_const, es_pow_pow, es_pow_add, es_pow_sub, es_pow_mul, es_pow_div, es_add_num, es_add_state, es_add_const, es_add_pow, es_add_add, es_add_sub, es_add_mul, es_add_div, es_sub_num, es_sub_state, es_sub_const, es_sub_pow, es_sub_add, es_sub_sub, es_sub_mul, es_sub_div, es_mul_num, es_mul_state, es_mul_const, es_mul_pow, es_mul_add, es_mul_sub, es_mul_mul, es_mul_div, es_div_num, es_div_state, es_div_const, es_div_pow, es_div_add, es_div_sub, es_div_mul, es_div_div, ip_num, ip_state, ip_const, ip_pow, ip_add, ip_sub, ip_mul, ip_div, il_num, il_state, il_const, il_pow, il_add, il_sub, il_mul, il_div, it_num, it_state, it_const, it_pow, it_add, it_sub, it_mul, it_div, h]
theorem f_cn {n : Int} : callN F (d + 1) n_fits [.tup [.str "const", .int i], u, .int n] S = .ok (.bl (decide (0 ≤ i) && decide (i < n))) S := by
  rw [callN_of (fd := ⟨3, 4, b_fits⟩) rfl rfl]
  refine run_ret ?_ rfl
  by_cases h : 0 ≤ i
  · simp [st_fits_0, st_fits_1, st_fits_2, st_fits_3, st_fits_4, st_fits_5, b_fits, bd_ok, bd_exc, st_ok, st_exc, xss_cons, xss_nil, seq_next, seq_ret, seq_brk, seq_cont, seq_exc, eqV_int, xst, ev, evT, evs, evo, evc, evi, itemAt, MP.placeOf, bindT, bindTs, unslot, hold, unhold, subR, freeze, ix_tup, ix_lst, ix_r, cm_eq, cm_ne, cm_lt, cm_le, cm_gt, cm_ge, cm_isn, cm_nisn, cm_isb, cm_inn, cm_nin, op_ad, op_sb, op_ml, op_dv, op_md, op_pw, op_sl, op_as, op_at, op_mt, op_al, bi_abs, bi_int, bi_intb, bi_ints, bi_lent, bi_lenl, bi_lenr, bi_lens, bi_listt, bi_listl, bi_tupt, bi_tupl, bi_tupr, bi_gcd, bi_max, bi_min, bi_str, bi_sum, bi_all, bi_any, tr_non, tr_bl, tr_int, tr_tup, tr_lst, ty_nt, ty_tt, ty_ti, ty_ii, ty_it, ty_is, sl_tup, sl_lst, sq_tup, sq_lst, ls_lst, th_lst, wk_tup, wk_lst, opt_some, eqV_non, es_num_num, es_num_state, es_num_const, es_num_pow, es_num_add, es_num_sub, es_num_mul, es_num_div, es_state_num, es_state_state, es_state_const, es_state_pow, es_state_add, es_state_sub, es_state_mul, es_state_div, es_const_num, es_const_state, es_const_const, es_const_pow, es_const_add, es_const_sub, es_const_mul, es_const_div, es_pow_num, es_pow_state, es_pow_const, es_pow_pow, es_pow_add, es_pow_sub, es_pow_mul, es_pow_div, es_add_num, es_add_state, es_add_const, es_add_pow, es_add_add, es_add_sub, es_add_mul, es_add_div, es_sub_num, es_sub_state, es_sub_const, es_sub_pow, es_sub_add, es_sub_sub, es_sub_mul, es_sub_div, es_mul_num, es_mul_state, es_mul_const, es_mul_pow, es_mul_add, es_mul_sub, es_mul_mul, es_mul_div, es_div_num, es_div_state, es_div_const, es_div_pow, es_div_add, es_div_sub, es_div_mul, es_div_div, ip_num, ip_state, ip_const, ip_pow, ip_add, ip_sub, ip_mul, ip_div, il_num, il_state, il_const, il_pow, il_add, il_sub, il_mul, il_div, it_num, it_state, it_const, it_pow, it_add, it_sub, it_mul, it_div, h]
  · simp [st_fits_0, st_fits_1, st_fits_2, st_fits_3, st_fits_4, st_fits_5, b_fits, bd_ok, bd_exc, st_ok, st_exc, xss_cons, xss_nil, seq_next, seq_ret, seq_brk, seq_cont, seq_exc, eqV_int, xst, ev, evT, evs, evo, evc, evi, itemAt, MP.placeOf, bindT, bindTs, unslot, hold, unhold, subR, freeze, ix_tup, ix_lst, ix_r, cm_eq, cm_ne, cm_lt, cm_le, cm_gt, cm_ge, cm_isn, cm_nisn, cm_isb, cm_inn, cm_nin, op_ad, op_sb, op_ml, op_dv, op_md, op_pw, op_sl, op_as, op_at, op_mt, op_al, bi_abs, bi_int, bi_intb, bi_ints, bi_lent, bi_lenl, bi_lenr, bi_lens, bi_listt, bi_listl, bi_tupt, bi_tupl, bi_tupr, bi_gcd, bi_max, bi_min, bi_str, bi_sum, bi_all, bi_any, tr_non, tr_bl, tr_int, tr_tup, tr_lst, ty_nt, ty_tt, ty_ti, ty_ii, ty_it, ty_is, sl_tup, sl_lst, sq_tup, sq_lst, ls_lst, th_lst, wk_tup, wk_lst, opt_some, eqV_non, es_num_num, es_num_state, es_num_const, es_num_pow, es_num_add, es_num_sub, es_num_mul, es_num_div, es_state_num, es_state_state, es_state_const, es_state_pow, es_state_add, es_state_sub, es_state_mul, es_state_div, es_const_num, es_const_state, es_const_const, es_const_pow, es_const_add, es_const_sub, es_const_mul, es_const_div, es_pow_num, es_pow_state, es_pow_const, es_pow_pow, es_pow_add, es_pow_sub, es_pow_mul, es_pow_div, es_add_num, es_add_state, es_add_const, es_add_pow, es_add_add, es_add_sub, es_add_mul, es_add_div, es_sub_num, es_sub_state, es_sub_const, es_sub_pow, es_sub_add, es_sub_sub, es_sub_mul, es_sub_div, es_mul_num, es_mul_state, es_mul_const, es_mul_pow, es_mul_add, es_mul_sub, es_mul_mul, es_mul_div, es_div_num, es_div_state, es_div_const, es_div_pow, es_div_add, es_div_sub, es_div_mul, es_div_div, ip_num, ip_state, ip_const, ip_pow, ip_add, ip_sub, ip_mul, ip_div, il_num, il_state, il_const, il_pow, il_add, il_sub, il_mul, il_div, it_num, it_state, it_const, it_pow, it_add, it_sub, it_mul, it_div, h]
theorem f_pow0 (h : ¬ (0 ≤ i ∧ i ≤ 8)) : callN F (d + 1) n_fits [.tup [.str "pow", x, .int i], u, v] S = .ok (.bl false) S := by
  rw [callN_of (fd := ⟨3, 4, b_fits⟩) rfl rfl]
  refine run_ret ?_ rfl
  by_cases h0 : 0 ≤ i
  · have h8 : ¬ i ≤ 8 := fun z => h ⟨h0, z⟩
    simp [st_fits_0, st_fits_1, st_fits_2, st_fits_3, st_fits_4, st_fits_5, b_fits, bd_ok, bd_exc, st_ok, st_exc, xss_cons, xss_nil, seq_next, seq_ret, seq_brk, seq_cont, seq_exc, eqV_int, xst, ev, evT, evs, evo, evc, evi, itemAt, MP.placeOf, bindT, bindTs, unslot, hold, unhold, subR, freeze, ix_tup, ix_lst, ix_r, cm_eq, cm_ne, cm_lt, cm_le, cm_gt, cm_ge, cm_isn, cm_nisn, cm_isb, cm_inn, cm_nin, op_ad, op_sb, op_ml, op_dv, op_md, op_pw, op_sl, op_as, op_at, op_mt, op_al, bi_abs, bi_int, bi_intb, bi_ints, bi_lent, bi_lenl, bi_lenr, bi_lens, bi_listt, bi_listl, bi_tupt, bi_tupl, bi_tupr, bi_gcd, bi_max, bi_min, bi_str, bi_sum, bi_all, bi_any, tr_non, tr_bl, tr_int, tr_tup, tr_lst, ty_nt, ty_tt, ty_ti, ty_ii, ty_it, ty_is, sl_tup, sl_lst, sq_tup, sq_lst, ls_lst, th_lst, wk_tup, wk_lst, opt_some, eqV_non, es_num_num, es_num_state, es_num_const, es_num_pow, es_num_add, es_num_sub, es_num_mul, es_num_div, es_state_num, es_state_state, es_state_const, es_state_pow, es_state_add, es_state_sub, es_state_mul, es_state_div, es_const_num, es_const_state, es_const_const, es_const_pow, es_const_add, es_const_sub, es_const_mul, es_const_div, es_pow_num, es_pow_state, es_pow_const, es_pow_pow, es_pow_add, es_pow_sub, es_pow_mul, es_pow_div, es_add_num, es_add_state, es_add_const, es_add_pow, es_add_add, es_add_sub, es_add_mul, es_add_div, es_sub_num, es_sub_state, es_sub_const, es_sub_pow, es_sub_add, es_sub_sub, es_sub_mul, es_sub_div, es_mul_num, es_mul_state, es_mul_const, es_mul_pow, es_mul_add, es_mul_sub, es_mul_mul, es_mul_div, es_div_num, es_div_state, es_div_const, es_div_pow, es_div_add, es_div_sub, es_div_mul, es_div_div, ip_num, ip_state, ip_const, ip_pow, ip_add, ip_sub, ip_mul, ip_div, il_num, il_state, il_const, il_pow, il_add, il_sub, il_mul, il_div, it_num, it_state, it_const, it_pow, it_add, it_sub, it_mul, it_div, h0, h8]
  · simp [st_fits_0, st_fits_1, st_fits_2, st_fits_3, st_fits_4, st_fits_5, b_fits, bd_ok, bd_exc, st_ok, st_exc, xss_cons, xss_nil, seq_next, seq_ret, seq_brk, seq_cont, seq_exc, eqV_int, xst, ev, evT, evs, evo, evc, evi, itemAt, MP.placeOf, bindT, bindTs, unslot, hold, unhold, subR, freeze, ix_tup, ix_lst, ix_r, cm_eq, cm_ne, cm_lt, cm_le, cm_gt, cm_ge, cm_isn, cm_nisn, cm_isb, cm_inn, cm_nin, op_ad, op_sb, op_ml, op_dv, op_md, op_pw, op_sl, op_as, op_at, op_mt, op_al, bi_abs, bi_int, bi_intb, bi_ints, bi_lent, bi_lenl, bi_lenr, bi_lens, bi_listt, bi_listl, bi_tupt, bi_tupl, bi_tupr, bi_gcd, bi_max, bi_min, bi_str, bi_sum, bi_all, bi_any, tr_non, tr_bl, tr_int, tr_tup, tr_lst, ty_nt, ty_tt, ty_ti, ty_ii, ty_it, ty_is, sl_tup, sl_lst, sq_tup, sq_lst, ls_lst, th_lst, wk_tup, wk_lst, opt_some, eqV_non, es_num_num, es_num_state, es_num_const, es_num_pow, es_num_add, es_num_sub, es_num_mul, es_num_div, es_state_num, es_state_state, es_state_const, es_state_pow, es_state_add, es_state_sub, es_state_mul, es_state_div, es_const_num, es_const_state, es_const_const, es_const_pow, es_const_add, es_const_sub, es_const_mul, es_const_div, es_pow_num, es_pow_state, es_pow_const, es_pow_pow, es_pow_add, es_pow_sub, es_pow_mul, es_pow_div, es_add_num, es_add_state, es_add_const, es_add_pow, es_add_add, es_add_sub, es_add_mul, es_add_div, es_sub_num, es_sub_state, es_sub_const, es_sub_pow, es_sub_add, es_sub_sub, es_sub_mul, es_sub_div, es_mul_num, es_mul_state, es_mul_const, es_mul_pow, es_mul_add, es_mul_sub, es_mul_mul, es_mul_div, es_div_num, es_div_state, es_div_const, es_div_pow, es_div_add, es_div_sub, es_div_mul, es_div_div, ip_num, ip_state, ip_const, ip_pow, ip_add, ip_sub, ip_mul, ip_div, il_num, il_state, il_const, il_pow, il_add, il_sub, il_mul, il_div, it_num, it_state, it_const, it_pow, it_add, it_sub, it_mul, it_div, h0]
theorem f_pow (h0 : 0 ≤ i) (h8 : i ≤ 8) (h : callN F d n_fits [x, u, v] ⟨S.cells, false⟩ = .ok (.bl p) ⟨S.cells, false⟩) : callN F (d + 1) n_fits [.tup [.str "pow", x, .int i], u, v] S = .ok (.bl p) S := by
  rw [callN_of (fd := ⟨3, 4, b_fits⟩) rfl rfl]
  refine run_ret ?_ rfl
  simp [st_fits_0, st_fits_1, st_fits_2, st_fits_3, st_fits_4, st_fits_5, b_fits, bd_ok, bd_exc, st_ok, st_exc, xss_cons, xss_nil, seq_next, seq_ret, seq_brk, seq_cont, seq_exc, eqV_int, xst, ev, evT, evs, evo, evc, evi, itemAt, MP.placeOf, bindT, bindTs, unslot, hold, unhold, subR, freeze, ix_tup, ix_lst, ix_r, cm_eq, cm_ne, cm_lt, cm_le, cm_gt, cm_ge, cm_isn, cm_nisn, cm_isb, cm_inn, cm_nin, op_ad, op_sb, op_ml, op_dv, op_md, op_pw, op_sl, op_as, op_at, op_mt, op_al, bi_abs, bi_int, bi_intb, bi_ints, bi_lent, bi_lenl, bi_lenr, bi_lens, bi_listt, bi_listl, bi_tupt, bi_tupl, bi_tupr, bi_gcd, bi_max, bi_min, bi_str, bi_sum, bi_all, bi_any, tr_non, tr_bl, tr_int, tr_tup, tr_lst, ty_nt, ty_tt, ty_ti, ty_ii, ty_it, ty_is, sl_tup, sl_lst, sq_tup, sq_lst, ls_lst, th_lst, wk_tup, wk_lst, opt_some, eqV_non, es_num_num, es_num_state, es_num_const, es_num_pow, es_num_add, es_num_sub, es_num_mul, es_num_div, es_state_num, es_state_state, es_state_const, es_state_pow, es_state_add, es_state_sub, es_state_mul, es_state_div, es_const_num, es_const_state, es_const_const, es_const_pow, es_const_add, es_const_sub, es_const_mul, es_const_div, es_pow_num, es_pow_state, es_pow_const, es_pow_pow, es_pow_add, es_pow_sub, es_pow_mul, es_pow_div, es_add_num, es_add_state, es_add_const, es_add_pow, es_add_add, es_add_sub, es_add_mul, es_add_div, es_sub_num, es_sub_state, es_sub_const, es_sub_pow, es_sub_add, es_sub_sub, es_sub_mul, es_sub_div, es_mul_num, es_mul_state, es_mul_const, es_mul_pow, es_mul_add, es_mul_sub, es_mul_mul, es_mul_div, es_div_num, es_div_state, es_div_const, es_div_pow, es_div_add, es_div_sub, es_div_mul, es_div_div, ip_num, ip_state, ip_const, ip_pow, ip_add, ip_sub, ip_mul, ip_div, il_num, il_state, il_const, il_pow, il_add, il_sub, il_mul, il_div, it_num, it_state, it_const, it_pow, it_add, it_sub, it_mul, it_div, h0, h8, h]
theorem f_bin {o : Bo} (h : callN F d n_fits [x, u, v] ⟨S.cells, false⟩ = .ok (.bl p) ⟨S.cells, false⟩) (h2 : callN F d n_fits [y, u, v] ⟨S.cells, false⟩ = .ok (.bl q) ⟨S.cells, false⟩) : callN F (d + 1) n_fits [.tup [.str o.nm, x, y], u, v] S = .ok (.bl (p && q)) S := by
  rw [callN_of (fd := ⟨3, 4, b_fits⟩) rfl rfl]
  refine run_ret ?_ rfl
  cases p <;> cases o <;> simp [st_fits_0, st_fits_1, st_fits_2, st_fits_3, st_fits_4, st_fits_5, b_fits, bd_ok, bd_exc, st_ok, st_exc, xss_cons, xss_nil, seq_next, seq_ret, seq_brk, seq_cont, seq_exc, eqV_int, xst, ev, evT, evs, evo, evc, evi, itemAt, MP.placeOf, bindT, bindTs, unslot, hold, unhold, subR, freeze, ix_tup, ix_lst, ix_r, cm_eq, cm_ne, cm_lt, cm_le, cm_gt, cm_ge, cm_isn, cm_nisn, cm_isb, cm_inn, cm_nin, op_ad, op_sb, op_ml, op_dv, op_md, op_pw, op_sl, op_as, op_at, op_mt, op_al, bi_abs, bi_int, bi_intb, bi_ints, bi_lent, bi_lenl, bi_lenr, bi_lens, bi_listt, bi_listl, bi_tupt, bi_tupl, bi_tupr, bi_gcd, bi_max, bi_min, bi_str, bi_sum, bi_all, bi_any, tr_non, tr_bl, tr_int, tr_tup, tr_lst, ty_nt, ty_tt, ty_ti, ty_ii, ty_it, ty_is, sl_tup, sl_lst, sq_tup, sq_lst, ls_lst, th_lst, wk_tup, wk_lst, opt_some, eqV_non, es_num_num, es_num_state, es_num_const, es_num_pow, es_num_add, es_num_sub, es_num_mul, es_num_div, es_state_num, es_state_state, es_state_const, es_state_pow, es_state_add, es_state_sub, es_state_mul, es_state_div, es_const_num, es_const_state, es_const_const, es_const_pow, es_const_add, es_const_sub, es_const_mul, es_const_div, es_pow_num, es_pow_state, es_pow_const, es_pow_pow, es_pow_add, es_pow_sub, es_pow_mul, es_pow_div, es_add_num, es_add_state, es_add_const, es_add_pow, es_add_add, es_add_sub, es_add_mul, es_add_div, es_sub_num, es_sub_state, es_sub_const, es_sub_pow, es_sub_add, es_sub_sub, es_sub_mul, es_sub_div, es_mul_num, es_mul_state, es_mul_const, es_mul_pow, es_mul_add, es_mul_sub, es_mul_mul, es_mul_div, es_div_num, es_div_state, es_div_const, es_div_pow, es_div_add, es_div_sub, es_div_mul, es_div_div, ip_num, ip_state, ip_const, ip_pow, ip_add, ip_sub, ip_mul, ip_div, il_num, il_state, il_const, il_pow, il_add, il_sub, il_mul, il_div, it_num, it_state, it_const, it_pow, it_add, it_sub, it_mul, it_div, Bo.nm, h, h2]
def fitsT (n c : Int) : Tr → Bool
  | .num _ => true
  | .st i => decide ((i : Int) < n)
  | .cn i => decide ((i : Int) < c)
  | .pw t m => decide (m ≤ 8) && fitsT n c t
  | .bin _ a b => fitsT n c a && fitsT n c b
theorem r_fits {n c : Int} : ∀ (t : Tr) (e : Nat) (S : Sto), t.ht + 1 ≤ e → callN F e n_fits [t.tv, .int n, .int c] S = .ok (.bl (fitsT n c t)) S := by
  intro t
  induction t with
  | num q => intro e S he; obtain ⟨d, rfl⟩ : ∃ d, e = d + 1 := ⟨e - 1, by omega⟩; exact f_num
  | st i =>
    intro e S he
    obtain ⟨d, rfl⟩ : ∃ d, e = d + 1 := ⟨e - 1, by omega⟩
    have z := f_st (d := d) (i := (i : Int)) (n := n) (v := .int c) (S := S)
    rw [decide_eq_true (Int.natCast_nonneg i), Bool.true_and] at z
    exact z
  | cn i =>
    intro e S he
    obtain ⟨d, rfl⟩ : ∃ d, e = d + 1 := ⟨e - 1, by omega⟩
    have z := f_cn (d := d) (i := (i : Int)) (n := c) (u := .int n) (S := S)
    rw [decide_eq_true (Int.natCast_nonneg i), Bool.true_and] at z
    exact z
  | pw t m ih =>
    intro e S he
    have hh : (Tr.pw t m).ht = t.ht + 1 := rfl
    obtain ⟨d, rfl⟩ : ∃ d, e = d + 1 := ⟨e - 1, by omega⟩
    show _ = R.ok (PV.bl (decide (m ≤ 8) && fitsT n c t)) S
    by_cases h : m ≤ 8
    · rw [decide_eq_true h, Bool.true_and]
      exact f_pow (Int.natCast_nonneg m) (by omega) (ih d _ (by omega))
    · rw [decide_eq_false h, Bool.false_and]
      exact f_pow0 (by omega)
  | bin o a b iha ihb =>
    intro e S he
    have hh : (Tr.bin o a b).ht = max a.ht b.ht + 1 := rfl
    obtain ⟨d, rfl⟩ : ∃ d, e = d + 1 := ⟨e - 1, by omega⟩
    exact f_bin (iha d _ (by omega)) (ihb d _ (by omega))
/-! ### the rules of slopes -/
abbrev N0 : PV := .tup [.str "num", .tup [.int 0, .int 1]]
abbrev N1 : PV := .tup [.str "num", .tup [.int 1, .int 1]]
theorem j_raw (hp : ∀ S, eqV S x N0 = some p) (hq : ∀ S, eqV S y N0 = some q) (px : x.pure = true) (py : y.pure = true) : callN F (d + 1) n_joined [x, y] S = .ok (if p then y else if q then x else .tup [.str "add", x, y]) S := by
  rw [callN_of (fd := ⟨2, 2, b_joined⟩) rfl rfl]
  cases p
  · cases q
    · exact run_ret (by simp [st_joined_0, st_joined_1, b_joined, bd_ok, bd_exc, st_ok, st_exc, xss_cons, xss_nil, seq_next, seq_ret, seq_brk, seq_cont, seq_exc, eqV_int, xst, ev, evT, evs, evo, evc, evi, itemAt, MP.placeOf, bindT, bindTs, unslot, hold, unhold, subR, freeze, ix_tup, ix_lst, ix_r, cm_eq, cm_ne, cm_lt, cm_le, cm_gt, cm_ge, cm_isn, cm_nisn, cm_isb, cm_inn, cm_nin, op_ad, op_sb, op_ml, op_dv, op_md, op_pw, op_sl, op_as, op_at, op_mt, op_al, bi_abs, bi_int, bi_intb, bi_ints, bi_lent, bi_lenl, bi_lenr, bi_lens, bi_listt, bi_listl, bi_tupt, bi_tupl, bi_tupr, bi_gcd, bi_max, bi_min, bi_str, bi_sum, bi_all, bi_any, tr_non, tr_bl, tr_int, tr_tup, tr_lst, ty_nt, ty_tt, ty_ti, ty_ii, ty_it, ty_is, sl_tup, sl_lst, sq_tup, sq_lst, ls_lst, th_lst, wk_tup, wk_lst, opt_some, eqV_non, hp, hq]) (by simp [PV.pure, PV.pures, px, py])
    · exact run_ret (by simp [st_joined_0, st_joined_1, b_joined, bd_ok, bd_exc, st_ok, st_exc, xss_cons, xss_nil, seq_next, seq_ret, seq_brk, seq_cont, seq_exc, eqV_int, xst, ev, evT, evs, evo, evc, evi, itemAt, MP.placeOf, bindT, bindTs, unslot, hold, unhold, subR, freeze, ix_tup, ix_lst, ix_r, cm_eq, cm_ne, cm_lt, cm_le, cm_gt, cm_ge, cm_isn, cm_nisn, cm_isb, cm_inn, cm_nin, op_ad, op_sb, op_ml, op_dv, op_md, op_pw, op_sl, op_as, op_at, op_mt, op_al, bi_abs, bi_int, bi_intb, bi_ints, bi_lent, bi_lenl, bi_lenr, bi_lens, bi_listt, bi_listl, bi_tupt, bi_tupl, bi_tupr, bi_gcd, bi_max, bi_min, bi_str, bi_sum, bi_all, bi_any, tr_non, tr_bl, tr_int, tr_tup, tr_lst, ty_nt, ty_tt, ty_ti, ty_ii, ty_it, ty_is, sl_tup, sl_lst, sq_tup, sq_lst, ls_lst, th_lst, wk_tup, wk_lst, opt_some, eqV_non, hp, hq]) px
  · exact run_ret (by simp [st_joined_0, st_joined_1, b_joined, bd_ok, bd_exc, st_ok, st_exc, xss_cons, xss_nil, seq_next, seq_ret, seq_brk, seq_cont, seq_exc, eqV_int, xst, ev, evT, evs, evo, evc, evi, itemAt, MP.placeOf, bindT, bindTs, unslot, hold, unhold, subR, freeze, ix_tup, ix_lst, ix_r, cm_eq, cm_ne, cm_lt, cm_le, cm_gt, cm_ge, cm_isn, cm_nisn, cm_isb, cm_inn, cm_nin, op_ad, op_sb, op_ml, op_dv, op_md, op_pw, op_sl, op_as, op_at, op_mt, op_al, bi_abs, bi_int, bi_intb, bi_ints, bi_lent, bi_lenl, bi_lenr, bi_lens, bi_listt, bi_listl, bi_tupt, bi_tupl, bi_tupr, bi_gcd, bi_max, bi_min, bi_str, bi_sum, bi_all, bi_any, tr_non, tr_bl, tr_int, tr_tup, tr_lst, ty_nt, ty_tt, ty_ti, ty_ii, ty_it, ty_is, sl_tup, sl_lst, sq_tup, sq_lst, ls_lst, th_lst, wk_tup, wk_lst, opt_some, eqV_non, hp, hq]) py
theorem t_raw (hq : ∀ S, eqV S y N0 = some q) (px : x.pure = true) (py : y.pure = true) : callN F (d + 1) n_taken [x, y] S = .ok (if q then x else .tup [.str "sub", x, y]) S := by
  rw [callN_of (fd := ⟨2, 2, b_taken⟩) rfl rfl]
  cases q
  · exact run_ret (by simp [st_taken_0, b_taken, bd_ok, bd_exc, st_ok, st_exc, xss_cons, xss_nil, seq_next, seq_ret, seq_brk, seq_cont, seq_exc, eqV_int, xst, ev, evT, evs, evo, evc, evi, itemAt, MP.placeOf, bindT, bindTs, unslot, hold, unhold, subR, freeze, ix_tup, ix_lst, ix_r, cm_eq, cm_ne, cm_lt, cm_le, cm_gt, cm_ge, cm_isn, cm_nisn, cm_isb, cm_inn, cm_nin, op_ad, op_sb, op_ml, op_dv, op_md, op_pw, op_sl, op_as, op_at, op_mt, op_al, bi_abs, bi_int, bi_intb, bi_ints, bi_lent, bi_lenl, bi_lenr, bi_lens, bi_listt, bi_listl, bi_tupt, bi_tupl, bi_tupr, bi_gcd, bi_max, bi_min, bi_str, bi_sum, bi_all, bi_any, tr_non, tr_bl, tr_int, tr_tup, tr_lst, ty_nt, ty_tt, ty_ti, ty_ii, ty_it, ty_is, sl_tup, sl_lst, sq_tup, sq_lst, ls_lst, th_lst, wk_tup, wk_lst, opt_some, eqV_non, hq]) (by simp [PV.pure, PV.pures, px, py])
  · exact run_ret (by simp [st_taken_0, b_taken, bd_ok, bd_exc, st_ok, st_exc, xss_cons, xss_nil, seq_next, seq_ret, seq_brk, seq_cont, seq_exc, eqV_int, xst, ev, evT, evs, evo, evc, evi, itemAt, MP.placeOf, bindT, bindTs, unslot, hold, unhold, subR, freeze, ix_tup, ix_lst, ix_r, cm_eq, cm_ne, cm_lt, cm_le, cm_gt, cm_ge, cm_isn, cm_nisn, cm_isb, cm_inn, cm_nin, op_ad, op_sb, op_ml, op_dv, op_md, op_pw, op_sl, op_as, op_at, op_mt, op_al, bi_abs, bi_int, bi_intb, bi_ints, bi_lent, bi_lenl, bi_lenr, bi_lens, bi_listt, bi_listl, bi_tupt, bi_tupl, bi_tupr, bi_gcd, bi_max, bi_min, bi_str, bi_sum, bi_all, bi_any, tr_non, tr_bl, tr_int, tr_tup, tr_lst, ty_nt, ty_tt, ty_ti, ty_ii, ty_it, ty_is, sl_tup, sl_lst, sq_tup, sq_lst, ls_lst, th_lst, wk_tup, wk_lst, opt_some, eqV_non, hq]) px
theorem p_raw (hp : ∀ S, eqV S x N0 = some p) (hq : ∀ S, eqV S y N0 = some q) {p1 q1 : Bool} (hp1 : ∀ S, eqV S x N1 = some p1) (hq1 : ∀ S, eqV S y N1 = some q1) (px : x.pure = true) (py : y.pure = true) :
    callN F (d + 1) n_product [x, y] S = .ok (if p || q then N0 else if p1 then y else if q1 then x else .tup [.str "mul", x, y]) S := by
  rw [callN_of (fd := ⟨2, 2, b_product⟩) rfl rfl]
  cases p
  · cases q
    · cases p1
      · cases q1
        · exact run_ret (by simp [st_product_0, st_product_1, st_product_2, b_product, bd_ok, bd_exc, st_ok, st_exc, xss_cons, xss_nil, seq_next, seq_ret, seq_brk, seq_cont, seq_exc, eqV_int, xst, ev, evT, evs, evo, evc, evi, itemAt, MP.placeOf, bindT, bindTs, unslot, hold, unhold, subR, freeze, ix_tup, ix_lst, ix_r, cm_eq, cm_ne, cm_lt, cm_le, cm_gt, cm_ge, cm_isn, cm_nisn, cm_isb, cm_inn, cm_nin, op_ad, op_sb, op_ml, op_dv, op_md, op_pw, op_sl, op_as, op_at, op_mt, op_al, bi_abs, bi_int, bi_intb, bi_ints, bi_lent, bi_lenl, bi_lenr, bi_lens, bi_listt, bi_listl, bi_tupt, bi_tupl, bi_tupr, bi_gcd, bi_max, bi_min, bi_str, bi_sum, bi_all, bi_any, tr_non, tr_bl, tr_int, tr_tup, tr_lst, ty_nt, ty_tt, ty_ti, ty_ii, ty_it, ty_is, sl_tup, sl_lst, sq_tup, sq_lst, ls_lst, th_lst, wk_tup, wk_lst, opt_some, eqV_non, hp, hq, hp1, hq1]) (by simp [PV.pure, PV.pures, px, py])
        · exact run_ret (by simp [st_product_0, st_product_1, st_product_2, b_product, bd_ok, bd_exc, st_ok, st_exc, xss_cons, xss_nil, seq_next, seq_ret, seq_brk, seq_cont, seq_exc, eqV_int, xst, ev, evT, evs, evo, evc, evi, itemAt, MP.placeOf, bindT, bindTs, unslot, hold, unhold, subR, freeze, ix_tup, ix_lst, ix_r, cm_eq, cm_ne, cm_lt, cm_le, cm_gt, cm_ge, cm_isn, cm_nisn, cm_isb, cm_inn, cm_nin, op_ad, op_sb, op_ml, op_dv, op_md, op_pw, op_sl, op_as, op_at, op_mt, op_al, bi_abs, bi_int, bi_intb, bi_ints, bi_lent, bi_lenl, bi_lenr, bi_lens, bi_listt, bi_listl, bi_tupt, bi_tupl, bi_tupr, bi_gcd, bi_max, bi_min, bi_str, bi_sum, bi_all, bi_any, tr_non, tr_bl, tr_int, tr_tup, tr_lst, ty_nt, ty_tt, ty_ti, ty_ii, ty_it, ty_is, sl_tup, sl_lst, sq_tup, sq_lst, ls_lst, th_lst, wk_tup, wk_lst, opt_some, eqV_non, hp, hq, hp1, hq1]) px
      · exact run_ret (by simp [st_product_0, st_product_1, st_product_2, b_product, bd_ok, bd_exc, st_ok, st_exc, xss_cons, xss_nil, seq_next, seq_ret, seq_brk, seq_cont, seq_exc, eqV_int, xst, ev, evT, evs, evo, evc, evi, itemAt, MP.placeOf, bindT, bindTs, unslot, hold, unhold, subR, freeze, ix_tup, ix_lst, ix_r, cm_eq, cm_ne, cm_lt, cm_le, cm_gt, cm_ge, cm_isn, cm_nisn, cm_isb, cm_inn, cm_nin, op_ad, op_sb, op_ml, op_dv, op_md, op_pw, op_sl, op_as, op_at, op_mt, op_al, bi_abs, bi_int, bi_intb, bi_ints, bi_lent, bi_lenl, bi_lenr, bi_lens, bi_listt, bi_listl, bi_tupt, bi_tupl, bi_tupr, bi_gcd, bi_max, bi_min, bi_str, bi_sum, bi_all, bi_any, tr_non, tr_bl, tr_int, tr_tup, tr_lst, ty_nt, ty_tt, ty_ti, ty_ii, ty_it, ty_is, sl_tup, sl_lst, sq_tup, sq_lst, ls_lst, th_lst, wk_tup, wk_lst, opt_some, eqV_non, hp, hq, hp1, hq1]) py
    · exact run_ret (by simp [st_product_0, st_product_1, st_product_2, b_product, bd_ok, bd_exc, st_ok, st_exc, xss_cons, xss_nil, seq_next, seq_ret, seq_brk, seq_cont, seq_exc, eqV_int, xst, ev, evT, evs, evo, evc, evi, itemAt, MP.placeOf, bindT, bindTs, unslot, hold, unhold, subR, freeze, ix_tup, ix_lst, ix_r, cm_eq, cm_ne, cm_lt, cm_le, cm_gt, cm_ge, cm_isn, cm_nisn, cm_isb, cm_inn, cm_nin, op_ad, op_sb, op_ml, op_dv, op_md, op_pw, op_sl, op_as, op_at, op_mt, op_al, bi_abs, bi_int, bi_intb, bi_ints, bi_lent, bi_lenl, bi_lenr, bi_lens, bi_listt, bi_listl, bi_tupt, bi_tupl, bi_tupr, bi_gcd, bi_max, bi_min, bi_str, bi_sum, bi_all, bi_any, tr_non, tr_bl, tr_int, tr_tup, tr_lst, ty_nt, ty_tt, ty_ti, ty_ii, ty_it, ty_is, sl_tup, sl_lst, sq_tup, sq_lst, ls_lst, th_lst, wk_tup, wk_lst, opt_some, eqV_non, hp, hq]) rfl
  · exact run_ret (by simp [st_product_0, st_product_1, st_product_2, b_product, bd_ok, bd_exc, st_ok, st_exc, xss_cons, xss_nil, seq_next, seq_ret, seq_brk, seq_cont, seq_exc, eqV_int, xst, ev, evT, evs, evo, evc, evi, itemAt, MP.placeOf, bindT, bindTs, unslot, hold, unhold, subR, freeze, ix_tup, ix_lst, ix_r, cm_eq, cm_ne, cm_lt, cm_le, cm_gt, cm_ge, cm_isn, cm_nisn, cm_isb, cm_inn, cm_nin, op_ad, op_sb, op_ml, op_dv, op_md, op_pw, op_sl, op_as, op_at, op_mt, op_al, bi_abs, bi_int, bi_intb, bi_ints, bi_lent, bi_lenl, bi_lenr, bi_lens, bi_listt, bi_listl, bi_tupt, bi_tupl, bi_tupr, bi_gcd, bi_max, bi_min, bi_str, bi_sum, bi_all, bi_any, tr_non, tr_bl, tr_int, tr_tup, tr_lst, ty_nt, ty_tt, ty_ti, ty_ii, ty_it, ty_is, sl_tup, sl_lst, sq_tup, sq_lst, ls_lst, th_lst, wk_tup, wk_lst, opt_some, eqV_non, hp, hq]) rfl
theorem q_raw (hp : ∀ S, eqV S x N0 = some p) {q1 : Bool} (hq1 : ∀ S, eqV S y N1 = some q1) (px : x.pure = true) (py : y.pure = true) : callN F (d + 1) n_ratio [x, y] S = .ok (if p then N0 else if q1 then x else .tup [.str "div", x, y]) S := by
  rw [callN_of (fd := ⟨2, 2, b_ratio⟩) rfl rfl]
  cases p
  · cases q1
    · exact run_ret (by simp [st_ratio_0, st_ratio_1, b_ratio, bd_ok, bd_exc, st_ok, st_exc, xss_cons, xss_nil, seq_next, seq_ret, seq_brk, seq_cont, seq_exc, eqV_int, xst, ev, evT, evs, evo, evc, evi, itemAt, MP.placeOf, bindT, bindTs, unslot, hold, unhold, subR, freeze, ix_tup, ix_lst, ix_r, cm_eq, cm_ne, cm_lt, cm_le, cm_gt, cm_ge, cm_isn, cm_nisn, cm_isb, cm_inn, cm_nin, op_ad, op_sb, op_ml, op_dv, op_md, op_pw, op_sl, op_as, op_at, op_mt, op_al, bi_abs, bi_int, bi_intb, bi_ints, bi_lent, bi_lenl, bi_lenr, bi_lens, bi_listt, bi_listl, bi_tupt, bi_tupl, bi_tupr, bi_gcd, bi_max, bi_min, bi_str, bi_sum, bi_all, bi_any, tr_non, tr_bl, tr_int, tr_tup, tr_lst, ty_nt, ty_tt, ty_ti, ty_ii, ty_it, ty_is, sl_tup, sl_lst, sq_tup, sq_lst, ls_lst, th_lst, wk_tup, wk_lst, opt_some, eqV_non, hp, hq1]) (by simp [PV.pure, PV.pures, px, py])
    · exact run_ret (by simp [st_ratio_0, st_ratio_1, b_ratio, bd_ok, bd_exc, st_ok, st_exc, xss_cons, xss_nil, seq_next, seq_ret, seq_brk, seq_cont, seq_exc, eqV_int, xst, ev, evT, evs, evo, evc, evi, itemAt, MP.placeOf, bindT, bindTs, unslot, hold, unhold, subR, freeze, ix_tup, ix_lst, ix_r, cm_eq, cm_ne, cm_lt, cm_le, cm_gt, cm_ge, cm_isn, cm_nisn, cm_isb, cm_inn, cm_nin, op_ad, op_sb, op_ml, op_dv, op_md, op_pw, op_sl, op_as, op_at, op_mt, op_al, bi_abs, bi_int, bi_intb, bi_ints, bi_lent, bi_lenl, bi_lenr, bi_lens, bi_listt, bi_listl, bi_tupt, bi_tupl, bi_tupr, bi_gcd, bi_max, bi_min, bi_str, bi_sum, bi_all, bi_any, tr_non, tr_bl, tr_int, tr_tup, tr_lst, ty_nt, ty_tt, ty_ti, ty_ii, ty_it, ty_is, sl_tup, sl_lst, sq_tup, sq_lst, ls_lst, th_lst, wk_tup, wk_lst, opt_some, eqV_non, hp, hq1]) px
  · exact run_ret (by simp [st_ratio_0, st_ratio_1, b_ratio, bd_ok, bd_exc, st_ok, st_exc, xss_cons, xss_nil, seq_next, seq_ret, seq_brk, seq_cont, seq_exc, eqV_int, xst, ev, evT, evs, evo, evc, evi, itemAt, MP.placeOf, bindT, bindTs, unslot, hold, unhold, subR, freeze, ix_tup, ix_lst, ix_r, cm_eq, cm_ne, cm_lt, cm_le, cm_gt, cm_ge, cm_isn, cm_nisn, cm_isb, cm_inn, cm_nin, op_ad, op_sb, op_ml, op_dv, op_md, op_pw, op_sl, op_as, op_at, op_mt, op_al, bi_abs, bi_int, bi_intb, bi_ints, bi_lent, bi_lenl, bi_lenr, bi_lens, bi_listt, bi_listl, bi_tupt, bi_tupl, bi_tupr, bi_gcd, bi_max, bi_min, bi_str, bi_sum, bi_all, bi_any, tr_non, tr_bl, tr_int, tr_tup, tr_lst, ty_nt, ty_tt, ty_ti, ty_ii, ty_it, ty_is, sl_tup, sl_lst, sq_tup, sq_lst, ls_lst, th_lst, wk_tup, wk_lst, opt_some, eqV_non, hp]) rfl
def jn (a b : Tr) : Tr := if a = .num 0 then b else if b = .num 0 then a else .bin .add a b
def tk (a b : Tr) : Tr := if b = .num 0 then a else .bin .sub a b
def pd (a b : Tr) : Tr := if a = .num 0 ∨ b = .num 0 then .num 0 else if a = .num 1 then b else if b = .num 1 then a else .bin .mul a b
def ra (a b : Tr) : Tr := if a = .num 0 then .num 0 else if b = .num 1 then a else .bin .div a b
def pb (t : Tr) (m : Nat) : Tr := if m = 2 then t else .pw t (m - 1)
def sp (t : Tr) (m : Nat) (c : Tr) : Tr := if m = 0 then .num 0 else if m = 1 then c else pd (pd (.num m) (pb t m)) c
theorem r_joined {a b : Tr} (ha : a.ht ≤ 60) (hb : b.ht ≤ 60) : callN F (d + 1) n_joined [a.tv, b.tv] S = .ok (jn a b).tv S := by
  rw [j_raw (fun S => eqZ ha) (fun S => eqZ hb) (tv_pure _) (tv_pure _)]
  unfold jn
  by_cases h : a = .num 0
  · simp [h]
  · by_cases h2 : b = .num 0
    · simp [h, h2]
    · simp [h, h2, Tr.tv, Bo.nm]
theorem r_taken {a b : Tr} (ha : a.ht ≤ 60) (hb : b.ht ≤ 60) : callN F (d + 1) n_taken [a.tv, b.tv] S = .ok (tk a b).tv S := by
  rw [t_raw (fun S => eqZ hb) (tv_pure _) (tv_pure _)]
  unfold tk
  by_cases h2 : b = .num 0
  · simp [h2]
  · simp [h2, Tr.tv, Bo.nm]
theorem r_product {a b : Tr} (ha : a.ht ≤ 60) (hb : b.ht ≤ 60) : callN F (d + 1) n_product [a.tv, b.tv] S = .ok (pd a b).tv S := by
  rw [p_raw (fun S => eqZ ha) (fun S => eqZ hb) (fun S => eqO ha) (fun S => eqO hb) (tv_pure _) (tv_pure _)]
  unfold pd
  by_cases h : a = .num 0
  · simp [h, Tr.tv, fr, pr]
  · by_cases h2 : b = .num 0
    · simp [h, h2, Tr.tv, fr, pr]
    · by_cases h3 : a = .num 1
      · simp [h, h2, h3]
      · by_cases h4 : b = .num 1
        · simp [h, h2, h3, h4]
        · simp [h, h2, h3, h4, Tr.tv, Bo.nm]
theorem r_ratio {a b : Tr} (ha : a.ht ≤ 60) (hb : b.ht ≤ 60) : callN F (d + 1) n_ratio [a.tv, b.tv] S = .ok (ra a b).tv S := by
  rw [q_raw (fun S => eqZ ha) (fun S => eqO hb) (tv_pure _) (tv_pure _)]
  unfold ra
  by_cases h : a = .num 0
  · rw [if_pos h, decide_eq_true h]; rfl
  · rw [if_neg h, decide_eq_false h]
    by_cases h4 : b = .num 1
    · rw [if_pos h4, decide_eq_true h4]; rfl
    · rw [if_neg h4, decide_eq_false h4]; rfl
theorem jn_ht (a b : Tr) : (jn a b).ht ≤ max a.ht b.ht + 1 := by
  unfold jn
  split
  · omega
  · split
    · omega
    · show max a.ht b.ht + 1 ≤ _; omega
theorem tk_ht (a b : Tr) : (tk a b).ht ≤ max a.ht b.ht + 1 := by
  unfold tk
  split
  · omega
  · show max a.ht b.ht + 1 ≤ _; omega
theorem pd_ht (a b : Tr) : (pd a b).ht ≤ max a.ht b.ht + 1 := by
  unfold pd
  split
  · exact Nat.zero_le _
  · split
    · omega
    · split
      · omega
      · show max a.ht b.ht + 1 ≤ _; omega
theorem ra_ht (a b : Tr) : (ra a b).ht ≤ max a.ht b.ht + 1 := by
  unfold ra
  split
  · exact Nat.zero_le _
  · split
    · omega
    · show max a.ht b.ht + 1 ≤ _; omega
theorem pb_ht (t : Tr) (m : Nat) : (pb t m).ht ≤ t.ht + 1 := by
  unfold pb
  split
  · omega
  · exact Nat.le_refl _
theorem num_ht (q : Rat) : (Tr.num q).ht = 0 := rfl
theorem sp_ht (t : Tr) (m : Nat) (c : Tr) : (sp t m c).ht ≤ max (t.ht + 2) c.ht + 1 := by
  unfold sp
  split
  · exact Nat.zero_le _
  · split
    · omega
    · have h1 := pd_ht (pd (.num m) (pb t m)) c
      have h2 := pd_ht (.num m) (pb t m)
      have h3 := pb_ht t m
      have h4 := num_ht (m : Rat)
      omega
/-- the slope by the state (k) or constant of a number -/
def sl (k : Bool) (n : Nat) : Tr → Tr
  | .num _ => .num 0
  | .st i => if k = true ∧ i = n then .num 1 else .num 0
  | .cn i => if k = false ∧ i = n then .num 1 else .num 0
  | .pw t m => sp t m (sl k n t)
  | .bin .add a b => jn (sl k n a) (sl k n b)
  | .bin .sub a b => tk (sl k n a) (sl k n b)
  | .bin .mul a b => jn (pd (sl k n a) b) (pd a (sl k n b))
  | .bin .div a b => ra (tk (pd (sl k n a) b) (pd a (sl k n b))) (.pw b 2)
theorem sl_ht (k : Bool) (n : Nat) : ∀ t : Tr, (sl k n t).ht ≤ 4 * t.ht
  | .num _ => Nat.le_refl _
  | .st i => by unfold sl; split <;> exact Nat.zero_le _
  | .cn i => by unfold sl; split <;> exact Nat.zero_le _
  | .pw t m => by
    have h := sl_ht k n t
    have h2 := sp_ht t m (sl k n t)
    show (sp t m (sl k n t)).ht ≤ 4 * (t.ht + 1)
    omega
  | .bin o a b => by
    have h := sl_ht k n a
    have h1 := sl_ht k n b
    show _ ≤ 4 * (max a.ht b.ht + 1)
    cases o with
    | add =>
      have h2 := jn_ht (sl k n a) (sl k n b)
      show (jn _ _).ht ≤ _
      omega
    | sub =>
      have h2 := tk_ht (sl k n a) (sl k n b)
      show (tk _ _).ht ≤ _
      omega
    | mul =>
      have h2 := jn_ht (pd (sl k n a) b) (pd a (sl k n b))
      have h3 := pd_ht (sl k n a) b
      have h4 := pd_ht a (sl k n b)
      show (jn _ _).ht ≤ _
      omega
    | div =>
      have h2 := tk_ht (pd (sl k n a) b) (pd a (sl k n b))
      have h3 := pd_ht (sl k n a) b
      have h4 := pd_ht a (sl k n b)
      have h5 := ra_ht (tk (pd (sl k n a) b) (pd a (sl k n b))) (.pw b 2)
      have h6 : (Tr.pw b 2).ht = b.ht + 1 := rfl
      show (ra _ _).ht ≤ _
      omega
def kd (k : Bool) : Str := if k then "state" else "const"
/-- a power's slope -/
theorem sp_raw {m : Int} (h1 : m = 0 ∨ m = 1 ∨ 2 ≤ m) (py : y.pure = true) (hy : 2 ≤ m → callN F d n_product [.tup [.str "num", .tup [.int m, .int 1]], if m = 2 then x else .tup [.str "pow", x, .int (m - 1)]] ⟨S.cells, false⟩ = .ok u ⟨S.cells, false⟩)
    (hz : 2 ≤ m → callN F d n_product [u, y] ⟨S.cells, false⟩ = .ok v ⟨S.cells, false⟩) (pv : v.pure = true) : callN F (d + 1) n__slope_of_power [.tup [w, x, .int m], y] S = .ok (if m = 0 then N0 else if m = 1 then y else v) S := by
  rw [callN_of (fd := ⟨2, 4, b__slope_of_power⟩) rfl rfl]
  rcases h1 with rfl | rfl | h
  · exact run_ret (by simp [st__slope_of_power_0, st__slope_of_power_1, st__slope_of_power_2, st__slope_of_power_3, st__slope_of_power_4, b__slope_of_power, bd_ok, bd_exc, st_ok, st_exc, xss_cons, xss_nil, seq_next, seq_ret, seq_brk, seq_cont, seq_exc, eqV_int, xst, ev, evT, evs, evo, evc, evi, itemAt, MP.placeOf, bindT, bindTs, unslot, hold, unhold, subR, freeze, ix_tup, ix_lst, ix_r, cm_eq, cm_ne, cm_lt, cm_le, cm_gt, cm_ge, cm_isn, cm_nisn, cm_isb, cm_inn, cm_nin, op_ad, op_sb, op_ml, op_dv, op_md, op_pw, op_sl, op_as, op_at, op_mt, op_al, bi_abs, bi_int, bi_intb, bi_ints, bi_lent, bi_lenl, bi_lenr, bi_lens, bi_listt, bi_listl, bi_tupt, bi_tupl, bi_tupr, bi_gcd, bi_max, bi_min, bi_str, bi_sum, bi_all, bi_any, tr_non, tr_bl, tr_int, tr_tup, tr_lst, ty_nt, ty_tt, ty_ti, ty_ii, ty_it, ty_is, sl_tup, sl_lst, sq_tup, sq_lst, ls_lst, th_lst, wk_tup, wk_lst, opt_some, eqV_non]) rfl
  · exact run_ret (by simp [st__slope_of_power_0, st__slope_of_power_1, st__slope_of_power_2, st__slope_of_power_3, st__slope_of_power_4, b__slope_of_power, bd_ok, bd_exc, st_ok, st_exc, xss_cons, xss_nil, seq_next, seq_ret, seq_brk, seq_cont, seq_exc, eqV_int, xst, ev, evT, evs, evo, evc, evi, itemAt, MP.placeOf, bindT, bindTs, unslot, hold, unhold, subR, freeze, ix_tup, ix_lst, ix_r, cm_eq, cm_ne, cm_lt, cm_le, cm_gt, cm_ge, cm_isn, cm_nisn, cm_isb, cm_inn, cm_nin, op_ad, op_sb, op_ml, op_dv, op_md, op_pw, op_sl, op_as, op_at, op_mt, op_al, bi_abs, bi_int, bi_intb, bi_ints, bi_lent, bi_lenl, bi_lenr, bi_lens, bi_listt, bi_listl, bi_tupt, bi_tupl, bi_tupr, bi_gcd, bi_max, bi_min, bi_str, bi_sum, bi_all, bi_any, tr_non, tr_bl, tr_int, tr_tup, tr_lst, ty_nt, ty_tt, ty_ti, ty_ii, ty_it, ty_is, sl_tup, sl_lst, sq_tup, sq_lst, ls_lst, th_lst, wk_tup, wk_lst, opt_some, eqV_non]) py
  · have n0 : ¬ m = 0 := by omega
    have n1 : ¬ m = 1 := by omega
    have hy := hy h
    have hz := hz h
    rw [if_neg n0, if_neg n1]
    refine run_ret ?_ pv
    by_cases h2 : m = 2
    · subst h2
      rw [if_pos rfl] at hy
      simp [st__slope_of_power_0, st__slope_of_power_1, st__slope_of_power_2, st__slope_of_power_3, st__slope_of_power_4, b__slope_of_power, bd_ok, bd_exc, st_ok, st_exc, xss_cons, xss_nil, seq_next, seq_ret, seq_brk, seq_cont, seq_exc, eqV_int, xst, ev, evT, evs, evo, evc, evi, itemAt, MP.placeOf, bindT, bindTs, unslot, hold, unhold, subR, freeze, ix_tup, ix_lst, ix_r, cm_eq, cm_ne, cm_lt, cm_le, cm_gt, cm_ge, cm_isn, cm_nisn, cm_isb, cm_inn, cm_nin, op_ad, op_sb, op_ml, op_dv, op_md, op_pw, op_sl, op_as, op_at, op_mt, op_al, bi_abs, bi_int, bi_intb, bi_ints, bi_lent, bi_lenl, bi_lenr, bi_lens, bi_listt, bi_listl, bi_tupt, bi_tupl, bi_tupr, bi_gcd, bi_max, bi_min, bi_str, bi_sum, bi_all, bi_any, tr_non, tr_bl, tr_int, tr_tup, tr_lst, ty_nt, ty_tt, ty_ti, ty_ii, ty_it, ty_is, sl_tup, sl_lst, sq_tup, sq_lst, ls_lst, th_lst, wk_tup, wk_lst, opt_some, eqV_non, hy, hz]
    · rw [if_neg h2] at hy
      simp [st__slope_of_power_0, st__slope_of_power_1, st__slope_of_power_2, st__slope_of_power_3, st__slope_of_power_4, b__slope_of_power, bd_ok, bd_exc, st_ok, st_exc, xss_cons, xss_nil, seq_next, seq_ret, seq_brk, seq_cont, seq_exc, eqV_int, xst, ev, evT, evs, evo, evc, evi, itemAt, MP.placeOf, bindT, bindTs, unslot, hold, unhold, subR, freeze, ix_tup, ix_lst, ix_r, cm_eq, cm_ne, cm_lt, cm_le, cm_gt, cm_ge, cm_isn, cm_nisn, cm_isb, cm_inn, cm_nin, op_ad, op_sb, op_ml, op_dv, op_md, op_pw, op_sl, op_as, op_at, op_mt, op_al, bi_abs, bi_int, bi_intb, bi_ints, bi_lent, bi_lenl, bi_lenr, bi_lens, bi_listt, bi_listl, bi_tupt, bi_tupl, bi_tupr, bi_gcd, bi_max, bi_min, bi_str, bi_sum, bi_all, bi_any, tr_non, tr_bl, tr_int, tr_tup, tr_lst, ty_nt, ty_tt, ty_ti, ty_ii, ty_it, ty_is, sl_tup, sl_lst, sq_tup, sq_lst, ls_lst, th_lst, wk_tup, wk_lst, opt_some, eqV_non, n0, n1, h2, hy, hz]
theorem fr_nat (m : Nat) : fr ((m : Nat) : Rat) = .tup [.int m, .int 1] := rfl
theorem r_slope_of_power {t c : Tr} {m : Nat} {w : PV} (ht : t.ht ≤ 50) (hc : c.ht ≤ 60) : callN F (d + 2) n__slope_of_power [.tup [w, t.tv, .int m], c.tv] S = .ok (sp t m c).tv S := by
  have h3 := pb_ht t m
  have h4 := num_ht (m : Rat)
  have h2 := pd_ht (.num m) (pb t m)
  have e1 := r_product (d := d) (S := ⟨S.cells, false⟩) (a := .num m) (b := pb t m) (by omega) (by omega)
  have e2 := r_product (d := d) (S := ⟨S.cells, false⟩) (a := pd (.num m) (pb t m)) (b := c) (by omega) hc
  have z := sp_raw (d := d + 1) (S := S) (w := w) (x := t.tv) (y := c.tv) (m := (m : Int)) (u := (pd (.num m) (pb t m)).tv) (v := (pd (pd (.num m) (pb t m)) c).tv) (by omega) (tv_pure _) (fun hm => ?_) (fun _ => e2) (tv_pure _)
  · rw [z]
    unfold sp
    by_cases h0 : m = 0
    · subst h0; rfl
    · have h0' : ¬ (m : Int) = 0 := by omega
      rw [if_neg h0, if_neg h0']
      by_cases h1 : m = 1
      · subst h1; rfl
      · have h1' : ¬ (m : Int) = 1 := by omega
        rw [if_neg h1, if_neg h1']
  · have hb : (pb t m).tv = if (m : Int) = 2 then t.tv else .tup [.str "pow", t.tv, .int ((m : Int) - 1)] := by
      unfold pb
      by_cases h : m = 2
      · subst h; rfl
      · have h' : ¬ (m : Int) = 2 := by omega
        rw [if_neg h, if_neg h']
        have : ((m - 1 : Nat) : Int) = (m : Int) - 1 := by omega
        simp only [Tr.tv, this]
    rw [← hb]
    exact e1
/-- slope, at a leaf -/
theorem s_leaf {k : Bool} {n : Int} (h : (x = .str "state" ∧ k = true) ∨ x = .str "const" ∧ k = false) {i : Int} : callN F (d + 1) n_slope [.tup [x, .int i], .str (kd k), .int n] S = .ok (if i = n then N1 else N0) S := by
  rw [callN_of (fd := ⟨3, 6, b_slope⟩) rfl rfl]
  refine run_ret ?_ (by split <;> rfl)
  by_cases e : i = n
  · rcases h with ⟨rfl, rfl⟩ | ⟨rfl, rfl⟩ <;> simp [st_slope_0, st_slope_1, st_slope_2, st_slope_3, st_slope_4, st_slope_5, st_slope_6, st_slope_7, st_slope_8, st_slope_9, b_slope, bd_ok, bd_exc, st_ok, st_exc, xss_cons, xss_nil, seq_next, seq_ret, seq_brk, seq_cont, seq_exc, eqV_int, xst, ev, evT, evs, evo, evc, evi, itemAt, MP.placeOf, bindT, bindTs, unslot, hold, unhold, subR, freeze, ix_tup, ix_lst, ix_r, cm_eq, cm_ne, cm_lt, cm_le, cm_gt, cm_ge, cm_isn, cm_nisn, cm_isb, cm_inn, cm_nin, op_ad, op_sb, op_ml, op_dv, op_md, op_pw, op_sl, op_as, op_at, op_mt, op_al, bi_abs, bi_int, bi_intb, bi_ints, bi_lent, bi_lenl, bi_lenr, bi_lens, bi_listt, bi_listl, bi_tupt, bi_tupl, bi_tupr, bi_gcd, bi_max, bi_min, bi_str, bi_sum, bi_all, bi_any, tr_non, tr_bl, tr_int, tr_tup, tr_lst, ty_nt, ty_tt, ty_ti, ty_ii, ty_it, ty_is, sl_tup, sl_lst, sq_tup, sq_lst, ls_lst, th_lst, wk_tup, wk_lst, opt_some, eqV_non, es_num_num, es_num_state, es_num_const, es_num_pow, es_num_add, es_num_sub, es_num_mul, es_num_div, es_state_num, es_state_state, es_state_const, es_state_pow, es_state_add, es_state_sub, es_state_mul, es_state_div, es_const_num, es_const_state, es_const_const, es_const_pow, es_const_add, es_const_sub, es_const_mul, es_const_div, es_pow_num, es_pow_state, es_pow_const, es_pow_pow, es_pow_add, es_pow_sub, es_pow_mul, es_pow_div, es_add_num, es_add_state, es_add_const, es_add_pow, es_add_add, es_add_sub, es_add_mul, es_add_div, es_sub_num, es_sub_state, es_sub_const, es_sub_pow, es_sub_add, es_sub_sub, es_sub_mul, es_sub_div, es_mul_num, es_mul_state, es_mul_const, es_mul_pow, es_mul_add, es_mul_sub, es_mul_mul, es_mul_div, es_div_num, es_div_state, es_div_const, es_div_pow, es_div_add, es_div_sub, es_div_mul, es_div_div, ip_num, ip_state, ip_const, ip_pow, ip_add, ip_sub, ip_mul, ip_div, il_num, il_state, il_const, il_pow, il_add, il_sub, il_mul, il_div, it_num, it_state, it_const, it_pow, it_add, it_sub, it_mul, it_div, kd, e]
  · rcases h with ⟨rfl, rfl⟩ | ⟨rfl, rfl⟩ <;> simp [st_slope_0, st_slope_1, st_slope_2, st_slope_3, st_slope_4, st_slope_5, st_slope_6, st_slope_7, st_slope_8, st_slope_9, b_slope, bd_ok, bd_exc, st_ok, st_exc, xss_cons, xss_nil, seq_next, seq_ret, seq_brk, seq_cont, seq_exc, eqV_int, xst, ev, evT, evs, evo, evc, evi, itemAt, MP.placeOf, bindT, bindTs, unslot, hold, unhold, subR, freeze, ix_tup, ix_lst, ix_r, cm_eq, cm_ne, cm_lt, cm_le, cm_gt, cm_ge, cm_isn, cm_nisn, cm_isb, cm_inn, cm_nin, op_ad, op_sb, op_ml, op_dv, op_md, op_pw, op_sl, op_as, op_at, op_mt, op_al, bi_abs, bi_int, bi_intb, bi_ints, bi_lent, bi_lenl, bi_lenr, bi_lens, bi_listt, bi_listl, bi_tupt, bi_tupl, bi_tupr, bi_gcd, bi_max, bi_min, bi_str, bi_sum, bi_all, bi_any, tr_non, tr_bl, tr_int, tr_tup, tr_lst, ty_nt, ty_tt, ty_ti, ty_ii, ty_it, ty_is, sl_tup, sl_lst, sq_tup, sq_lst, ls_lst, th_lst, wk_tup, wk_lst, opt_some, eqV_non, es_num_num, es_num_state, es_num_const, es_num_pow, es_num_add, es_num_sub, es_num_mul, es_num_div, es_state_num, es_state_state, es_state_const, es_state_pow, es_state_add, es_state_sub, es_state_mul, es_state_div, es_const_num, es_const_state, es_const_const, es_const_pow, es_const_add, es_const_sub, es_const_mul, es_const_div, es_pow_num, es_pow_state, es_pow_const, es_pow_pow, es_pow_add, es_pow_sub, es_pow_mul, es_pow_div, es_add_num, es_add_state, es_add_const, es_add_pow, es_add_add, es_add_sub, es_add_mul, es_add_div, es_sub_num, es_sub_state, es_sub_const, es_sub_pow, es_sub_add, es_sub_sub, es_sub_mul, es_sub_div, es_mul_num, es_mul_state, es_mul_const, es_mul_pow, es_mul_add, es_mul_sub, es_mul_mul, es_mul_div, es_div_num, es_div_state, es_div_const, es_div_pow, es_div_add, es_div_sub, es_div_mul, es_div_div, ip_num, ip_state, ip_const, ip_pow, ip_add, ip_sub, ip_mul, ip_div, il_num, il_state, il_const, il_pow, il_add, il_sub, il_mul, il_div, it_num, it_state, it_const, it_pow, it_add, it_sub, it_mul, it_div, kd, e]
theorem s_other {k : Bool} (h : x = .str "num" ∨ (x = .str "state" ∧ k = false) ∨ x = .str "const" ∧ k = true) : callN F (d + 1) n_slope [.tup [x, y], .str (kd k), z] S = .ok N0 S := by
  rw [callN_of (fd := ⟨3, 6, b_slope⟩) rfl rfl]
  refine run_ret ?_ rfl
  rcases h with rfl | ⟨rfl, rfl⟩ | ⟨rfl, rfl⟩
  · cases k <;> simp [st_slope_0, st_slope_1, st_slope_2, st_slope_3, st_slope_4, st_slope_5, st_slope_6, st_slope_7, st_slope_8, st_slope_9, b_slope, bd_ok, bd_exc, st_ok, st_exc, xss_cons, xss_nil, seq_next, seq_ret, seq_brk, seq_cont, seq_exc, eqV_int, xst, ev, evT, evs, evo, evc, evi, itemAt, MP.placeOf, bindT, bindTs, unslot, hold, unhold, subR, freeze, ix_tup, ix_lst, ix_r, cm_eq, cm_ne, cm_lt, cm_le, cm_gt, cm_ge, cm_isn, cm_nisn, cm_isb, cm_inn, cm_nin, op_ad, op_sb, op_ml, op_dv, op_md, op_pw, op_sl, op_as, op_at, op_mt, op_al, bi_abs, bi_int, bi_intb, bi_ints, bi_lent, bi_lenl, bi_lenr, bi_lens, bi_listt, bi_listl, bi_tupt, bi_tupl, bi_tupr, bi_gcd, bi_max, bi_min, bi_str, bi_sum, bi_all, bi_any, tr_non, tr_bl, tr_int, tr_tup, tr_lst, ty_nt, ty_tt, ty_ti, ty_ii, ty_it, ty_is, sl_tup, sl_lst, sq_tup, sq_lst, ls_lst, th_lst, wk_tup, wk_lst, opt_some, eqV_non, es_num_num, es_num_state, es_num_const, es_num_pow, es_num_add, es_num_sub, es_num_mul, es_num_div, es_state_num, es_state_state, es_state_const, es_state_pow, es_state_add, es_state_sub, es_state_mul, es_state_div, es_const_num, es_const_state, es_const_const, es_const_pow, es_const_add, es_const_sub, es_const_mul, es_const_div, es_pow_num, es_pow_state, es_pow_const, es_pow_pow, es_pow_add, es_pow_sub, es_pow_mul, es_pow_div, es_add_num, es_add_state, es_add_const, es_add_pow, es_add_add, es_add_sub, es_add_mul, es_add_div, es_sub_num, es_sub_state, es_sub_const, es_sub_pow, es_sub_add, es_sub_sub, es_sub_mul, es_sub_div, es_mul_num, es_mul_state, es_mul_const, es_mul_pow, es_mul_add, es_mul_sub, es_mul_mul, es_mul_div, es_div_num, es_div_state, es_div_const, es_div_pow, es_div_add, es_div_sub, es_div_mul, es_div_div, ip_num, ip_state, ip_const, ip_pow, ip_add, ip_sub, ip_mul, ip_div, il_num, il_state, il_const, il_pow, il_add, il_sub, il_mul, il_div, it_num, it_state, it_const, it_pow, it_add, it_sub, it_mul, it_div, kd]
  · simp [st_slope_0, st_slope_1, st_slope_2, st_slope_3, st_slope_4, st_slope_5, st_slope_6, st_slope_7, st_slope_8, st_slope_9, b_slope, bd_ok, bd_exc, st_ok, st_exc, xss_cons, xss_nil, seq_next, seq_ret, seq_brk, seq_cont, seq_exc, eqV_int, xst, ev, evT, evs, evo, evc, evi, itemAt, MP.placeOf, bindT, bindTs, unslot, hold, unhold, subR, freeze, ix_tup, ix_lst, ix_r, cm_eq, cm_ne, cm_lt, cm_le, cm_gt, cm_ge, cm_isn, cm_nisn, cm_isb, cm_inn, cm_nin, op_ad, op_sb, op_ml, op_dv, op_md, op_pw, op_sl, op_as, op_at, op_mt, op_al, bi_abs, bi_int, bi_intb, bi_ints, bi_lent, bi_lenl, bi_lenr, bi_lens, bi_listt, bi_listl, bi_tupt, bi_tupl, bi_tupr, bi_gcd, bi_max, bi_min, bi_str, bi_sum, bi_all, bi_any, tr_non, tr_bl, tr_int, tr_tup, tr_lst, ty_nt, ty_tt, ty_ti, ty_ii, ty_it, ty_is, sl_tup, sl_lst, sq_tup, sq_lst, ls_lst, th_lst, wk_tup, wk_lst, opt_some, eqV_non, es_num_num, es_num_state, es_num_const, es_num_pow, es_num_add, es_num_sub, es_num_mul, es_num_div, es_state_num, es_state_state, es_state_const, es_state_pow, es_state_add, es_state_sub, es_state_mul, es_state_div, es_const_num, es_const_state, es_const_const, es_const_pow, es_const_add, es_const_sub, es_const_mul, es_const_div, es_pow_num, es_pow_state, es_pow_const, es_pow_pow, es_pow_add, es_pow_sub, es_pow_mul, es_pow_div, es_add_num, es_add_state, es_add_const, es_add_pow, es_add_add, es_add_sub, es_add_mul, es_add_div, es_sub_num, es_sub_state, es_sub_const, es_sub_pow, es_sub_add, es_sub_sub, es_sub_mul, es_sub_div, es_mul_num, es_mul_state, es_mul_const, es_mul_pow, es_mul_add, es_mul_sub, es_mul_mul, es_mul_div, es_div_num, es_div_state, es_div_const, es_div_pow, es_div_add, es_div_sub, es_div_mul, es_div_div, ip_num, ip_state, ip_const, ip_pow, ip_add, ip_sub, ip_mul, ip_div, il_num, il_state, il_const, il_pow, il_add, il_sub, il_mul, il_div, it_num, it_state, it_const, it_pow, it_add, it_sub, it_mul, it_div, kd]
  · simp [st_slope_0, st_slope_1, st_slope_2, st_slope_3, st_slope_4, st_slope_5, st_slope_6, st_slope_7, st_slope_8, st_slope_9, b_slope, bd_ok, bd_exc, st_ok, st_exc, xss_cons, xss_nil, seq_next, seq_ret, seq_brk, seq_cont, seq_exc, eqV_int, xst, ev, evT, evs, evo, evc, evi, itemAt, MP.placeOf, bindT, bindTs, unslot, hold, unhold, subR, freeze, ix_tup, ix_lst, ix_r, cm_eq, cm_ne, cm_lt, cm_le, cm_gt, cm_ge, cm_isn, cm_nisn, cm_isb, cm_inn, cm_nin, op_ad, op_sb, op_ml, op_dv, op_md, op_pw, op_sl, op_as, op_at, op_mt, op_al, bi_abs, bi_int, bi_intb, bi_ints, bi_lent, bi_lenl, bi_lenr, bi_lens, bi_listt, bi_listl, bi_tupt, bi_tupl, bi_tupr, bi_gcd, bi_max, bi_min, bi_str, bi_sum, bi_all, bi_any, tr_non, tr_bl, tr_int, tr_tup, tr_lst, ty_nt, ty_tt, ty_ti, ty_ii, ty_it, ty_is, sl_tup, sl_lst, sq_tup, sq_lst, ls_lst, th_lst, wk_tup, wk_lst, opt_some, eqV_non, es_num_num, es_num_state, es_num_const, es_num_pow, es_num_add, es_num_sub, es_num_mul, es_num_div, es_state_num, es_state_state, es_state_const, es_state_pow, es_state_add, es_state_sub, es_state_mul, es_state_div, es_const_num, es_const_state, es_const_const, es_const_pow, es_const_add, es_const_sub, es_const_mul, es_const_div, es_pow_num, es_pow_state, es_pow_const, es_pow_pow, es_pow_add, es_pow_sub, es_pow_mul, es_pow_div, es_add_num, es_add_state, es_add_const, es_add_pow, es_add_add, es_add_sub, es_add_mul, es_add_div, es_sub_num, es_sub_state, es_sub_const, es_sub_pow, es_sub_add, es_sub_sub, es_sub_mul, es_sub_div, es_mul_num, es_mul_state, es_mul_const, es_mul_pow, es_mul_add, es_mul_sub, es_mul_mul, es_mul_div, es_div_num, es_div_state, es_div_const, es_div_pow, es_div_add, es_div_sub, es_div_mul, es_div_div, ip_num, ip_state, ip_const, ip_pow, ip_add, ip_sub, ip_mul, ip_div, il_num, il_state, il_const, il_pow, il_add, il_sub, il_mul, il_div, it_num, it_state, it_const, it_pow, it_add, it_sub, it_mul, it_div, kd]
theorem s_pow {k : Bool} (h : callN F d n_slope [x, .str (kd k), z] ⟨S.cells, false⟩ = .ok u ⟨S.cells, false⟩) (h2 : callN F d n__slope_of_power [.tup [.str "pow", x, y], u] ⟨S.cells, false⟩ = .ok v ⟨S.cells, false⟩) (pv : v.pure = true) : callN F (d + 1) n_slope [.tup [.str "pow", x, y], .str (kd k), z] S = .ok v S := by
  rw [callN_of (fd := ⟨3, 6, b_slope⟩) rfl rfl]
  refine run_ret ?_ pv
  cases k
  · have h : callN F d n_slope [x, .str "const", z] ⟨S.cells, false⟩ = .ok u ⟨S.cells, false⟩ := h
    simp [st_slope_0, st_slope_1, st_slope_2, st_slope_3, st_slope_4, st_slope_5, st_slope_6, st_slope_7, st_slope_8, st_slope_9, b_slope, bd_ok, bd_exc, st_ok, st_exc, xss_cons, xss_nil, seq_next, seq_ret, seq_brk, seq_cont, seq_exc, eqV_int, xst, ev, evT, evs, evo, evc, evi, itemAt, MP.placeOf, bindT, bindTs, unslot, hold, unhold, subR, freeze, ix_tup, ix_lst, ix_r, cm_eq, cm_ne, cm_lt, cm_le, cm_gt, cm_ge, cm_isn, cm_nisn, cm_isb, cm_inn, cm_nin, op_ad, op_sb, op_ml, op_dv, op_md, op_pw, op_sl, op_as, op_at, op_mt, op_al, bi_abs, bi_int, bi_intb, bi_ints, bi_lent, bi_lenl, bi_lenr, bi_lens, bi_listt, bi_listl, bi_tupt, bi_tupl, bi_tupr, bi_gcd, bi_max, bi_min, bi_str, bi_sum, bi_all, bi_any, tr_non, tr_bl, tr_int, tr_tup, tr_lst, ty_nt, ty_tt, ty_ti, ty_ii, ty_it, ty_is, sl_tup, sl_lst, sq_tup, sq_lst, ls_lst, th_lst, wk_tup, wk_lst, opt_some, eqV_non, es_num_num, es_num_state, es_num_const, es_num_pow, es_num_add, es_num_sub, es_num_mul, es_num_div, es_state_num, es_state_state, es_state_const, es_state_pow, es_state_add, es_state_sub, es_state_mul, es_state_div, es_const_num, es_const_state, es_const_const, es_const_pow, es_const_add, es_const_sub, es_const_mul, es_const_div, es_pow_num, es_pow_state, es_pow_const, es_pow_pow, es_pow_add, es_pow_sub, es_pow_mul, es_pow_div, es_add_num, es_add_state, es_add_const, es_add_pow, es_add_add, es_add_sub, es_add_mul, es_add_div, es_sub_num, es_sub_state, es_sub_const, es_sub_pow, es_sub_add, es_sub_sub, es_sub_mul, es_sub_div, es_mul_num, es_mul_state, es_mul_const, es_mul_pow, es_mul_add, es_mul_sub, es_mul_mul, es_mul_div, es_div_num, es_div_state, es_div_const, es_div_pow, es_div_add, es_div_sub, es_div_mul, es_div_div, ip_num, ip_state, ip_const, ip_pow, ip_add, ip_sub, ip_mul, ip_div, il_num, il_state, il_const, il_pow, il_add, il_sub, il_mul, il_div, it_num, it_state, it_const, it_pow, it_add, it_sub, it_mul, it_div, kd, h, h2]
  · have h : callN F d n_slope [x, .str "state", z] ⟨S.cells, false⟩ = .ok u ⟨S.cells, false⟩ := h
    simp [st_slope_0, st_slope_1, st_slope_2, st_slope_3, st_slope_4, st_slope_5, st_slope_6, st_slope_7, st_slope_8, st_slope_9, b_slope, bd_ok, bd_exc, st_ok, st_exc, xss_cons, xss_nil, seq_next, seq_ret, seq_brk, seq_cont, seq_exc, eqV_int, xst, ev, evT, evs, evo, evc, evi, itemAt, MP.placeOf, bindT, bindTs, unslot, hold, unhold, subR, freeze, ix_tup, ix_lst, ix_r, cm_eq, cm_ne, cm_lt, cm_le, cm_gt, cm_ge, cm_isn, cm_nisn, cm_isb, cm_inn, cm_nin, op_ad, op_sb, op_ml, op_dv, op_md, op_pw, op_sl, op_as, op_at, op_mt, op_al, bi_abs, bi_int, bi_intb, bi_ints, bi_lent, bi_lenl, bi_lenr, bi_lens, bi_listt, bi_listl, bi_tupt, bi_tupl, bi_tupr, bi_gcd, bi_max, bi_min, bi_str, bi_sum, bi_all, bi_any, tr_non, tr_bl, tr_int, tr_tup, tr_lst, ty_nt, ty_tt, ty_ti, ty_ii, ty_it, ty_is, sl_tup, sl_lst, sq_tup, sq_lst, ls_lst, th_lst, wk_tup, wk_lst, opt_some, eqV_non, es_num_num, es_num_state, es_num_const, es_num_pow, es_num_add, es_num_sub, es_num_mul, es_num_div, es_state_num, es_state_state, es_state_const, es_state_pow, es_state_add, es_state_sub, es_state_mul, es_state_div, es_const_num, es_const_state, es_const_const, es_const_pow, es_const_add, es_const_sub, es_const_mul, es_const_div, es_pow_num, es_pow_state, es_pow_const, es_pow_pow, es_pow_add, es_pow_sub, es_pow_mul, es_pow_div, es_add_num, es_add_state, es_add_const, es_add_pow, es_add_add, es_add_sub, es_add_mul, es_add_div, es_sub_num, es_sub_state, es_sub_const, es_sub_pow, es_sub_add, es_sub_sub, es_sub_mul, es_sub_div, es_mul_num, es_mul_state, es_mul_const, es_mul_pow, es_mul_add, es_mul_sub, es_mul_mul, es_mul_div, es_div_num, es_div_state, es_div_const, es_div_pow, es_div_add, es_div_sub, es_div_mul, es_div_div, ip_num, ip_state, ip_const, ip_pow, ip_add, ip_sub, ip_mul, ip_div, il_num, il_state, il_const, il_pow, il_add, il_sub, il_mul, il_div, it_num, it_state, it_const, it_pow, it_add, it_sub, it_mul, it_div, kd, h, h2]
theorem s_add {k : Str} (hk : k = "state" ∨ k = "const") (h : callN F d n_slope [x, .str k, z] ⟨S.cells, false⟩ = .ok u ⟨S.cells, false⟩) (h2 : callN F d n_slope [y, .str k, z] ⟨S.cells, false⟩ = .ok v ⟨S.cells, false⟩) (h3 : callN F d n_joined [u, v] ⟨S.cells, false⟩ = .ok w ⟨S.cells, false⟩) (pw : w.pure = true) :
    callN F (d + 1) n_slope [.tup [.str "add", x, y], .str k, z] S = .ok w S := by
  rw [callN_of (fd := ⟨3, 6, b_slope⟩) rfl rfl]
  refine run_ret ?_ pw
  rcases hk with rfl | rfl <;> simp [st_slope_0, st_slope_1, st_slope_2, st_slope_3, st_slope_4, st_slope_5, st_slope_6, st_slope_7, st_slope_8, st_slope_9, b_slope, bd_ok, bd_exc, st_ok, st_exc, xss_cons, xss_nil, seq_next, seq_ret, seq_brk, seq_cont, seq_exc, eqV_int, xst, ev, evT, evs, evo, evc, evi, itemAt, MP.placeOf, bindT, bindTs, unslot, hold, unhold, subR, freeze, ix_tup, ix_lst, ix_r, cm_eq, cm_ne, cm_lt, cm_le, cm_gt, cm_ge, cm_isn, cm_nisn, cm_isb, cm_inn, cm_nin, op_ad, op_sb, op_ml, op_dv, op_md, op_pw, op_sl, op_as, op_at, op_mt, op_al, bi_abs, bi_int, bi_intb, bi_ints, bi_lent, bi_lenl, bi_lenr, bi_lens, bi_listt, bi_listl, bi_tupt, bi_tupl, bi_tupr, bi_gcd, bi_max, bi_min, bi_str, bi_sum, bi_all, bi_any, tr_non, tr_bl, tr_int, tr_tup, tr_lst, ty_nt, ty_tt, ty_ti, ty_ii, ty_it, ty_is, sl_tup, sl_lst, sq_tup, sq_lst, ls_lst, th_lst, wk_tup, wk_lst, opt_some, eqV_non, es_num_num, es_num_state, es_num_const, es_num_pow, es_num_add, es_num_sub, es_num_mul, es_num_div, es_state_num, es_state_state, es_state_const, es_state_pow, es_state_add, es_state_sub, es_state_mul, es_state_div, es_const_num, es_const_state, es_const_const, es_const_pow, es_const_add, es_const_sub, es_const_mul, es_const_div, es_pow_num, es_pow_state, es_pow_const, es_pow_pow, es_pow_add, es_pow_sub, es_pow_mul, es_pow_div, es_add_num, es_add_state, es_add_const, es_add_pow, es_add_add, es_add_sub, es_add_mul, es_add_div, es_sub_num, es_sub_state, es_sub_const, es_sub_pow, es_sub_add, es_sub_sub, es_sub_mul, es_sub_div, es_mul_num, es_mul_state, es_mul_const, es_mul_pow, es_mul_add, es_mul_sub, es_mul_mul, es_mul_div, es_div_num, es_div_state, es_div_const, es_div_pow, es_div_add, es_div_sub, es_div_mul, es_div_div, ip_num, ip_state, ip_const, ip_pow, ip_add, ip_sub, ip_mul, ip_div, il_num, il_state, il_const, il_pow, il_add, il_sub, il_mul, il_div, it_num, it_state, it_const, it_pow, it_add, it_sub, it_mul, it_div, h, h2, h3]
theorem s_sub {k : Str} (hk : k = "state" ∨ k = "const") (h : callN F d n_slope [x, .str k, z] ⟨S.cells, false⟩ = .ok u ⟨S.cells, false⟩) (h2 : callN F d n_slope [y, .str k, z] ⟨S.cells, false⟩ = .ok v ⟨S.cells, false⟩) (h3 : callN F d n_taken [u, v] ⟨S.cells, false⟩ = .ok w ⟨S.cells, false⟩) (pw : w.pure = true) :
    callN F (d + 1) n_slope [.tup [.str "sub", x, y], .str k, z] S = .ok w S := by
  rw [callN_of (fd := ⟨3, 6, b_slope⟩) rfl rfl]
  refine run_ret ?_ pw
  rcases hk with rfl | rfl <;> simp [st_slope_0, st_slope_1, st_slope_2, st_slope_3, st_slope_4, st_slope_5, st_slope_6, st_slope_7, st_slope_8, st_slope_9, b_slope, bd_ok, bd_exc, st_ok, st_exc, xss_cons, xss_nil, seq_next, seq_ret, seq_brk, seq_cont, seq_exc, eqV_int, xst, ev, evT, evs, evo, evc, evi, itemAt, MP.placeOf, bindT, bindTs, unslot, hold, unhold, subR, freeze, ix_tup, ix_lst, ix_r, cm_eq, cm_ne, cm_lt, cm_le, cm_gt, cm_ge, cm_isn, cm_nisn, cm_isb, cm_inn, cm_nin, op_ad, op_sb, op_ml, op_dv, op_md, op_pw, op_sl, op_as, op_at, op_mt, op_al, bi_abs, bi_int, bi_intb, bi_ints, bi_lent, bi_lenl, bi_lenr, bi_lens, bi_listt, bi_listl, bi_tupt, bi_tupl, bi_tupr, bi_gcd, bi_max, bi_min, bi_str, bi_sum, bi_all, bi_any, tr_non, tr_bl, tr_int, tr_tup, tr_lst, ty_nt, ty_tt, ty_ti, ty_ii, ty_it, ty_is, sl_tup, sl_lst, sq_tup, sq_lst, ls_lst, th_lst, wk_tup, wk_lst, opt_some, eqV_non, es_num_num, es_num_state, es_num_const, es_num_pow, es_num_add, es_num_sub, es_num_mul, es_num_div, es_state_num, es_state_state, es_state_const, es_state_pow, es_state_add, es_state_sub, es_state_mul, es_state_div, es_const_num, es_const_state, es_const_const, es_const_pow, es_const_add, es_const_sub, es_const_mul, es_const_div, es_pow_num, es_pow_state, es_pow_const, es_pow_pow, es_pow_add, es_pow_sub, es_pow_mul, es_pow_div, es_add_num, es_add_state, es_add_const, es_add_pow, es_add_add, es_add_sub, es_add_mul, es_add_div, es_sub_num, es_sub_state, es_sub_const, es_sub_pow, es_sub_add, es_sub_sub, es_sub_mul, es_sub_div, es_mul_num, es_mul_state, es_mul_const, es_mul_pow, es_mul_add, es_mul_sub, es_mul_mul, es_mul_div, es_div_num, es_div_state, es_div_const, es_div_pow, es_div_add, es_div_sub, es_div_mul, es_div_div, ip_num, ip_state, ip_const, ip_pow, ip_add, ip_sub, ip_mul, ip_div, il_num, il_state, il_const, il_pow, il_add, il_sub, il_mul, il_div, it_num, it_state, it_const, it_pow, it_add, it_sub, it_mul, it_div, h, h2, h3]
theorem s_mul {k : Str} (hk : k = "state" ∨ k = "const") {l r : PV} (h : callN F d n_slope [x, .str k, z] ⟨S.cells, false⟩ = .ok u ⟨S.cells, false⟩) (h2 : callN F d n_slope [y, .str k, z] ⟨S.cells, false⟩ = .ok v ⟨S.cells, false⟩) (h3 : callN F d n_product [u, y] ⟨S.cells, false⟩ = .ok l ⟨S.cells, false⟩)
    (h4 : callN F d n_product [x, v] ⟨S.cells, false⟩ = .ok r ⟨S.cells, false⟩) (h5 : callN F d n_joined [l, r] ⟨S.cells, false⟩ = .ok w ⟨S.cells, false⟩) (pw : w.pure = true) : callN F (d + 1) n_slope [.tup [.str "mul", x, y], .str k, z] S = .ok w S := by
  rw [callN_of (fd := ⟨3, 6, b_slope⟩) rfl rfl]
  refine run_ret ?_ pw
  rcases hk with rfl | rfl <;> simp [st_slope_0, st_slope_1, st_slope_2, st_slope_3, st_slope_4, st_slope_5, st_slope_6, st_slope_7, st_slope_8, st_slope_9, b_slope, bd_ok, bd_exc, st_ok, st_exc, xss_cons, xss_nil, seq_next, seq_ret, seq_brk, seq_cont, seq_exc, eqV_int, xst, ev, evT, evs, evo, evc, evi, itemAt, MP.placeOf, bindT, bindTs, unslot, hold, unhold, subR, freeze, ix_tup, ix_lst, ix_r, cm_eq, cm_ne, cm_lt, cm_le, cm_gt, cm_ge, cm_isn, cm_nisn, cm_isb, cm_inn, cm_nin, op_ad, op_sb, op_ml, op_dv, op_md, op_pw, op_sl, op_as, op_at, op_mt, op_al, bi_abs, bi_int, bi_intb, bi_ints, bi_lent, bi_lenl, bi_lenr, bi_lens, bi_listt, bi_listl, bi_tupt, bi_tupl, bi_tupr, bi_gcd, bi_max, bi_min, bi_str, bi_sum, bi_all, bi_any, tr_non, tr_bl, tr_int, tr_tup, tr_lst, ty_nt, ty_tt, ty_ti, ty_ii, ty_it, ty_is, sl_tup, sl_lst, sq_tup, sq_lst, ls_lst, th_lst, wk_tup, wk_lst, opt_some, eqV_non, es_num_num, es_num_state, es_num_const, es_num_pow, es_num_add, es_num_sub, es_num_mul, es_num_div, es_state_num, es_state_state, es_state_const, es_state_pow, es_state_add, es_state_sub, es_state_mul, es_state_div, es_const_num, es_const_state, es_const_const, es_const_pow, es_const_add, es_const_sub, es_const_mul, es_const_div, es_pow_num, es_pow_state, es_pow_const, es_pow_pow, es_pow_add, es_pow_sub, es_pow_mul, es_pow_div, es_add_num, es_add_state, es_add_const, es_add_pow, es_add_add, es_add_sub, es_add_mul, es_add_div, es_sub_num, es_sub_state, es_sub_const, es_sub_pow, es_sub_add, es_sub_sub, es_sub_mul, es_sub_div, es_mul_num, es_mul_state, es_mul_const, es_mul_pow, es_mul_add, es_mul_sub, es_mul_mul, es_mul_div, es_div_num, es_div_state, es_div_const, es_div_pow, es_div_add, es_div_sub, es_div_mul, es_div_div, ip_num, ip_state, ip_const, ip_pow, ip_add, ip_sub, ip_mul, ip_div, il_num, il_state, il_const, il_pow, il_add, il_sub, il_mul, il_div, it_num, it_state, it_const, it_pow, it_add, it_sub, it_mul, it_div, h, h2, h3, h4, h5]
theorem s_div {k : Str} (hk : k = "state" ∨ k = "const") {l r t : PV} (h : callN F d n_slope [x, .str k, z] ⟨S.cells, false⟩ = .ok u ⟨S.cells, false⟩) (h2 : callN F d n_slope [y, .str k, z] ⟨S.cells, false⟩ = .ok v ⟨S.cells, false⟩) (h3 : callN F d n_product [u, y] ⟨S.cells, false⟩ = .ok l ⟨S.cells, false⟩)
    (h4 : callN F d n_product [x, v] ⟨S.cells, false⟩ = .ok r ⟨S.cells, false⟩) (h5 : callN F d n_taken [l, r] ⟨S.cells, false⟩ = .ok t ⟨S.cells, false⟩) (h6 : callN F d n_ratio [t, .tup [.str "pow", y, .int 2]] ⟨S.cells, false⟩ = .ok w ⟨S.cells, false⟩) (pw : w.pure = true) :
    callN F (d + 1) n_slope [.tup [.str "div", x, y], .str k, z] S = .ok w S := by
  rw [callN_of (fd := ⟨3, 6, b_slope⟩) rfl rfl]
  refine run_ret ?_ pw
  rcases hk with rfl | rfl <;> simp [st_slope_0, st_slope_1, st_slope_2, st_slope_3, st_slope_4, st_slope_5, st_slope_6, st_slope_7, st_slope_8, st_slope_9, b_slope, bd_ok, bd_exc, st_ok, st_exc, xss_cons, xss_nil, seq_next, seq_ret, seq_brk, seq_cont, seq_exc, eqV_int, xst, ev, evT, evs, evo, evc, evi, itemAt, MP.placeOf, bindT, bindTs, unslot, hold, unhold, subR, freeze, ix_tup, ix_lst, ix_r, cm_eq, cm_ne, cm_lt, cm_le, cm_gt, cm_ge, cm_isn, cm_nisn, cm_isb, cm_inn, cm_nin, op_ad, op_sb, op_ml, op_dv, op_md, op_pw, op_sl, op_as, op_at, op_mt, op_al, bi_abs, bi_int, bi_intb, bi_ints, bi_lent, bi_lenl, bi_lenr, bi_lens, bi_listt, bi_listl, bi_tupt, bi_tupl, bi_tupr, bi_gcd, bi_max, bi_min, bi_str, bi_sum, bi_all, bi_any, tr_non, tr_bl, tr_int, tr_tup, tr_lst, ty_nt, ty_tt, ty_ti, ty_ii, ty_it, ty_is, sl_tup, sl_lst, sq_tup, sq_lst, ls_lst, th_lst, wk_tup, wk_lst, opt_some, eqV_non, es_num_num, es_num_state, es_num_const, es_num_pow, es_num_add, es_num_sub, es_num_mul, es_num_div, es_state_num, es_state_state, es_state_const, es_state_pow, es_state_add, es_state_sub, es_state_mul, es_state_div, es_const_num, es_const_state, es_const_const, es_const_pow, es_const_add, es_const_sub, es_const_mul, es_const_div, es_pow_num, es_pow_state, es_pow_const, es_pow_pow, es_pow_add, es_pow_sub, es_pow_mul, es_pow_div, es_add_num, es_add_state, es_add_const, es_add_pow, es_add_add, es_add_sub, es_add_mul, es_add_div, es_sub_num, es_sub_state, es_sub_const, es_sub_pow, es_sub_add, es_sub_sub, es_sub_mul, es_sub_div, es_mul_num, es_mul_state, es_mul_const, es_mul_pow, es_mul_add, es_mul_sub, es_mul_mul, es_mul_div, es_div_num, es_div_state, es_div_const, es_div_pow, es_div_add, es_div_sub, es_div_mul, es_div_div, ip_num, ip_state, ip_const, ip_pow, ip_add, ip_sub, ip_mul, ip_div, il_num, il_state, il_const, il_pow, il_add, il_sub, il_mul, il_div, it_num, it_state, it_const, it_pow, it_add, it_sub, it_mul, it_div, h, h2, h3, h4, h5, h6]
theorem kd_or (k : Bool) : kd k = "state" ∨ kd k = "const" := by cases k; exact .inr rfl; exact .inl rfl
theorem r_slope {k : Bool} {n : Nat} : ∀ (t : Tr) (e : Nat) (S : Sto), t.ht + 3 ≤ e → t.ht ≤ 12 → callN F e n_slope [t.tv, .str (kd k), .int n] S = .ok (sl k n t).tv S := by
  intro t
  induction t with
  | num q =>
    intro e S he _
    obtain ⟨d, rfl⟩ : ∃ d, e = d + 1 := ⟨e - 1, by omega⟩
    exact s_other (.inl rfl)
  | st i =>
    intro e S he _
    obtain ⟨d, rfl⟩ : ∃ d, e = d + 1 := ⟨e - 1, by omega⟩
    cases k with
    | false => exact s_other (.inr (.inl ⟨rfl, rfl⟩))
    | true =>
      have z := s_leaf (d := d) (S := S) (x := .str "state") (k := true) (n := (n : Int)) (i := (i : Int)) (.inl ⟨rfl, rfl⟩)
      refine z.trans ?_
      unfold sl
      by_cases h : i = n
      · subst h; rw [if_pos rfl, if_pos ⟨rfl, rfl⟩]; rfl
      · rw [if_neg (fun q => h (by omega)), if_neg (fun q => h q.2)]; rfl
  | cn i =>
    intro e S he _
    obtain ⟨d, rfl⟩ : ∃ d, e = d + 1 := ⟨e - 1, by omega⟩
    cases k with
    | true => exact s_other (.inr (.inr ⟨rfl, rfl⟩))
    | false =>
      have z := s_leaf (d := d) (S := S) (x := .str "const") (k := false) (n := (n : Int)) (i := (i : Int)) (.inr ⟨rfl, rfl⟩)
      refine z.trans ?_
      unfold sl
      by_cases h : i = n
      · subst h; rw [if_pos rfl, if_pos ⟨rfl, rfl⟩]; rfl
      · rw [if_neg (fun q => h (by omega)), if_neg (fun q => h q.2)]; rfl
  | pw t m ih =>
    intro e S he hl
    have hh : (Tr.pw t m).ht = t.ht + 1 := rfl
    obtain ⟨d, rfl⟩ : ∃ d, e = d + 3 := ⟨e - 3, by omega⟩
    have hs := sl_ht k n t
    exact s_pow (ih (d + 2) _ (by omega) (by omega)) (r_slope_of_power (d := d) (by omega) (by omega)) (tv_pure _)
  | bin o a b iha ihb =>
    intro e S he hl
    have hh : (Tr.bin o a b).ht = max a.ht b.ht + 1 := rfl
    obtain ⟨d, rfl⟩ : ∃ d, e = d + 3 := ⟨e - 3, by omega⟩
    have h1 := iha (d + 2) ⟨S.cells, false⟩ (by omega) (by omega)
    have h2 := ihb (d + 2) ⟨S.cells, false⟩ (by omega) (by omega)
    have s1 := sl_ht k n a
    have s2 := sl_ht k n b
    have s3 := pd_ht (sl k n a) b
    have s4 := pd_ht a (sl k n b)
    have s5 := tk_ht (pd (sl k n a) b) (pd a (sl k n b))
    have s6 : (Tr.pw b 2).ht = b.ht + 1 := rfl
    cases o with
    | add => exact s_add (kd_or k) h1 h2 (r_joined (d := d + 1) (by omega) (by omega)) (tv_pure _)
    | sub => exact s_sub (kd_or k) h1 h2 (r_taken (d := d + 1) (by omega) (by omega)) (tv_pure _)
    | mul => exact s_mul (kd_or k) h1 h2 (r_product (d := d + 1) (by omega) (by omega)) (r_product (d := d + 1) (by omega) (by omega)) (r_joined (d := d + 1) (by omega) (by omega)) (tv_pure _)
    | div => exact s_div (kd_or k) h1 h2 (r_product (d := d + 1) (by omega) (by omega)) (r_product (d := d + 1) (by omega) (by omega)) (r_taken (d := d + 1) (by omega) (by omega)) (r_ratio (d := d + 1) (b := .pw b 2) (by omega) (by omega)) (tv_pure _)
/-! ### replaced -/
theorem e_num : callN F (d + 1) n_replaced [.tup [.str "num", fr a], u, v] S = .ok (.tup [.str "num", fr a]) S := by
  rw [callN_of (fd := ⟨3, 4, b_replaced⟩) rfl rfl]
  exact run_ret (by simp [st_replaced_0, st_replaced_1, st_replaced_2, st_replaced_3, st_replaced_4, st_replaced_5, b_replaced, bd_ok, bd_exc, st_ok, st_exc, xss_cons, xss_nil, seq_next, seq_ret, seq_brk, seq_cont, seq_exc, eqV_int, xst, ev, evT, evs, evo, evc, evi, itemAt, MP.placeOf, bindT, bindTs, unslot, hold, unhold, subR, freeze, ix_tup, ix_lst, ix_r, cm_eq, cm_ne, cm_lt, cm_le, cm_gt, cm_ge, cm_isn, cm_nisn, cm_isb, cm_inn, cm_nin, op_ad, op_sb, op_ml, op_dv, op_md, op_pw, op_sl, op_as, op_at, op_mt, op_al, bi_abs, bi_int, bi_intb, bi_ints, bi_lent, bi_lenl, bi_lenr, bi_lens, bi_listt, bi_listl, bi_tupt, bi_tupl, bi_tupr, bi_gcd, bi_max, bi_min, bi_str, bi_sum, bi_all, bi_any, tr_non, tr_bl, tr_int, tr_tup, tr_lst, ty_nt, ty_tt, ty_ti, ty_ii, ty_it, ty_is, sl_tup, sl_lst, sq_tup, sq_lst, ls_lst, th_lst, wk_tup, wk_lst, opt_some, eqV_non, es_num_num, es_num_state, es_num_const, es_num_pow, es_num_add, es_num_sub, es_num_mul, es_num_div, es_state_num, es_state_state, es_state_const, es_state_pow, es_state_add, es_state_sub, es_state_mul, es_state_div, es_const_num, es_const_state, es_const_const, es_const_pow, es_const_add, es_const_sub, es_const_mul, es_const_div, es_pow_num, es_pow_state, es_pow_const, es_pow_pow, es_pow_add, es_pow_sub, es_pow_mul, es_pow_div, es_add_num, es_add_state, es_add_const, es_add_pow, es_add_add, es_add_sub, es_add_mul, es_add_div, es_sub_num, es_sub_state, es_sub_const, es_sub_pow, es_sub_add, es_sub_sub, es_sub_mul, es_sub_div, es_mul_num, es_mul_state, es_mul_const, es_mul_pow, es_mul_add, es_mul_sub, es_mul_mul, es_mul_div, es_div_num, es_div_state, es_div_const, es_div_pow, es_div_add, es_div_sub, es_div_mul, es_div_div, ip_num, ip_state, ip_const, ip_pow, ip_add, ip_sub, ip_mul, ip_div, il_num, il_state, il_const, il_pow, il_add, il_sub, il_mul, il_div, it_num, it_state, it_const, it_pow, it_add, it_sub, it_mul, it_div]) rfl
theorem e_st {i : PV} (h : ∀ S, ixV S u i = some z) (pz : z.pure = true) : callN F (d + 1) n_replaced [.tup [.str "state", i], u, v] S = .ok z S := by
  rw [callN_of (fd := ⟨3, 4, b_replaced⟩) rfl rfl]
  exact run_ret (by simp [st_replaced_0, st_replaced_1, st_replaced_2, st_replaced_3, st_replaced_4, st_replaced_5, b_replaced, bd_ok, bd_exc, st_ok, st_exc, xss_cons, xss_nil, seq_next, seq_ret, seq_brk, seq_cont, seq_exc, eqV_int, xst, ev, evT, evs, evo, evc, evi, itemAt, MP.placeOf, bindT, bindTs, unslot, hold, unhold, subR, freeze, ix_tup, ix_lst, ix_r, cm_eq, cm_ne, cm_lt, cm_le, cm_gt, cm_ge, cm_isn, cm_nisn, cm_isb, cm_inn, cm_nin, op_ad, op_sb, op_ml, op_dv, op_md, op_pw, op_sl, op_as, op_at, op_mt, op_al, bi_abs, bi_int, bi_intb, bi_ints, bi_lent, bi_lenl, bi_lenr, bi_lens, bi_listt, bi_listl, bi_tupt, bi_tupl, bi_tupr, bi_gcd, bi_max, bi_min, bi_str, bi_sum, bi_all, bi_any, tr_non, tr_bl, tr_int, tr_tup, tr_lst, ty_nt, ty_tt, ty_ti, ty_ii, ty_it, ty_is, sl_tup, sl_lst, sq_tup, sq_lst, ls_lst, th_lst, wk_tup, wk_lst, opt_some, eqV_non, es_num_num, es_num_state, es_num_const, es_num_pow, es_num_add, es_num_sub, es_num_mul, es_num_div, es_state_num, es_state_state, es_state_const, es_state_pow, es_state_add, es_state_sub, es_state_mul, es_state_div, es_const_num, es_const_state, es_const_const, es_const_pow, es_const_add, es_const_sub, es_const_mul, es_const_div, es_pow_num, es_pow_state, es_pow_const, es_pow_pow, es_pow_add, es_pow_sub, es_pow_mul, es_pow_div, es_add_num, es_add_state, es_add_const, es_add_pow, es_add_add, es_add_sub, es_add_mul, es_add_div, es_sub_num, es_sub_state, es_sub_const, es_sub_pow, es_sub_add, es_sub_sub, es_sub_mul, es_sub_div, es_mul_num, es_mul_state, es_mul_const, es_mul_pow, es_mul_add, es_mul_sub, es_mul_mul, es_mul_div, es_div_num, es_div_state, es_div_const, es_div_pow, es_div_add, es_div_sub, es_div_mul, es_div_div, ip_num, ip_state, ip_const, ip_pow, ip_add, ip_sub, ip_mul, ip_div, il_num, il_state, il_const, il_pow, il_add, il_sub, il_mul, il_div, it_num, it_state, it_const, it_pow, it_add, it_sub, it_mul, it_div, h]) pz
theorem e_cn {i : PV} (h : ∀ S, ixV S v i = some z) (pz : z.pure = true) : callN F (d + 1) n_replaced [.tup [.str "const", i], u, v] S = .ok z S := by
  rw [callN_of (fd := ⟨3, 4, b_replaced⟩) rfl rfl]
  exact run_ret (by simp [st_replaced_0, st_replaced_1, st_replaced_2, st_replaced_3, st_replaced_4, st_replaced_5, b_replaced, bd_ok, bd_exc, st_ok, st_exc, xss_cons, xss_nil, seq_next, seq_ret, seq_brk, seq_cont, seq_exc, eqV_int, xst, ev, evT, evs, evo, evc, evi, itemAt, MP.placeOf, bindT, bindTs, unslot, hold, unhold, subR, freeze, ix_tup, ix_lst, ix_r, cm_eq, cm_ne, cm_lt, cm_le, cm_gt, cm_ge, cm_isn, cm_nisn, cm_isb, cm_inn, cm_nin, op_ad, op_sb, op_ml, op_dv, op_md, op_pw, op_sl, op_as, op_at, op_mt, op_al, bi_abs, bi_int, bi_intb, bi_ints, bi_lent, bi_lenl, bi_lenr, bi_lens, bi_listt, bi_listl, bi_tupt, bi_tupl, bi_tupr, bi_gcd, bi_max, bi_min, bi_str, bi_sum, bi_all, bi_any, tr_non, tr_bl, tr_int, tr_tup, tr_lst, ty_nt, ty_tt, ty_ti, ty_ii, ty_it, ty_is, sl_tup, sl_lst, sq_tup, sq_lst, ls_lst, th_lst, wk_tup, wk_lst, opt_some, eqV_non, es_num_num, es_num_state, es_num_const, es_num_pow, es_num_add, es_num_sub, es_num_mul, es_num_div, es_state_num, es_state_state, es_state_const, es_state_pow, es_state_add, es_state_sub, es_state_mul, es_state_div, es_const_num, es_const_state, es_const_const, es_const_pow, es_const_add, es_const_sub, es_const_mul, es_const_div, es_pow_num, es_pow_state, es_pow_const, es_pow_pow, es_pow_add, es_pow_sub, es_pow_mul, es_pow_div, es_add_num, es_add_state, es_add_const, es_add_pow, es_add_add, es_add_sub, es_add_mul, es_add_div, es_sub_num, es_sub_state, es_sub_const, es_sub_pow, es_sub_add, es_sub_sub, es_sub_mul, es_sub_div, es_mul_num, es_mul_state, es_mul_const, es_mul_pow, es_mul_add, es_mul_sub, es_mul_mul, es_mul_div, es_div_num, es_div_state, es_div_const, es_div_pow, es_div_add, es_div_sub, es_div_mul, es_div_div, ip_num, ip_state, ip_const, ip_pow, ip_add, ip_sub, ip_mul, ip_div, il_num, il_state, il_const, il_pow, il_add, il_sub, il_mul, il_div, it_num, it_state, it_const, it_pow, it_add, it_sub, it_mul, it_div, h]) pz
theorem e_pw (h : callN F d n_replaced [x, u, v] ⟨S.cells, false⟩ = .ok z ⟨S.cells, false⟩) (pz : (PV.tup [.str "pow", z, y]).pure = true) : callN F (d + 1) n_replaced [.tup [.str "pow", x, y], u, v] S = .ok (.tup [.str "pow", z, y]) S := by
  rw [callN_of (fd := ⟨3, 4, b_replaced⟩) rfl rfl]
  exact run_ret (by simp [st_replaced_0, st_replaced_1, st_replaced_2, st_replaced_3, st_replaced_4, st_replaced_5, b_replaced, bd_ok, bd_exc, st_ok, st_exc, xss_cons, xss_nil, seq_next, seq_ret, seq_brk, seq_cont, seq_exc, eqV_int, xst, ev, evT, evs, evo, evc, evi, itemAt, MP.placeOf, bindT, bindTs, unslot, hold, unhold, subR, freeze, ix_tup, ix_lst, ix_r, cm_eq, cm_ne, cm_lt, cm_le, cm_gt, cm_ge, cm_isn, cm_nisn, cm_isb, cm_inn, cm_nin, op_ad, op_sb, op_ml, op_dv, op_md, op_pw, op_sl, op_as, op_at, op_mt, op_al, bi_abs, bi_int, bi_intb, bi_ints, bi_lent, bi_lenl, bi_lenr, bi_lens, bi_listt, bi_listl, bi_tupt, bi_tupl, bi_tupr, bi_gcd, bi_max, bi_min, bi_str, bi_sum, bi_all, bi_any, tr_non, tr_bl, tr_int, tr_tup, tr_lst, ty_nt, ty_tt, ty_ti, ty_ii, ty_it, ty_is, sl_tup, sl_lst, sq_tup, sq_lst, ls_lst, th_lst, wk_tup, wk_lst, opt_some, eqV_non, es_num_num, es_num_state, es_num_const, es_num_pow, es_num_add, es_num_sub, es_num_mul, es_num_div, es_state_num, es_state_state, es_state_const, es_state_pow, es_state_add, es_state_sub, es_state_mul, es_state_div, es_const_num, es_const_state, es_const_const, es_const_pow, es_const_add, es_const_sub, es_const_mul, es_const_div, es_pow_num, es_pow_state, es_pow_const, es_pow_pow, es_pow_add, es_pow_sub, es_pow_mul, es_pow_div, es_add_num, es_add_state, es_add_const, es_add_pow, es_add_add, es_add_sub, es_add_mul, es_add_div, es_sub_num, es_sub_state, es_sub_const, es_sub_pow, es_sub_add, es_sub_sub, es_sub_mul, es_sub_div, es_mul_num, es_mul_state, es_mul_const, es_mul_pow, es_mul_add, es_mul_sub, es_mul_mul, es_mul_div, es_div_num, es_div_state, es_div_const, es_div_pow, es_div_add, es_div_sub, es_div_mul, es_div_div, ip_num, ip_state, ip_const, ip_pow, ip_add, ip_sub, ip_mul, ip_div, il_num, il_state, il_const, il_pow, il_add, il_sub, il_mul, il_div, it_num, it_state, it_const, it_pow, it_add, it_sub, it_mul, it_div, h]) pz
theorem e_bin {o : Bo} (h : callN F d n_replaced [x, u, v] ⟨S.cells, false⟩ = .ok z ⟨S.cells, false⟩) (h2 : callN F d n_replaced [y, u, v] ⟨S.cells, false⟩ = .ok w ⟨S.cells, false⟩) (pz : (PV.tup [.str o.nm, z, w]).pure = true) :
    callN F (d + 1) n_replaced [.tup [.str o.nm, x, y], u, v] S = .ok (.tup [.str o.nm, z, w]) S := by
  rw [callN_of (fd := ⟨3, 4, b_replaced⟩) rfl rfl]
  refine run_ret ?_ pz
  cases o <;> simp [st_replaced_0, st_replaced_1, st_replaced_2, st_replaced_3, st_replaced_4, st_replaced_5, b_replaced, bd_ok, bd_exc, st_ok, st_exc, xss_cons, xss_nil, seq_next, seq_ret, seq_brk, seq_cont, seq_exc, eqV_int, xst, ev, evT, evs, evo, evc, evi, itemAt, MP.placeOf, bindT, bindTs, unslot, hold, unhold, subR, freeze, ix_tup, ix_lst, ix_r, cm_eq, cm_ne, cm_lt, cm_le, cm_gt, cm_ge, cm_isn, cm_nisn, cm_isb, cm_inn, cm_nin, op_ad, op_sb, op_ml, op_dv, op_md, op_pw, op_sl, op_as, op_at, op_mt, op_al, bi_abs, bi_int, bi_intb, bi_ints, bi_lent, bi_lenl, bi_lenr, bi_lens, bi_listt, bi_listl, bi_tupt, bi_tupl, bi_tupr, bi_gcd, bi_max, bi_min, bi_str, bi_sum, bi_all, bi_any, tr_non, tr_bl, tr_int, tr_tup, tr_lst, ty_nt, ty_tt, ty_ti, ty_ii, ty_it, ty_is, sl_tup, sl_lst, sq_tup, sq_lst, ls_lst, th_lst, wk_tup, wk_lst, opt_some, eqV_non, es_num_num, es_num_state, es_num_const, es_num_pow, es_num_add, es_num_sub, es_num_mul, es_num_div, es_state_num, es_state_state, es_state_const, es_state_pow, es_state_add, es_state_sub, es_state_mul, es_state_div, es_const_num, es_const_state, es_const_const, es_const_pow, es_const_add, es_const_sub, es_const_mul, es_const_div, es_pow_num, es_pow_state, es_pow_const, es_pow_pow, es_pow_add, es_pow_sub, es_pow_mul, es_pow_div, es_add_num, es_add_state, es_add_const, es_add_pow, es_add_add, es_add_sub, es_add_mul, es_add_div, es_sub_num, es_sub_state, es_sub_const, es_sub_pow, es_sub_add, es_sub_sub, es_sub_mul, es_sub_div, es_mul_num, es_mul_state, es_mul_const, es_mul_pow, es_mul_add, es_mul_sub, es_mul_mul, es_mul_div, es_div_num, es_div_state, es_div_const, es_div_pow, es_div_add, es_div_sub, es_div_mul, es_div_div, ip_num, ip_state, ip_const, ip_pow, ip_add, ip_sub, ip_mul, ip_div, il_num, il_state, il_const, il_pow, il_add, il_sub, il_mul, il_div, it_num, it_state, it_const, it_pow, it_add, it_sub, it_mul, it_div, Bo.nm, h, h2]
def rp (X C : Nat → Tr) : Tr → Tr
  | .num q => .num q
  | .st i => X i
  | .cn i => C i
  | .pw t m => .pw (rp X C t) m
  | .bin o a b => .bin o (rp X C a) (rp X C b)
theorem r_replaced {k n c m : Nat} {X C : Nat → Tr} {xv cv : PV} (ix : ∀ i S, i < n → ixV S xv (.int (i : Nat)) = some (X i).tv) (ic : ∀ i S, i < c → ixV S cv (.int (i : Nat)) = some (C i).tv) : ∀ (t : Tr) (e : Nat) (S : Sto), t.ht + 1 ≤ e → t.okT k n c m → callN F e n_replaced [t.tv, xv, cv] S = .ok (rp X C t).tv S := by
  intro t
  induction t with
  | num q => intro e S he _; obtain ⟨d, rfl⟩ : ∃ d, e = d + 1 := ⟨e - 1, by omega⟩; exact e_num
  | st i => intro e S he ok; obtain ⟨d, rfl⟩ : ∃ d, e = d + 1 := ⟨e - 1, by omega⟩; exact e_st (fun S => ix i S ok) (tv_pure _)
  | cn i => intro e S he ok; obtain ⟨d, rfl⟩ : ∃ d, e = d + 1 := ⟨e - 1, by omega⟩; exact e_cn (fun S => ic i S ok) (tv_pure _)
  | pw t m ih =>
    intro e S he ok
    have hh : (Tr.pw t m).ht = t.ht + 1 := rfl
    obtain ⟨d, rfl⟩ : ∃ d, e = d + 1 := ⟨e - 1, by omega⟩
    exact e_pw (ih d _ (by omega) ok.1) (tv_pure (rp X C (.pw t m)))
  | bin o a b iha ihb =>
    intro e S he ok
    have hh : (Tr.bin o a b).ht = max a.ht b.ht + 1 := rfl
    obtain ⟨d, rfl⟩ : ∃ d, e = d + 1 := ⟨e - 1, by omega⟩
    exact e_bin (iha d _ (by omega) ok.1) (ihb d _ (by omega) ok.2) (tv_pure (rp X C (.bin o a b)))
end
end K04
end
section
set_option Elab.async false
set_option linter.all false
set_option maxRecDepth 100000
set_option maxHeartbeats 1000000
namespace K04
open PySem MP
section
variable {d k n : Nat} {a b c e : Rat} {S : Sto} {ns : List Int} {u i w : Int} {tl : List Cell}
theorem l_pair (hu : 0 ≤ u) (hi : 0 ≤ i) : ∃ q u' i' w', callN F (d + 4) n__law_pair [.ref 0] (G ns u i w tl) = .ok (fr q) (G ns u' i' w' tl) ∧ szq 5 q ∧ 0 ≤ u' ∧ 0 ≤ i' := by
  rw [callN_of (fd := ⟨1, 2, b__law_pair⟩) rfl rfl]
  obtain ⟨r1, u1, i1, w1, e1, p1, p2, p3, p4⟩ := c_draw (d := d) (ns := ns) (c := w) (m := 5) (tl := tl) hu hi (by decide)
  obtain ⟨r2, u2, i2, w2, e2, p5, p6, p7, p8⟩ := c_draw (d := d) (ns := ns) (c := w1) (m := 8 * (1 + r1) + 1) (tl := tl) p3 p4 (by omega)
  have z1 : sz 5 (r2 - 4 * (1 + r1)) := by unfold sz; omega
  have z2 : sz 5 (1 + r1) := by unfold sz; omega
  have m1 : mulOk 8 (1 + r1) = true := mulOk_l (by unfold sz; decide)
  have m2 : mulOk 4 (1 + r1) = true := mulOk_l (by unfold sz; decide)
  have mk := r_make (d := d + 2) (S := G ns u2 i2 w2 tl) (t := r2 - 4 * (1 + r1)) (b := 1 + r1) (by omega)
  refine ⟨_, u2, i2, w2, run_G0 ?_ (fr_pure _), szq_divInt (by omega) z1 z2, p7, p8⟩
  simp [st__law_pair_0, st__law_pair_1, b__law_pair, bd_ok, bd_exc, st_ok, st_exc, xss_cons, xss_nil, seq_next, seq_ret, seq_brk, seq_cont, seq_exc, eqV_int, xst, ev, evT, evs, evo, evc, evi, itemAt, MP.placeOf, bindT, bindTs, unslot, hold, unhold, subR, freeze, ix_tup, ix_lst, ix_r, cm_eq, cm_ne, cm_lt, cm_le, cm_gt, cm_ge, cm_isn, cm_nisn, cm_isb, cm_inn, cm_nin, op_ad, op_sb, op_ml, op_dv, op_md, op_pw, op_sl, op_as, op_at, op_mt, op_al, bi_abs, bi_int, bi_intb, bi_ints, bi_lent, bi_lenl, bi_lenr, bi_lens, bi_listt, bi_listl, bi_tupt, bi_tupl, bi_tupr, bi_gcd, bi_max, bi_min, bi_str, bi_sum, bi_all, bi_any, tr_non, tr_bl, tr_int, tr_tup, tr_lst, ty_nt, ty_tt, ty_ti, ty_ii, ty_it, ty_is, sl_tup, sl_lst, sq_tup, sq_lst, ls_lst, th_lst, wk_tup, wk_lst, opt_some, eqV_non, e1, e2, m1, m2, mk]
theorem t_st {d : Nat} {m r : Int} {u1 i1 w1 : Int} (e1 : callN F (d + 5) n__law_draw [.ref 0, .int (if m > 0 then 8 else 3)] (G ns u i w tl) = .ok (.int r) (G ns u1 i1 w1 tl)) :
    xst (callN F (d + 5)) (1 + tl.length) st__law_tree_0 [some (.ref 0), some (.int m), none, none] (G ns u i w tl) = .next [some (.ref 0), some (.int m), some (.int r), none] (G ns u1 i1 w1 tl) := by
  by_cases h : 0 < m
  · rw [if_pos h] at e1
    simp [st__law_tree_0, bd_ok, bd_exc, st_ok, st_exc, xss_cons, xss_nil, seq_next, seq_ret, seq_brk, seq_cont, seq_exc, eqV_int, xst, ev, evT, evs, evo, evc, evi, itemAt, MP.placeOf, bindT, bindTs, unslot, hold, unhold, subR, freeze, ix_tup, ix_lst, ix_r, cm_eq, cm_ne, cm_lt, cm_le, cm_gt, cm_ge, cm_isn, cm_nisn, cm_isb, cm_inn, cm_nin, op_ad, op_sb, op_ml, op_dv, op_md, op_pw, op_sl, op_as, op_at, op_mt, op_al, bi_abs, bi_int, bi_intb, bi_ints, bi_lent, bi_lenl, bi_lenr, bi_lens, bi_listt, bi_listl, bi_tupt, bi_tupl, bi_tupr, bi_gcd, bi_max, bi_min, bi_str, bi_sum, bi_all, bi_any, tr_non, tr_bl, tr_int, tr_tup, tr_lst, ty_nt, ty_tt, ty_ti, ty_ii, ty_it, ty_is, sl_tup, sl_lst, sq_tup, sq_lst, ls_lst, th_lst, wk_tup, wk_lst, opt_some, eqV_non, h, e1]
  · rw [if_neg h] at e1
    simp [st__law_tree_0, bd_ok, bd_exc, st_ok, st_exc, xss_cons, xss_nil, seq_next, seq_ret, seq_brk, seq_cont, seq_exc, eqV_int, xst, ev, evT, evs, evo, evc, evi, itemAt, MP.placeOf, bindT, bindTs, unslot, hold, unhold, subR, freeze, ix_tup, ix_lst, ix_r, cm_eq, cm_ne, cm_lt, cm_le, cm_gt, cm_ge, cm_isn, cm_nisn, cm_isb, cm_inn, cm_nin, op_ad, op_sb, op_ml, op_dv, op_md, op_pw, op_sl, op_as, op_at, op_mt, op_al, bi_abs, bi_int, bi_intb, bi_ints, bi_lent, bi_lenl, bi_lenr, bi_lens, bi_listt, bi_listl, bi_tupt, bi_tupl, bi_tupr, bi_gcd, bi_max, bi_min, bi_str, bi_sum, bi_all, bi_any, tr_non, tr_bl, tr_int, tr_tup, tr_lst, ty_nt, ty_tt, ty_ti, ty_ii, ty_it, ty_is, sl_tup, sl_lst, sq_tup, sq_lst, ls_lst, th_lst, wk_tup, wk_lst, opt_some, eqV_non, h, e1]
theorem l_tree : ∀ (m e : Nat) (u i w : Int) (tl : List Cell), m + 6 ≤ e → 0 ≤ u → 0 ≤ i → ∃ (t : Tr) (u' i' w' : Int), callN F e n__law_tree [.ref 0, .int m] (G ns u i w tl) = .ok t.tv (G ns u' i' w' tl) ∧ t.okT 5 2 2 5 ∧ t.ht ≤ m ∧ 0 ≤ u' ∧ 0 ≤ i' := by
  intro m
  induction m with
  | zero =>
    intro e u i w tl he hu hi
    obtain ⟨d, rfl⟩ : ∃ d, e = d + 6 := ⟨e - 6, by omega⟩
    rw [callN_of (fd := ⟨2, 4, b__law_tree⟩) rfl rfl]
    obtain ⟨r, u1, i1, w1, e1, p1, p2, p3, p4⟩ := c_draw (d := d + 2) (ns := ns) (c := w) (m := 3) (tl := tl) hu hi (by decide)
    have first := t_st (m := 0) e1
    have q : r = 0 ∨ r = 1 ∨ r = 2 := by omega
    rcases q with rfl | rfl | rfl
    · obtain ⟨x, u2, i2, w2, e2, zx, p5, p6⟩ := l_pair (d := d + 1) (ns := ns) (w := w1) (tl := tl) p3 p4
      refine ⟨.num x, u2, i2, w2, run_G0 ?_ (tv_pure _), zx, Nat.le_refl _, p5, p6⟩
      unfold b__law_tree
      refine (xss_step first).trans ?_
      simp [st__law_tree_0, st__law_tree_1, st__law_tree_2, st__law_tree_3, st__law_tree_4, st__law_tree_5, st__law_tree_6, b__law_tree, bd_ok, bd_exc, st_ok, st_exc, xss_cons, xss_nil, seq_next, seq_ret, seq_brk, seq_cont, seq_exc, eqV_int, xst, ev, evT, evs, evo, evc, evi, itemAt, MP.placeOf, bindT, bindTs, unslot, hold, unhold, subR, freeze, ix_tup, ix_lst, ix_r, cm_eq, cm_ne, cm_lt, cm_le, cm_gt, cm_ge, cm_isn, cm_nisn, cm_isb, cm_inn, cm_nin, op_ad, op_sb, op_ml, op_dv, op_md, op_pw, op_sl, op_as, op_at, op_mt, op_al, bi_abs, bi_int, bi_intb, bi_ints, bi_lent, bi_lenl, bi_lenr, bi_lens, bi_listt, bi_listl, bi_tupt, bi_tupl, bi_tupr, bi_gcd, bi_max, bi_min, bi_str, bi_sum, bi_all, bi_any, tr_non, tr_bl, tr_int, tr_tup, tr_lst, ty_nt, ty_tt, ty_ti, ty_ii, ty_it, ty_is, sl_tup, sl_lst, sq_tup, sq_lst, ls_lst, th_lst, wk_tup, wk_lst, opt_some, eqV_non, e2, Tr.tv]
    · obtain ⟨x, u2, i2, w2, e2, q1, q2, p5, p6⟩ := c_draw (d := d + 2) (ns := ns) (c := w1) (m := 2) (tl := tl) p3 p4 (by decide)
      obtain ⟨k, rfl⟩ := Int.eq_ofNat_of_zero_le q1
      refine ⟨.st k, u2, i2, w2, run_G0 ?_ (tv_pure _), (by show k < 2; omega), Nat.le_refl _, p5, p6⟩
      unfold b__law_tree
      refine (xss_step first).trans ?_
      simp [st__law_tree_0, st__law_tree_1, st__law_tree_2, st__law_tree_3, st__law_tree_4, st__law_tree_5, st__law_tree_6, b__law_tree, bd_ok, bd_exc, st_ok, st_exc, xss_cons, xss_nil, seq_next, seq_ret, seq_brk, seq_cont, seq_exc, eqV_int, xst, ev, evT, evs, evo, evc, evi, itemAt, MP.placeOf, bindT, bindTs, unslot, hold, unhold, subR, freeze, ix_tup, ix_lst, ix_r, cm_eq, cm_ne, cm_lt, cm_le, cm_gt, cm_ge, cm_isn, cm_nisn, cm_isb, cm_inn, cm_nin, op_ad, op_sb, op_ml, op_dv, op_md, op_pw, op_sl, op_as, op_at, op_mt, op_al, bi_abs, bi_int, bi_intb, bi_ints, bi_lent, bi_lenl, bi_lenr, bi_lens, bi_listt, bi_listl, bi_tupt, bi_tupl, bi_tupr, bi_gcd, bi_max, bi_min, bi_str, bi_sum, bi_all, bi_any, tr_non, tr_bl, tr_int, tr_tup, tr_lst, ty_nt, ty_tt, ty_ti, ty_ii, ty_it, ty_is, sl_tup, sl_lst, sq_tup, sq_lst, ls_lst, th_lst, wk_tup, wk_lst, opt_some, eqV_non, e2, Tr.tv]
    · obtain ⟨x, u2, i2, w2, e2, q1, q2, p5, p6⟩ := c_draw (d := d + 2) (ns := ns) (c := w1) (m := 2) (tl := tl) p3 p4 (by decide)
      obtain ⟨k, rfl⟩ := Int.eq_ofNat_of_zero_le q1
      refine ⟨.cn k, u2, i2, w2, run_G0 ?_ (tv_pure _), (by show k < 2; omega), Nat.le_refl _, p5, p6⟩
      unfold b__law_tree
      refine (xss_step first).trans ?_
      simp [st__law_tree_0, st__law_tree_1, st__law_tree_2, st__law_tree_3, st__law_tree_4, st__law_tree_5, st__law_tree_6, b__law_tree, bd_ok, bd_exc, st_ok, st_exc, xss_cons, xss_nil, seq_next, seq_ret, seq_brk, seq_cont, seq_exc, eqV_int, xst, ev, evT, evs, evo, evc, evi, itemAt, MP.placeOf, bindT, bindTs, unslot, hold, unhold, subR, freeze, ix_tup, ix_lst, ix_r, cm_eq, cm_ne, cm_lt, cm_le, cm_gt, cm_ge, cm_isn, cm_nisn, cm_isb, cm_inn, cm_nin, op_ad, op_sb, op_ml, op_dv, op_md, op_pw, op_sl, op_as, op_at, op_mt, op_al, bi_abs, bi_int, bi_intb, bi_ints, bi_lent, bi_lenl, bi_lenr, bi_lens, bi_listt, bi_listl, bi_tupt, bi_tupl, bi_tupr, bi_gcd, bi_max, bi_min, bi_str, bi_sum, bi_all, bi_any, tr_non, tr_bl, tr_int, tr_tup, tr_lst, ty_nt, ty_tt, ty_ti, ty_ii, ty_it, ty_is, sl_tup, sl_lst, sq_tup, sq_lst, ls_lst, th_lst, wk_tup, wk_lst, opt_some, eqV_non, e2, Tr.tv]
  | succ m ih =>
    intro e u i w tl he hu hi
    obtain ⟨d, rfl⟩ : ∃ d, e = d + 6 := ⟨e - 6, by omega⟩
    rw [callN_of (fd := ⟨2, 4, b__law_tree⟩) rfl rfl]
    obtain ⟨r, u1, i1, w1, e1, p1, p2, p3, p4⟩ := c_draw (d := d + 2) (ns := ns) (c := w) (m := 8) (tl := tl) hu hi (by decide)
    have first := t_st (d := d) (m := ((m + 1 : Nat) : Int)) (by rw [if_pos (by omega)]; exact e1)
    generalize hM : ((m + 1 : Nat) : Int) = M at first
    have sb : M - 1 = m := by omega
    have q : r = 0 ∨ r = 1 ∨ r = 2 ∨ r = 7 ∨ (3 ≤ r ∧ r ≤ 6) := by omega
    rcases q with rfl | rfl | rfl | rfl | ⟨r3, r6⟩
    · obtain ⟨x, u2, i2, w2, e2, zx, p5, p6⟩ := l_pair (d := d + 1) (ns := ns) (w := w1) (tl := tl) p3 p4
      refine ⟨.num x, u2, i2, w2, run_G0 ?_ (tv_pure _), zx, Nat.zero_le _, p5, p6⟩
      unfold b__law_tree
      refine (xss_step first).trans ?_
      simp [st__law_tree_0, st__law_tree_1, st__law_tree_2, st__law_tree_3, st__law_tree_4, st__law_tree_5, st__law_tree_6, b__law_tree, bd_ok, bd_exc, st_ok, st_exc, xss_cons, xss_nil, seq_next, seq_ret, seq_brk, seq_cont, seq_exc, eqV_int, xst, ev, evT, evs, evo, evc, evi, itemAt, MP.placeOf, bindT, bindTs, unslot, hold, unhold, subR, freeze, ix_tup, ix_lst, ix_r, cm_eq, cm_ne, cm_lt, cm_le, cm_gt, cm_ge, cm_isn, cm_nisn, cm_isb, cm_inn, cm_nin, op_ad, op_sb, op_ml, op_dv, op_md, op_pw, op_sl, op_as, op_at, op_mt, op_al, bi_abs, bi_int, bi_intb, bi_ints, bi_lent, bi_lenl, bi_lenr, bi_lens, bi_listt, bi_listl, bi_tupt, bi_tupl, bi_tupr, bi_gcd, bi_max, bi_min, bi_str, bi_sum, bi_all, bi_any, tr_non, tr_bl, tr_int, tr_tup, tr_lst, ty_nt, ty_tt, ty_ti, ty_ii, ty_it, ty_is, sl_tup, sl_lst, sq_tup, sq_lst, ls_lst, th_lst, wk_tup, wk_lst, opt_some, eqV_non, e2, Tr.tv]
    · obtain ⟨x, u2, i2, w2, e2, q1, q2, p5, p6⟩ := c_draw (d := d + 2) (ns := ns) (c := w1) (m := 2) (tl := tl) p3 p4 (by decide)
      obtain ⟨k, rfl⟩ := Int.eq_ofNat_of_zero_le q1
      refine ⟨.st k, u2, i2, w2, run_G0 ?_ (tv_pure _), (by show k < 2; omega), Nat.zero_le _, p5, p6⟩
      unfold b__law_tree
      refine (xss_step first).trans ?_
      simp [st__law_tree_0, st__law_tree_1, st__law_tree_2, st__law_tree_3, st__law_tree_4, st__law_tree_5, st__law_tree_6, b__law_tree, bd_ok, bd_exc, st_ok, st_exc, xss_cons, xss_nil, seq_next, seq_ret, seq_brk, seq_cont, seq_exc, eqV_int, xst, ev, evT, evs, evo, evc, evi, itemAt, MP.placeOf, bindT, bindTs, unslot, hold, unhold, subR, freeze, ix_tup, ix_lst, ix_r, cm_eq, cm_ne, cm_lt, cm_le, cm_gt, cm_ge, cm_isn, cm_nisn, cm_isb, cm_inn, cm_nin, op_ad, op_sb, op_ml, op_dv, op_md, op_pw, op_sl, op_as, op_at, op_mt, op_al, bi_abs, bi_int, bi_intb, bi_ints, bi_lent, bi_lenl, bi_lenr, bi_lens, bi_listt, bi_listl, bi_tupt, bi_tupl, bi_tupr, bi_gcd, bi_max, bi_min, bi_str, bi_sum, bi_all, bi_any, tr_non, tr_bl, tr_int, tr_tup, tr_lst, ty_nt, ty_tt, ty_ti, ty_ii, ty_it, ty_is, sl_tup, sl_lst, sq_tup, sq_lst, ls_lst, th_lst, wk_tup, wk_lst, opt_some, eqV_non, e2, Tr.tv]
    · obtain ⟨x, u2, i2, w2, e2, q1, q2, p5, p6⟩ := c_draw (d := d + 2) (ns := ns) (c := w1) (m := 2) (tl := tl) p3 p4 (by decide)
      obtain ⟨k, rfl⟩ := Int.eq_ofNat_of_zero_le q1
      refine ⟨.cn k, u2, i2, w2, run_G0 ?_ (tv_pure _), (by show k < 2; omega), Nat.zero_le _, p5, p6⟩
      unfold b__law_tree
      refine (xss_step first).trans ?_
      simp [st__law_tree_0, st__law_tree_1, st__law_tree_2, st__law_tree_3, st__law_tree_4, st__law_tree_5, st__law_tree_6, b__law_tree, bd_ok, bd_exc, st_ok, st_exc, xss_cons, xss_nil, seq_next, seq_ret, seq_brk, seq_cont, seq_exc, eqV_int, xst, ev, evT, evs, evo, evc, evi, itemAt, MP.placeOf, bindT, bindTs, unslot, hold, unhold, subR, freeze, ix_tup, ix_lst, ix_r, cm_eq, cm_ne, cm_lt, cm_le, cm_gt, cm_ge, cm_isn, cm_nisn, cm_isb, cm_inn, cm_nin, op_ad, op_sb, op_ml, op_dv, op_md, op_pw, op_sl, op_as, op_at, op_mt, op_al, bi_abs, bi_int, bi_intb, bi_ints, bi_lent, bi_lenl, bi_lenr, bi_lens, bi_listt, bi_listl, bi_tupt, bi_tupl, bi_tupr, bi_gcd, bi_max, bi_min, bi_str, bi_sum, bi_all, bi_any, tr_non, tr_bl, tr_int, tr_tup, tr_lst, ty_nt, ty_tt, ty_ti, ty_ii, ty_it, ty_is, sl_tup, sl_lst, sq_tup, sq_lst, ls_lst, th_lst, wk_tup, wk_lst, opt_some, eqV_non, e2, Tr.tv]
    · obtain ⟨t, u2, i2, w2, e2, ok, hh, p5, p6⟩ := ih (d + 5) u1 i1 w1 tl (by omega) p3 p4
      obtain ⟨x, u3, i3, w3, e3, q1, q2, p7, p8⟩ := c_draw (d := d + 2) (ns := ns) (c := w2) (m := 5) (tl := tl) p5 p6 (by decide)
      obtain ⟨k, rfl⟩ := Int.eq_ofNat_of_zero_le q1
      refine ⟨.pw t k, u3, i3, w3, run_G0 ?_ (tv_pure _), ⟨ok, by omega⟩, (by show t.ht + 1 ≤ m + 1; omega), p7, p8⟩
      unfold b__law_tree
      refine (xss_step first).trans ?_
      rw [← sb] at e2
      simp [st__law_tree_0, st__law_tree_1, st__law_tree_2, st__law_tree_3, st__law_tree_4, st__law_tree_5, st__law_tree_6, b__law_tree, bd_ok, bd_exc, st_ok, st_exc, xss_cons, xss_nil, seq_next, seq_ret, seq_brk, seq_cont, seq_exc, eqV_int, xst, ev, evT, evs, evo, evc, evi, itemAt, MP.placeOf, bindT, bindTs, unslot, hold, unhold, subR, freeze, ix_tup, ix_lst, ix_r, cm_eq, cm_ne, cm_lt, cm_le, cm_gt, cm_ge, cm_isn, cm_nisn, cm_isb, cm_inn, cm_nin, op_ad, op_sb, op_ml, op_dv, op_md, op_pw, op_sl, op_as, op_at, op_mt, op_al, bi_abs, bi_int, bi_intb, bi_ints, bi_lent, bi_lenl, bi_lenr, bi_lens, bi_listt, bi_listl, bi_tupt, bi_tupl, bi_tupr, bi_gcd, bi_max, bi_min, bi_str, bi_sum, bi_all, bi_any, tr_non, tr_bl, tr_int, tr_tup, tr_lst, ty_nt, ty_tt, ty_ti, ty_ii, ty_it, ty_is, sl_tup, sl_lst, sq_tup, sq_lst, ls_lst, th_lst, wk_tup, wk_lst, opt_some, eqV_non, e2, e3, Tr.tv]
    · obtain ⟨a, u2, i2, w2, e2, ok, hh, p5, p6⟩ := ih (d + 5) u1 i1 w1 tl (by omega) p3 p4
      obtain ⟨b, u3, i3, w3, e3, ok2, hh2, p7, p8⟩ := ih (d + 5) u2 i2 w2 tl (by omega) p5 p6
      have bo : ∃ o : Bo, itemAt [PV.str "add", .str "sub", .str "mul", .str "div"] (r - 3) = some (.str o.nm) := by
        have q : r = 3 ∨ r = 4 ∨ r = 5 ∨ r = 6 := by omega
        rcases q with rfl | rfl | rfl | rfl
        · exact ⟨.add, rfl⟩
        · exact ⟨.sub, rfl⟩
        · exact ⟨.mul, rfl⟩
        · exact ⟨.div, rfl⟩
      obtain ⟨o, ho⟩ := bo
      have n0 : ¬ r = 0 := by omega
      have n1 : ¬ r = 1 := by omega
      have n2 : ¬ r = 2 := by omega
      have n7 : ¬ r = 7 := by omega
      refine ⟨.bin o a b, u3, i3, w3, run_G0 ?_ (tv_pure _), ⟨ok, ok2⟩, (by show max a.ht b.ht + 1 ≤ m + 1; omega), p7, p8⟩
      unfold b__law_tree
      refine (xss_step first).trans ?_
      rw [← sb] at e2 e3
      have ixl : ∀ S : Sto, ixV S (.lst [PV.str "add", .str "sub", .str "mul", .str "div"]) (.int (r - 3)) = some (.str o.nm) := fun S => ix_lst.trans ho
      have last : ∀ S : Sto, ev (callN F (d + 5)) (1 + tl.length) (.ix (.lst (.cons (.cst (.str "add")) (.cons (.cst (.str "sub")) (.cons (.cst (.str "mul")) (.cons (.cst (.str "div")) .nil))))) (.bin .sub (.var 2) (.cst (.int 3)))) [some (.ref 0), some (.int M), some (.int r), some a.tv] S = .ok (.str o.nm) S := fun S => by
        simp only [ev, evs, List.getElem?_cons_succ, List.getElem?_cons_zero, bd_ok, op_sb, opt_some, ixl]
      simp [st__law_tree_1, st__law_tree_2, st__law_tree_3, st__law_tree_4, st__law_tree_5, bd_ok, bd_exc, st_ok, st_exc, xss_cons, xss_nil, seq_next, seq_ret, seq_brk, seq_cont, seq_exc, eqV_int, xst, ev, evT, evs, evo, evc, evi, itemAt, MP.placeOf, bindT, bindTs, unslot, hold, unhold, subR, freeze, ix_tup, ix_lst, ix_r, cm_eq, cm_ne, cm_lt, cm_le, cm_gt, cm_ge, cm_isn, cm_nisn, cm_isb, cm_inn, cm_nin, op_ad, op_sb, op_ml, op_dv, op_md, op_pw, op_sl, op_as, op_at, op_mt, op_al, bi_abs, bi_int, bi_intb, bi_ints, bi_lent, bi_lenl, bi_lenr, bi_lens, bi_listt, bi_listl, bi_tupt, bi_tupl, bi_tupr, bi_gcd, bi_max, bi_min, bi_str, bi_sum, bi_all, bi_any, tr_non, tr_bl, tr_int, tr_tup, tr_lst, ty_nt, ty_tt, ty_ti, ty_ii, ty_it, ty_is, sl_tup, sl_lst, sq_tup, sq_lst, ls_lst, th_lst, wk_tup, wk_lst, opt_some, eqV_non, n0, n1, n2, n7, e2]
      have e3' := e3
      simp only [st__law_tree_6, xss_cons, xst]
      rw [ev, evs, last]
      simp [bd_ok, bd_exc, st_ok, st_exc, xss_cons, xss_nil, seq_next, seq_ret, seq_brk, seq_cont, seq_exc, eqV_int, xst, ev, evT, evs, evo, evc, evi, itemAt, MP.placeOf, bindT, bindTs, unslot, hold, unhold, subR, freeze, ix_tup, ix_lst, ix_r, cm_eq, cm_ne, cm_lt, cm_le, cm_gt, cm_ge, cm_isn, cm_nisn, cm_isb, cm_inn, cm_nin, op_ad, op_sb, op_ml, op_dv, op_md, op_pw, op_sl, op_as, op_at, op_mt, op_al, bi_abs, bi_int, bi_intb, bi_ints, bi_lent, bi_lenl, bi_lenr, bi_lens, bi_listt, bi_listl, bi_tupt, bi_tupl, bi_tupr, bi_gcd, bi_max, bi_min, bi_str, bi_sum, bi_all, bi_any, tr_non, tr_bl, tr_int, tr_tup, tr_lst, ty_nt, ty_tt, ty_ti, ty_ii, ty_it, ty_is, sl_tup, sl_lst, sq_tup, sq_lst, ls_lst, th_lst, wk_tup, wk_lst, opt_some, eqV_non, e3, Tr.tv]
end
end K04
end
section
set_option Elab.async false
set_option linter.all false
set_option maxRecDepth 100000
set_option maxHeartbeats 1000000
namespace K04
open PySem MP
section
variable {d : Nat} {S : Sto} {x y z u v w : PV} {i j : Int} {p q r : Bool}
/-! ### the law's own values -/
def opp : Option (Int × Int) → PV
  | none => .non
  | some p => pr p.1 p.2
def lop : Bo → Int × Int → Int × Int → Option (Int × Int)
  | .add, p, r => some (p.1 * r.2 + 1 * r.1 * p.2, p.2 * r.2)
  | .sub, p, r => some (p.1 * r.2 + -1 * r.1 * p.2, p.2 * r.2)
  | .mul, p, r => some (p.1 * r.1, p.2 * r.2)
  | .div, p, r => if r.1 = 0 then none else some (p.1 * r.2, p.2 * r.1)
def lv (X C : Nat → Int × Int) : Tr → Option (Int × Int)
  | .num q => some (q.num, q.den)
  | .st i => some (X i)
  | .cn i => some (C i)
  | .pw t m => (lv X C t).map fun p => (p.1 ^ m, p.2 ^ m)
  | .bin o a b => (lv X C a).bind fun p => (lv X C b).bind fun r => lop o p r
/-- a pair that stands for a number -/
structure Rl (q : Rat) (p : Int × Int) (k : Nat) : Prop where
  nz : p.2 ≠ 0
  eq : (p.1 : Rat) = q * (p.2 : Rat)
  s1 : sz k p.1
  s2 : sz k p.2
theorem Rl.mono {q : Rat} {p : Int × Int} {j k : Nat} (h : Rl q p j) (l : j ≤ k) : Rl q p k := ⟨h.nz, h.eq, h.s1.mono l, h.s2.mono l⟩
theorem cast_nz {n : Int} (h : n ≠ 0) : (n : Rat) ≠ 0 := fun e => h (by exact_mod_cast e)
theorem Rl.zero {q : Rat} {p : Int × Int} {k : Nat} (h : Rl q p k) : p.1 = 0 ↔ q = 0 := by
  have n := cast_nz h.nz
  have e := h.eq
  constructor
  · intro z
    rw [z] at e
    have e' : q * (p.2 : Rat) = 0 := by rw [← e]; rfl
    rcases Rat.mul_eq_zero.mp e' with z | z
    · exact z
    · exact absurd z n
  · intro z
    rw [z, Rat.zero_mul] at e
    exact_mod_cast e
theorem Rl.fr (q : Rat) {k : Nat} (h : szq k q) : Rl q (q.num, (q.den : Int)) k := by
  refine ⟨den_ne q, ?_, h.1, h.2⟩
  have z := num_den q
  exact z.symm
theorem sz_1 : sz 1 1 := by unfold sz; decide
theorem sz_m1 : sz 1 (-1) := by unfold sz; decide
theorem lop_ok {o : Bo} {x y : Rat} {p r : Int × Int} {j k : Nat} (h1 : Rl x p j) (h2 : Rl y r k) : match lop o p r, o.op x y with
    | some p', some z => Rl z p' (j + k + 2)
    | none, none => True
    | _, _ => False := by
  have n1 := cast_nz h1.nz
  have n2 := cast_nz h2.nz
  have e1 := h1.eq
  have e2 := h2.eq
  cases o with
  | add =>
    show Rl (x + y) (p.1 * r.2 + 1 * r.1 * p.2, p.2 * r.2) _
    refine ⟨Int.mul_ne_zero h1.nz h2.nz, ?_, ?_, ?_⟩
    · show ((p.1 * r.2 + 1 * r.1 * p.2 : Int) : Rat) = (x + y) * ((p.2 * r.2 : Int) : Rat)
      push_cast
      grind
    · rw [Int.one_mul]
      exact (((h1.s1.mul h2.s2)).add ((h2.s1.mul h1.s2).mono (by omega))).mono (by omega)
    · exact (h1.s2.mul h2.s2).mono (by omega)
  | sub =>
    show Rl (x - y) (p.1 * r.2 + -1 * r.1 * p.2, p.2 * r.2) _
    refine ⟨Int.mul_ne_zero h1.nz h2.nz, ?_, ?_, ?_⟩
    · show ((p.1 * r.2 + -1 * r.1 * p.2 : Int) : Rat) = (x - y) * ((p.2 * r.2 : Int) : Rat)
      push_cast
      grind
    · have : sz k (-1 * r.1) := by rw [Int.neg_mul, Int.one_mul]; exact h2.s1.neg
      exact (((h1.s1.mul h2.s2)).add ((this.mul h1.s2).mono (by omega))).mono (by omega)
    · exact (h1.s2.mul h2.s2).mono (by omega)
  | mul =>
    show Rl (x * y) (p.1 * r.1, p.2 * r.2) _
    refine ⟨Int.mul_ne_zero h1.nz h2.nz, ?_, (h1.s1.mul h2.s1).mono (by omega), (h1.s2.mul h2.s2).mono (by omega)⟩
    show ((p.1 * r.1 : Int) : Rat) = (x * y) * ((p.2 * r.2 : Int) : Rat)
    push_cast
    grind
  | div =>
    show match (if r.1 = 0 then none else some (p.1 * r.2, p.2 * r.1) : Option (Int × Int)), (if y = 0 then none else some (x / y) : Option Rat) with
      | some p', some z => Rl z p' (j + k + 2)
      | none, none => True
      | _, _ => False
    by_cases hy : y = 0
    · rw [if_pos hy, if_pos (h2.zero.mpr hy)]
      trivial
    · have hr : ¬ r.1 = 0 := fun z => hy (h2.zero.mp z)
      rw [if_neg hy, if_neg hr]
      refine ⟨Int.mul_ne_zero h1.nz hr, ?_, (h1.s1.mul h2.s2).mono (by omega), (h1.s2.mul h2.s1).mono (by omega)⟩
      show ((p.1 * r.2 : Int) : Rat) = (x / y) * ((p.2 * r.1 : Int) : Rat)
      push_cast
      rw [e1, e2, Rat.div_def]
      grind
theorem lv_ok {k n c m : Nat} {X C : Nat → Int × Int} {X' C' : Nat → Rat} (hX : ∀ i, i < n → Rl (X' i) (X i) k) (hC : ∀ i, i < c → Rl (C' i) (C i) k) : ∀ {t : Tr}, t.okT k n c m → match lv X C t, vl X' C' t with
    | some p, some q => Rl q p (bt k t)
    | none, none => True
    | _, _ => False
  | .num q, ok => Rl.fr q ok
  | .st i, ok => hX i ok
  | .cn i, ok => hC i ok
  | .pw t e, ok => by
    have ih := lv_ok hX hC ok.1
    rw [vl_pw]
    show match (lv X C t).map fun p => (p.1 ^ e, p.2 ^ e), (vl X' C' t).map fun q => q ^ e with
      | some p, some q => Rl q p (bt k t * (e + 1) + 2)
      | none, none => True
      | _, _ => False
    cases h1 : lv X C t with
    | none => cases h2 : vl X' C' t with
      | none => trivial
      | some q => rw [h1, h2] at ih; exact ih.elim
    | some p => cases h2 : vl X' C' t with
      | none => rw [h1, h2] at ih; exact ih.elim
      | some q =>
        rw [h1, h2] at ih
        have ih : Rl q p (bt k t) := ih
        have l : 1 + bt k t * e ≤ bt k t * (e + 1) + 2 := by rw [Nat.mul_succ]; omega
        refine ⟨Int.pow_ne_zero ih.nz, ?_, (ih.s1.pow e).mono l, (ih.s2.pow e).mono l⟩
        show ((p.1 ^ e : Int) : Rat) = q ^ e * ((p.2 ^ e : Int) : Rat)
        rw [Rat.intCast_pow, Rat.intCast_pow, ih.eq, rmul_pow]
  | .bin o a b, ok => by
    have ih := lv_ok hX hC ok.1
    have ih2 := lv_ok hX hC ok.2
    rw [vl_bin]
    show match (lv X C a).bind fun p => (lv X C b).bind fun r => lop o p r, (vl X' C' a).bind fun x => (vl X' C' b).bind fun y => o.op x y with
      | some p, some q => Rl q p (bt k a + bt k b + 2)
      | none, none => True
      | _, _ => False
    cases h1 : lv X C a with
    | none => cases h2 : vl X' C' a with
      | none => trivial
      | some q => rw [h1, h2] at ih; exact ih.elim
    | some p => cases h2 : vl X' C' a with
      | none => rw [h1, h2] at ih; exact ih.elim
      | some q =>
        rw [h1, h2] at ih
        cases h3 : lv X C b with
        | none => cases h4 : vl X' C' b with
          | none => trivial
          | some q => rw [h3, h4] at ih2; exact ih2.elim
        | some r => cases h4 : vl X' C' b with
          | none => rw [h3, h4] at ih2; exact ih2.elim
          | some y =>
            rw [h3, h4] at ih2
            exact lop_ok (o := o) ih ih2
/-! ### _law_value -/
theorem w_num (h : x.pure = true) : callN F (d + 1) n__law_value [.tup [.str "num", x], u, v] S = .ok x S := by
  rw [callN_of (fd := ⟨3, 10, b__law_value⟩) rfl rfl]
  exact run_ret (by simp [st__law_value_0, st__law_value_1, st__law_value_2, st__law_value_3, st__law_value_4, st__law_value_5, bk__law_value_0, st__law_value_6, st__law_value_7, st__law_value_8, st__law_value_9, st__law_value_10, st__law_value_11, st__law_value_12, b__law_value, bd_ok, bd_exc, st_ok, st_exc, xss_cons, xss_nil, seq_next, seq_ret, seq_brk, seq_cont, seq_exc, eqV_int, xst, ev, evT, evs, evo, evc, evi, itemAt, MP.placeOf, bindT, bindTs, unslot, hold, unhold, subR, freeze, ix_tup, ix_lst, ix_r, cm_eq, cm_ne, cm_lt, cm_le, cm_gt, cm_ge, cm_isn, cm_nisn, cm_isb, cm_inn, cm_nin, op_ad, op_sb, op_ml, op_dv, op_md, op_pw, op_sl, op_as, op_at, op_mt, op_al, bi_abs, bi_int, bi_intb, bi_ints, bi_lent, bi_lenl, bi_lenr, bi_lens, bi_listt, bi_listl, bi_tupt, bi_tupl, bi_tupr, bi_gcd, bi_max, bi_min, bi_str, bi_sum, bi_all, bi_any, tr_non, tr_bl, tr_int, tr_tup, tr_lst, ty_nt, ty_tt, ty_ti, ty_ii, ty_it, ty_is, sl_tup, sl_lst, sq_tup, sq_lst, ls_lst, th_lst, wk_tup, wk_lst, opt_some, eqV_non, es_num_num, es_num_state, es_num_const, es_num_pow, es_num_add, es_num_sub, es_num_mul, es_num_div, es_state_num, es_state_state, es_state_const, es_state_pow, es_state_add, es_state_sub, es_state_mul, es_state_div, es_const_num, es_const_state, es_const_const, es_const_pow, es_const_add, es_const_sub, es_const_mul, es_const_div, es_pow_num, es_pow_state, es_pow_const, es_pow_pow, es_pow_add, es_pow_sub, es_pow_mul, es_pow_div, es_add_num, es_add_state, es_add_const, es_add_pow, es_add_add, es_add_sub, es_add_mul, es_add_div, es_sub_num, es_sub_state, es_sub_const, es_sub_pow, es_sub_add, es_sub_sub, es_sub_mul, es_sub_div, es_mul_num, es_mul_state, es_mul_const, es_mul_pow, es_mul_add, es_mul_sub, es_mul_mul, es_mul_div, es_div_num, es_div_state, es_div_const, es_div_pow, es_div_add, es_div_sub, es_div_mul, es_div_div, ip_num, ip_state, ip_const, ip_pow, ip_add, ip_sub, ip_mul, ip_div, il_num, il_state, il_const, il_pow, il_add, il_sub, il_mul, il_div, it_num, it_state, it_const, it_pow, it_add, it_sub, it_mul, it_div]) h
theorem w_st (h : ∀ S, ixV S u x = some z) (pz : z.pure = true) : callN F (d + 1) n__law_value [.tup [.str "state", x], u, v] S = .ok z S := by
  rw [callN_of (fd := ⟨3, 10, b__law_value⟩) rfl rfl]
  exact run_ret (by simp [st__law_value_0, st__law_value_1, st__law_value_2, st__law_value_3, st__law_value_4, st__law_value_5, bk__law_value_0, st__law_value_6, st__law_value_7, st__law_value_8, st__law_value_9, st__law_value_10, st__law_value_11, st__law_value_12, b__law_value, bd_ok, bd_exc, st_ok, st_exc, xss_cons, xss_nil, seq_next, seq_ret, seq_brk, seq_cont, seq_exc, eqV_int, xst, ev, evT, evs, evo, evc, evi, itemAt, MP.placeOf, bindT, bindTs, unslot, hold, unhold, subR, freeze, ix_tup, ix_lst, ix_r, cm_eq, cm_ne, cm_lt, cm_le, cm_gt, cm_ge, cm_isn, cm_nisn, cm_isb, cm_inn, cm_nin, op_ad, op_sb, op_ml, op_dv, op_md, op_pw, op_sl, op_as, op_at, op_mt, op_al, bi_abs, bi_int, bi_intb, bi_ints, bi_lent, bi_lenl, bi_lenr, bi_lens, bi_listt, bi_listl, bi_tupt, bi_tupl, bi_tupr, bi_gcd, bi_max, bi_min, bi_str, bi_sum, bi_all, bi_any, tr_non, tr_bl, tr_int, tr_tup, tr_lst, ty_nt, ty_tt, ty_ti, ty_ii, ty_it, ty_is, sl_tup, sl_lst, sq_tup, sq_lst, ls_lst, th_lst, wk_tup, wk_lst, opt_some, eqV_non, es_num_num, es_num_state, es_num_const, es_num_pow, es_num_add, es_num_sub, es_num_mul, es_num_div, es_state_num, es_state_state, es_state_const, es_state_pow, es_state_add, es_state_sub, es_state_mul, es_state_div, es_const_num, es_const_state, es_const_const, es_const_pow, es_const_add, es_const_sub, es_const_mul, es_const_div, es_pow_num, es_pow_state, es_pow_const, es_pow_pow, es_pow_add, es_pow_sub, es_pow_mul, es_pow_div, es_add_num, es_add_state, es_add_const, es_add_pow, es_add_add, es_add_sub, es_add_mul, es_add_div, es_sub_num, es_sub_state, es_sub_const, es_sub_pow, es_sub_add, es_sub_sub, es_sub_mul, es_sub_div, es_mul_num, es_mul_state, es_mul_const, es_mul_pow, es_mul_add, es_mul_sub, es_mul_mul, es_mul_div, es_div_num, es_div_state, es_div_const, es_div_pow, es_div_add, es_div_sub, es_div_mul, es_div_div, ip_num, ip_state, ip_const, ip_pow, ip_add, ip_sub, ip_mul, ip_div, il_num, il_state, il_const, il_pow, il_add, il_sub, il_mul, il_div, it_num, it_state, it_const, it_pow, it_add, it_sub, it_mul, it_div, h]) pz
theorem w_cn (h : ∀ S, ixV S v x = some z) (pz : z.pure = true) : callN F (d + 1) n__law_value [.tup [.str "const", x], u, v] S = .ok z S := by
  rw [callN_of (fd := ⟨3, 10, b__law_value⟩) rfl rfl]
  exact run_ret (by simp [st__law_value_0, st__law_value_1, st__law_value_2, st__law_value_3, st__law_value_4, st__law_value_5, bk__law_value_0, st__law_value_6, st__law_value_7, st__law_value_8, st__law_value_9, st__law_value_10, st__law_value_11, st__law_value_12, b__law_value, bd_ok, bd_exc, st_ok, st_exc, xss_cons, xss_nil, seq_next, seq_ret, seq_brk, seq_cont, seq_exc, eqV_int, xst, ev, evT, evs, evo, evc, evi, itemAt, MP.placeOf, bindT, bindTs, unslot, hold, unhold, subR, freeze, ix_tup, ix_lst, ix_r, cm_eq, cm_ne, cm_lt, cm_le, cm_gt, cm_ge, cm_isn, cm_nisn, cm_isb, cm_inn, cm_nin, op_ad, op_sb, op_ml, op_dv, op_md, op_pw, op_sl, op_as, op_at, op_mt, op_al, bi_abs, bi_int, bi_intb, bi_ints, bi_lent, bi_lenl, bi_lenr, bi_lens, bi_listt, bi_listl, bi_tupt, bi_tupl, bi_tupr, bi_gcd, bi_max, bi_min, bi_str, bi_sum, bi_all, bi_any, tr_non, tr_bl, tr_int, tr_tup, tr_lst, ty_nt, ty_tt, ty_ti, ty_ii, ty_it, ty_is, sl_tup, sl_lst, sq_tup, sq_lst, ls_lst, th_lst, wk_tup, wk_lst, opt_some, eqV_non, es_num_num, es_num_state, es_num_const, es_num_pow, es_num_add, es_num_sub, es_num_mul, es_num_div, es_state_num, es_state_state, es_state_const, es_state_pow, es_state_add, es_state_sub, es_state_mul, es_state_div, es_const_num, es_const_state, es_const_const, es_const_pow, es_const_add, es_const_sub, es_const_mul, es_const_div, es_pow_num, es_pow_state, es_pow_const, es_pow_pow, es_pow_add, es_pow_sub, es_pow_mul, es_pow_div, es_add_num, es_add_state, es_add_const, es_add_pow, es_add_add, es_add_sub, es_add_mul, es_add_div, es_sub_num, es_sub_state, es_sub_const, es_sub_pow, es_sub_add, es_sub_sub, es_sub_mul, es_sub_div, es_mul_num, es_mul_state, es_mul_const, es_mul_pow, es_mul_add, es_mul_sub, es_mul_mul, es_mul_div, es_div_num, es_div_state, es_div_const, es_div_pow, es_div_add, es_div_sub, es_div_mul, es_div_div, ip_num, ip_state, ip_const, ip_pow, ip_add, ip_sub, ip_mul, ip_div, il_num, il_state, il_const, il_pow, il_add, il_sub, il_mul, il_div, it_num, it_state, it_const, it_pow, it_add, it_sub, it_mul, it_div, h]) pz
theorem w_none {s : Str} (hs : s = "pow" ∨ s = "add" ∨ s = "sub" ∨ s = "mul" ∨ s = "div") (h : callN F d n__law_value [x, u, v] ⟨S.cells, false⟩ = .ok .non ⟨S.cells, false⟩) : callN F (d + 1) n__law_value [.tup [.str s, x, y], u, v] S = .ok .non S := by
  rw [callN_of (fd := ⟨3, 10, b__law_value⟩) rfl rfl]
  refine run_ret ?_ rfl
  rcases hs with rfl | rfl | rfl | rfl | rfl <;> simp [st__law_value_0, st__law_value_1, st__law_value_2, st__law_value_3, st__law_value_4, st__law_value_5, bk__law_value_0, st__law_value_6, st__law_value_7, st__law_value_8, st__law_value_9, st__law_value_10, st__law_value_11, st__law_value_12, b__law_value, bd_ok, bd_exc, st_ok, st_exc, xss_cons, xss_nil, seq_next, seq_ret, seq_brk, seq_cont, seq_exc, eqV_int, xst, ev, evT, evs, evo, evc, evi, itemAt, MP.placeOf, bindT, bindTs, unslot, hold, unhold, subR, freeze, ix_tup, ix_lst, ix_r, cm_eq, cm_ne, cm_lt, cm_le, cm_gt, cm_ge, cm_isn, cm_nisn, cm_isb, cm_inn, cm_nin, op_ad, op_sb, op_ml, op_dv, op_md, op_pw, op_sl, op_as, op_at, op_mt, op_al, bi_abs, bi_int, bi_intb, bi_ints, bi_lent, bi_lenl, bi_lenr, bi_lens, bi_listt, bi_listl, bi_tupt, bi_tupl, bi_tupr, bi_gcd, bi_max, bi_min, bi_str, bi_sum, bi_all, bi_any, tr_non, tr_bl, tr_int, tr_tup, tr_lst, ty_nt, ty_tt, ty_ti, ty_ii, ty_it, ty_is, sl_tup, sl_lst, sq_tup, sq_lst, ls_lst, th_lst, wk_tup, wk_lst, opt_some, eqV_non, es_num_num, es_num_state, es_num_const, es_num_pow, es_num_add, es_num_sub, es_num_mul, es_num_div, es_state_num, es_state_state, es_state_const, es_state_pow, es_state_add, es_state_sub, es_state_mul, es_state_div, es_const_num, es_const_state, es_const_const, es_const_pow, es_const_add, es_const_sub, es_const_mul, es_const_div, es_pow_num, es_pow_state, es_pow_const, es_pow_pow, es_pow_add, es_pow_sub, es_pow_mul, es_pow_div, es_add_num, es_add_state, es_add_const, es_add_pow, es_add_add, es_add_sub, es_add_mul, es_add_div, es_sub_num, es_sub_state, es_sub_const, es_sub_pow, es_sub_add, es_sub_sub, es_sub_mul, es_sub_div, es_mul_num, es_mul_state, es_mul_const, es_mul_pow, es_mul_add, es_mul_sub, es_mul_mul, es_mul_div, es_div_num, es_div_state, es_div_const, es_div_pow, es_div_add, es_div_sub, es_div_mul, es_div_div, ip_num, ip_state, ip_const, ip_pow, ip_add, ip_sub, ip_mul, ip_div, il_num, il_state, il_const, il_pow, il_add, il_sub, il_mul, il_div, it_num, it_state, it_const, it_pow, it_add, it_sub, it_mul, it_div, h]
theorem nn {a b : Int} : ¬ (PV.tup [.int a, .int b] = .non) := fun h => by cases h
theorem w_none2 {o : Bo} {a b : Int} (h : callN F d n__law_value [x, u, v] ⟨S.cells, false⟩ = .ok (.tup [.int a, .int b]) ⟨S.cells, false⟩) (h2 : callN F d n__law_value [y, u, v] ⟨S.cells, false⟩ = .ok .non ⟨S.cells, false⟩) : callN F (d + 1) n__law_value [.tup [.str o.nm, x, y], u, v] S = .ok .non S := by
  rw [callN_of (fd := ⟨3, 10, b__law_value⟩) rfl rfl]
  refine run_ret ?_ rfl
  cases o <;> simp [st__law_value_0, st__law_value_1, st__law_value_2, st__law_value_3, st__law_value_4, st__law_value_5, bk__law_value_0, st__law_value_6, st__law_value_7, st__law_value_8, st__law_value_9, st__law_value_10, st__law_value_11, st__law_value_12, b__law_value, bd_ok, bd_exc, st_ok, st_exc, xss_cons, xss_nil, seq_next, seq_ret, seq_brk, seq_cont, seq_exc, eqV_int, xst, ev, evT, evs, evo, evc, evi, itemAt, MP.placeOf, bindT, bindTs, unslot, hold, unhold, subR, freeze, ix_tup, ix_lst, ix_r, cm_eq, cm_ne, cm_lt, cm_le, cm_gt, cm_ge, cm_isn, cm_nisn, cm_isb, cm_inn, cm_nin, op_ad, op_sb, op_ml, op_dv, op_md, op_pw, op_sl, op_as, op_at, op_mt, op_al, bi_abs, bi_int, bi_intb, bi_ints, bi_lent, bi_lenl, bi_lenr, bi_lens, bi_listt, bi_listl, bi_tupt, bi_tupl, bi_tupr, bi_gcd, bi_max, bi_min, bi_str, bi_sum, bi_all, bi_any, tr_non, tr_bl, tr_int, tr_tup, tr_lst, ty_nt, ty_tt, ty_ti, ty_ii, ty_it, ty_is, sl_tup, sl_lst, sq_tup, sq_lst, ls_lst, th_lst, wk_tup, wk_lst, opt_some, eqV_non, es_num_num, es_num_state, es_num_const, es_num_pow, es_num_add, es_num_sub, es_num_mul, es_num_div, es_state_num, es_state_state, es_state_const, es_state_pow, es_state_add, es_state_sub, es_state_mul, es_state_div, es_const_num, es_const_state, es_const_const, es_const_pow, es_const_add, es_const_sub, es_const_mul, es_const_div, es_pow_num, es_pow_state, es_pow_const, es_pow_pow, es_pow_add, es_pow_sub, es_pow_mul, es_pow_div, es_add_num, es_add_state, es_add_const, es_add_pow, es_add_add, es_add_sub, es_add_mul, es_add_div, es_sub_num, es_sub_state, es_sub_const, es_sub_pow, es_sub_add, es_sub_sub, es_sub_mul, es_sub_div, es_mul_num, es_mul_state, es_mul_const, es_mul_pow, es_mul_add, es_mul_sub, es_mul_mul, es_mul_div, es_div_num, es_div_state, es_div_const, es_div_pow, es_div_add, es_div_sub, es_div_mul, es_div_div, ip_num, ip_state, ip_const, ip_pow, ip_add, ip_sub, ip_mul, ip_div, il_num, il_state, il_const, il_pow, il_add, il_sub, il_mul, il_div, it_num, it_state, it_const, it_pow, it_add, it_sub, it_mul, it_div, Bo.nm, h, h2, nn]
theorem w_mul {a b e f : Int} (h : callN F d n__law_value [x, u, v] ⟨S.cells, false⟩ = .ok (.tup [.int a, .int b]) ⟨S.cells, false⟩) (h2 : callN F d n__law_value [y, u, v] ⟨S.cells, false⟩ = .ok (.tup [.int e, .int f]) ⟨S.cells, false⟩) (m1 : mulOk a e = true) (m2 : mulOk b f = true) :
    callN F (d + 1) n__law_value [.tup [.str "mul", x, y], u, v] S = .ok (.tup [.int (a * e), .int (b * f)]) S := by
  rw [callN_of (fd := ⟨3, 10, b__law_value⟩) rfl rfl]
  exact run_ret (by simp [st__law_value_0, st__law_value_1, st__law_value_2, st__law_value_3, st__law_value_4, st__law_value_5, bk__law_value_0, st__law_value_6, st__law_value_7, st__law_value_8, st__law_value_9, st__law_value_10, st__law_value_11, st__law_value_12, b__law_value, bd_ok, bd_exc, st_ok, st_exc, xss_cons, xss_nil, seq_next, seq_ret, seq_brk, seq_cont, seq_exc, eqV_int, xst, ev, evT, evs, evo, evc, evi, itemAt, MP.placeOf, bindT, bindTs, unslot, hold, unhold, subR, freeze, ix_tup, ix_lst, ix_r, cm_eq, cm_ne, cm_lt, cm_le, cm_gt, cm_ge, cm_isn, cm_nisn, cm_isb, cm_inn, cm_nin, op_ad, op_sb, op_ml, op_dv, op_md, op_pw, op_sl, op_as, op_at, op_mt, op_al, bi_abs, bi_int, bi_intb, bi_ints, bi_lent, bi_lenl, bi_lenr, bi_lens, bi_listt, bi_listl, bi_tupt, bi_tupl, bi_tupr, bi_gcd, bi_max, bi_min, bi_str, bi_sum, bi_all, bi_any, tr_non, tr_bl, tr_int, tr_tup, tr_lst, ty_nt, ty_tt, ty_ti, ty_ii, ty_it, ty_is, sl_tup, sl_lst, sq_tup, sq_lst, ls_lst, th_lst, wk_tup, wk_lst, opt_some, eqV_non, es_num_num, es_num_state, es_num_const, es_num_pow, es_num_add, es_num_sub, es_num_mul, es_num_div, es_state_num, es_state_state, es_state_const, es_state_pow, es_state_add, es_state_sub, es_state_mul, es_state_div, es_const_num, es_const_state, es_const_const, es_const_pow, es_const_add, es_const_sub, es_const_mul, es_const_div, es_pow_num, es_pow_state, es_pow_const, es_pow_pow, es_pow_add, es_pow_sub, es_pow_mul, es_pow_div, es_add_num, es_add_state, es_add_const, es_add_pow, es_add_add, es_add_sub, es_add_mul, es_add_div, es_sub_num, es_sub_state, es_sub_const, es_sub_pow, es_sub_add, es_sub_sub, es_sub_mul, es_sub_div, es_mul_num, es_mul_state, es_mul_const, es_mul_pow, es_mul_add, es_mul_sub, es_mul_mul, es_mul_div, es_div_num, es_div_state, es_div_const, es_div_pow, es_div_add, es_div_sub, es_div_mul, es_div_div, ip_num, ip_state, ip_const, ip_pow, ip_add, ip_sub, ip_mul, ip_div, il_num, il_state, il_const, il_pow, il_add, il_sub, il_mul, il_div, it_num, it_state, it_const, it_pow, it_add, it_sub, it_mul, it_div, h, h2, nn, m1, m2]) rfl
theorem w_div {a b e f : Int} (h : callN F d n__law_value [x, u, v] ⟨S.cells, false⟩ = .ok (.tup [.int a, .int b]) ⟨S.cells, false⟩) (h2 : callN F d n__law_value [y, u, v] ⟨S.cells, false⟩ = .ok (.tup [.int e, .int f]) ⟨S.cells, false⟩) (m1 : mulOk a f = true) (m2 : mulOk b e = true) :
    callN F (d + 1) n__law_value [.tup [.str "div", x, y], u, v] S = .ok (opp (lop .div (a, b) (e, f))) S := by
  rw [callN_of (fd := ⟨3, 10, b__law_value⟩) rfl rfl]
  by_cases h0 : e = 0
  · have e0 : lop .div (a, b) (e, f) = none := if_pos h0
    rw [e0]
    exact run_ret (by simp [st__law_value_0, st__law_value_1, st__law_value_2, st__law_value_3, st__law_value_4, st__law_value_5, bk__law_value_0, st__law_value_6, st__law_value_7, st__law_value_8, st__law_value_9, st__law_value_10, st__law_value_11, st__law_value_12, b__law_value, bd_ok, bd_exc, st_ok, st_exc, xss_cons, xss_nil, seq_next, seq_ret, seq_brk, seq_cont, seq_exc, eqV_int, xst, ev, evT, evs, evo, evc, evi, itemAt, MP.placeOf, bindT, bindTs, unslot, hold, unhold, subR, freeze, ix_tup, ix_lst, ix_r, cm_eq, cm_ne, cm_lt, cm_le, cm_gt, cm_ge, cm_isn, cm_nisn, cm_isb, cm_inn, cm_nin, op_ad, op_sb, op_ml, op_dv, op_md, op_pw, op_sl, op_as, op_at, op_mt, op_al, bi_abs, bi_int, bi_intb, bi_ints, bi_lent, bi_lenl, bi_lenr, bi_lens, bi_listt, bi_listl, bi_tupt, bi_tupl, bi_tupr, bi_gcd, bi_max, bi_min, bi_str, bi_sum, bi_all, bi_any, tr_non, tr_bl, tr_int, tr_tup, tr_lst, ty_nt, ty_tt, ty_ti, ty_ii, ty_it, ty_is, sl_tup, sl_lst, sq_tup, sq_lst, ls_lst, th_lst, wk_tup, wk_lst, opt_some, eqV_non, es_num_num, es_num_state, es_num_const, es_num_pow, es_num_add, es_num_sub, es_num_mul, es_num_div, es_state_num, es_state_state, es_state_const, es_state_pow, es_state_add, es_state_sub, es_state_mul, es_state_div, es_const_num, es_const_state, es_const_const, es_const_pow, es_const_add, es_const_sub, es_const_mul, es_const_div, es_pow_num, es_pow_state, es_pow_const, es_pow_pow, es_pow_add, es_pow_sub, es_pow_mul, es_pow_div, es_add_num, es_add_state, es_add_const, es_add_pow, es_add_add, es_add_sub, es_add_mul, es_add_div, es_sub_num, es_sub_state, es_sub_const, es_sub_pow, es_sub_add, es_sub_sub, es_sub_mul, es_sub_div, es_mul_num, es_mul_state, es_mul_const, es_mul_pow, es_mul_add, es_mul_sub, es_mul_mul, es_mul_div, es_div_num, es_div_state, es_div_const, es_div_pow, es_div_add, es_div_sub, es_div_mul, es_div_div, ip_num, ip_state, ip_const, ip_pow, ip_add, ip_sub, ip_mul, ip_div, il_num, il_state, il_const, il_pow, il_add, il_sub, il_mul, il_div, it_num, it_state, it_const, it_pow, it_add, it_sub, it_mul, it_div, h, h2, nn, m1, m2, h0, opp]) rfl
  · have e0 : lop .div (a, b) (e, f) = some (a * f, b * e) := if_neg h0
    rw [e0]
    exact run_ret (by simp [st__law_value_0, st__law_value_1, st__law_value_2, st__law_value_3, st__law_value_4, st__law_value_5, bk__law_value_0, st__law_value_6, st__law_value_7, st__law_value_8, st__law_value_9, st__law_value_10, st__law_value_11, st__law_value_12, b__law_value, bd_ok, bd_exc, st_ok, st_exc, xss_cons, xss_nil, seq_next, seq_ret, seq_brk, seq_cont, seq_exc, eqV_int, xst, ev, evT, evs, evo, evc, evi, itemAt, MP.placeOf, bindT, bindTs, unslot, hold, unhold, subR, freeze, ix_tup, ix_lst, ix_r, cm_eq, cm_ne, cm_lt, cm_le, cm_gt, cm_ge, cm_isn, cm_nisn, cm_isb, cm_inn, cm_nin, op_ad, op_sb, op_ml, op_dv, op_md, op_pw, op_sl, op_as, op_at, op_mt, op_al, bi_abs, bi_int, bi_intb, bi_ints, bi_lent, bi_lenl, bi_lenr, bi_lens, bi_listt, bi_listl, bi_tupt, bi_tupl, bi_tupr, bi_gcd, bi_max, bi_min, bi_str, bi_sum, bi_all, bi_any, tr_non, tr_bl, tr_int, tr_tup, tr_lst, ty_nt, ty_tt, ty_ti, ty_ii, ty_it, ty_is, sl_tup, sl_lst, sq_tup, sq_lst, ls_lst, th_lst, wk_tup, wk_lst, opt_some, eqV_non, es_num_num, es_num_state, es_num_const, es_num_pow, es_num_add, es_num_sub, es_num_mul, es_num_div, es_state_num, es_state_state, es_state_const, es_state_pow, es_state_add, es_state_sub, es_state_mul, es_state_div, es_const_num, es_const_state, es_const_const, es_const_pow, es_const_add, es_const_sub, es_const_mul, es_const_div, es_pow_num, es_pow_state, es_pow_const, es_pow_pow, es_pow_add, es_pow_sub, es_pow_mul, es_pow_div, es_add_num, es_add_state, es_add_const, es_add_pow, es_add_add, es_add_sub, es_add_mul, es_add_div, es_sub_num, es_sub_state, es_sub_const, es_sub_pow, es_sub_add, es_sub_sub, es_sub_mul, es_sub_div, es_mul_num, es_mul_state, es_mul_const, es_mul_pow, es_mul_add, es_mul_sub, es_mul_mul, es_mul_div, es_div_num, es_div_state, es_div_const, es_div_pow, es_div_add, es_div_sub, es_div_mul, es_div_div, ip_num, ip_state, ip_const, ip_pow, ip_add, ip_sub, ip_mul, ip_div, il_num, il_state, il_const, il_pow, il_add, il_sub, il_mul, il_div, it_num, it_state, it_const, it_pow, it_add, it_sub, it_mul, it_div, h, h2, nn, m1, m2, h0, opp]) rfl
theorem w_add {a b e f : Int} (h : callN F d n__law_value [x, u, v] ⟨S.cells, false⟩ = .ok (.tup [.int a, .int b]) ⟨S.cells, false⟩) (h2 : callN F d n__law_value [y, u, v] ⟨S.cells, false⟩ = .ok (.tup [.int e, .int f]) ⟨S.cells, false⟩) (m1 : mulOk a f = true) (m2 : mulOk 1 e = true) (m3 : mulOk (1 * e) b = true) (m4 : mulOk b f = true) :
    callN F (d + 1) n__law_value [.tup [.str "add", x, y], u, v] S = .ok (.tup [.int (a * f + 1 * e * b), .int (b * f)]) S := by
  rw [callN_of (fd := ⟨3, 10, b__law_value⟩) rfl rfl]
  rw [Int.one_mul] at m3
  exact run_ret (by simp [st__law_value_0, st__law_value_1, st__law_value_2, st__law_value_3, st__law_value_4, st__law_value_5, bk__law_value_0, st__law_value_6, st__law_value_7, st__law_value_8, st__law_value_9, st__law_value_10, st__law_value_11, st__law_value_12, b__law_value, bd_ok, bd_exc, st_ok, st_exc, xss_cons, xss_nil, seq_next, seq_ret, seq_brk, seq_cont, seq_exc, eqV_int, xst, ev, evT, evs, evo, evc, evi, itemAt, MP.placeOf, bindT, bindTs, unslot, hold, unhold, subR, freeze, ix_tup, ix_lst, ix_r, cm_eq, cm_ne, cm_lt, cm_le, cm_gt, cm_ge, cm_isn, cm_nisn, cm_isb, cm_inn, cm_nin, op_ad, op_sb, op_ml, op_dv, op_md, op_pw, op_sl, op_as, op_at, op_mt, op_al, bi_abs, bi_int, bi_intb, bi_ints, bi_lent, bi_lenl, bi_lenr, bi_lens, bi_listt, bi_listl, bi_tupt, bi_tupl, bi_tupr, bi_gcd, bi_max, bi_min, bi_str, bi_sum, bi_all, bi_any, tr_non, tr_bl, tr_int, tr_tup, tr_lst, ty_nt, ty_tt, ty_ti, ty_ii, ty_it, ty_is, sl_tup, sl_lst, sq_tup, sq_lst, ls_lst, th_lst, wk_tup, wk_lst, opt_some, eqV_non, es_num_num, es_num_state, es_num_const, es_num_pow, es_num_add, es_num_sub, es_num_mul, es_num_div, es_state_num, es_state_state, es_state_const, es_state_pow, es_state_add, es_state_sub, es_state_mul, es_state_div, es_const_num, es_const_state, es_const_const, es_const_pow, es_const_add, es_const_sub, es_const_mul, es_const_div, es_pow_num, es_pow_state, es_pow_const, es_pow_pow, es_pow_add, es_pow_sub, es_pow_mul, es_pow_div, es_add_num, es_add_state, es_add_const, es_add_pow, es_add_add, es_add_sub, es_add_mul, es_add_div, es_sub_num, es_sub_state, es_sub_const, es_sub_pow, es_sub_add, es_sub_sub, es_sub_mul, es_sub_div, es_mul_num, es_mul_state, es_mul_const, es_mul_pow, es_mul_add, es_mul_sub, es_mul_mul, es_mul_div, es_div_num, es_div_state, es_div_const, es_div_pow, es_div_add, es_div_sub, es_div_mul, es_div_div, ip_num, ip_state, ip_const, ip_pow, ip_add, ip_sub, ip_mul, ip_div, il_num, il_state, il_const, il_pow, il_add, il_sub, il_mul, il_div, it_num, it_state, it_const, it_pow, it_add, it_sub, it_mul, it_div, h, h2, nn, m1, m2, m3, m4]) rfl
theorem w_sub {a b e f : Int} (h : callN F d n__law_value [x, u, v] ⟨S.cells, false⟩ = .ok (.tup [.int a, .int b]) ⟨S.cells, false⟩) (h2 : callN F d n__law_value [y, u, v] ⟨S.cells, false⟩ = .ok (.tup [.int e, .int f]) ⟨S.cells, false⟩) (m1 : mulOk a f = true) (m2 : mulOk (-1) e = true) (m3 : mulOk (-e) b = true) (m4 : mulOk b f = true) :
    callN F (d + 1) n__law_value [.tup [.str "sub", x, y], u, v] S = .ok (.tup [.int (a * f + -1 * e * b), .int (b * f)]) S := by
  rw [callN_of (fd := ⟨3, 10, b__law_value⟩) rfl rfl]
  exact run_ret (by simp [st__law_value_0, st__law_value_1, st__law_value_2, st__law_value_3, st__law_value_4, st__law_value_5, bk__law_value_0, st__law_value_6, st__law_value_7, st__law_value_8, st__law_value_9, st__law_value_10, st__law_value_11, st__law_value_12, b__law_value, bd_ok, bd_exc, st_ok, st_exc, xss_cons, xss_nil, seq_next, seq_ret, seq_brk, seq_cont, seq_exc, eqV_int, xst, ev, evT, evs, evo, evc, evi, itemAt, MP.placeOf, bindT, bindTs, unslot, hold, unhold, subR, freeze, ix_tup, ix_lst, ix_r, cm_eq, cm_ne, cm_lt, cm_le, cm_gt, cm_ge, cm_isn, cm_nisn, cm_isb, cm_inn, cm_nin, op_ad, op_sb, op_ml, op_dv, op_md, op_pw, op_sl, op_as, op_at, op_mt, op_al, bi_abs, bi_int, bi_intb, bi_ints, bi_lent, bi_lenl, bi_lenr, bi_lens, bi_listt, bi_listl, bi_tupt, bi_tupl, bi_tupr, bi_gcd, bi_max, bi_min, bi_str, bi_sum, bi_all, bi_any, tr_non, tr_bl, tr_int, tr_tup, tr_lst, ty_nt, ty_tt, ty_ti, ty_ii, ty_it, ty_is, sl_tup, sl_lst, sq_tup, sq_lst, ls_lst, th_lst, wk_tup, wk_lst, opt_some, eqV_non, es_num_num, es_num_state, es_num_const, es_num_pow, es_num_add, es_num_sub, es_num_mul, es_num_div, es_state_num, es_state_state, es_state_const, es_state_pow, es_state_add, es_state_sub, es_state_mul, es_state_div, es_const_num, es_const_state, es_const_const, es_const_pow, es_const_add, es_const_sub, es_const_mul, es_const_div, es_pow_num, es_pow_state, es_pow_const, es_pow_pow, es_pow_add, es_pow_sub, es_pow_mul, es_pow_div, es_add_num, es_add_state, es_add_const, es_add_pow, es_add_add, es_add_sub, es_add_mul, es_add_div, es_sub_num, es_sub_state, es_sub_const, es_sub_pow, es_sub_add, es_sub_sub, es_sub_mul, es_sub_div, es_mul_num, es_mul_state, es_mul_const, es_mul_pow, es_mul_add, es_mul_sub, es_mul_mul, es_mul_div, es_div_num, es_div_state, es_div_const, es_div_pow, es_div_add, es_div_sub, es_div_mul, es_div_div, ip_num, ip_state, ip_const, ip_pow, ip_add, ip_sub, ip_mul, ip_div, il_num, il_state, il_const, il_pow, il_add, il_sub, il_mul, il_div, it_num, it_state, it_const, it_pow, it_add, it_sub, it_mul, it_div, h, h2, nn, m1, m2, m3, m4]) rfl
theorem w_pow {a b : Int} {m k : Nat} (h : callN F d n__law_value [x, u, v] ⟨S.cells, false⟩ = .ok (.tup [.int a, .int b]) ⟨S.cells, false⟩) (sa : sz k a) (sb : sz k b) (hm : m < 1000) (hk : k * m + k + 3 ≤ 134217728) :
    callN F (d + 1) n__law_value [.tup [.str "pow", x, .int m], u, v] S = .ok (.tup [.int (a ^ m), .int (b ^ m)]) S := by
  rw [callN_of (fd := ⟨3, 10, b__law_value⟩) rfl rfl]
  refine run_ret ?_ rfl
  have hT : ∃ T, T = PV.tup [.str "pow", x, .int m] := ⟨_, rfl⟩
  obtain ⟨T, hT⟩ := hT
  have ixT : ∀ S, ixV S T (.int 2) = some (.int m) := fun S => by rw [hT]; rfl
  have ixT1 : ∀ S, ixV S T (.int 1) = some x := fun S => by rw [hT]; rfl
  have ixT0 : ∀ S, ixV S T (.int 0) = some (.str "pow") := fun S => by rw [hT]; rfl
  rw [← hT]
  obtain ⟨σ', S', lp, x7, rfl, rfl⟩ := for_rng (C := callN F d) (b := S.cells.length) (t := .name 7) (e := .ix (.var 0) (.cst (.int 2))) (p := bk__law_value_0) (n := m)
    (P := fun i σ S' => ∃ x7, σ = [some T, some u, some v, some (.str "pow"), some (.tup [.int a, .int b]), some (.int (a ^ i)), some (.int (b ^ i)), x7, none, none] ∧ S' = ⟨S.cells, false⟩)
    (σ := [some T, some u, some v, some (.str "pow"), some (.tup [.int a, .int b]), some (.int 1), some (.int 1), none, none, none]) (S := ⟨S.cells, false⟩) (by simp [bd_ok, bd_exc, st_ok, st_exc, xss_cons, xss_nil, seq_next, seq_ret, seq_brk, seq_cont, seq_exc, eqV_int, xst, ev, evT, evs, evo, evc, evi, itemAt, MP.placeOf, bindT, bindTs, unslot, hold, unhold, subR, freeze, ix_tup, ix_lst, ix_r, cm_eq, cm_ne, cm_lt, cm_le, cm_gt, cm_ge, cm_isn, cm_nisn, cm_isb, cm_inn, cm_nin, op_ad, op_sb, op_ml, op_dv, op_md, op_pw, op_sl, op_as, op_at, op_mt, op_al, bi_abs, bi_int, bi_intb, bi_ints, bi_lent, bi_lenl, bi_lenr, bi_lens, bi_listt, bi_listl, bi_tupt, bi_tupl, bi_tupr, bi_gcd, bi_max, bi_min, bi_str, bi_sum, bi_all, bi_any, tr_non, tr_bl, tr_int, tr_tup, tr_lst, ty_nt, ty_tt, ty_ti, ty_ii, ty_it, ty_is, sl_tup, sl_lst, sq_tup, sq_lst, ls_lst, th_lst, wk_tup, wk_lst, opt_some, eqV_non, ixT]) (by omega) ⟨none, by rw [Int.pow_zero, Int.pow_zero], rfl⟩ (fun j σ S' hj ⟨y, h1, h2⟩ => by
      subst h1; subst h2
      have l1 : k * j + k ≤ k * m := by
        have z : k * (j + 1) ≤ k * m := Nat.mul_le_mul_left k (by omega)
        rw [Nat.mul_add] at z
        omega
      have m1 : mulOk (a ^ j) a = true := mulOk_of (sa.pow j) sa (by omega)
      have m2 : mulOk (b ^ j) b = true := mulOk_of (sb.pow j) sb (by omega)
      refine ⟨_, [some T, some u, some v, some (.str "pow"), some (.tup [.int a, .int b]), some (.int (a ^ (j + 1))), some (.int (b ^ (j + 1))), some (.int j), none, none], ⟨S.cells, false⟩, rfl, ?_, some (.int j), rfl, rfl⟩
      rw [Int.pow_succ, Int.pow_succ]
      generalize a ^ j = aj at *
      generalize b ^ j = bj at *
      simp [bk__law_value_0, bd_ok, bd_exc, st_ok, st_exc, xss_cons, xss_nil, seq_next, seq_ret, seq_brk, seq_cont, seq_exc, eqV_int, xst, ev, evT, evs, evo, evc, evi, itemAt, MP.placeOf, bindT, bindTs, unslot, hold, unhold, subR, freeze, ix_tup, ix_lst, ix_r, cm_eq, cm_ne, cm_lt, cm_le, cm_gt, cm_ge, cm_isn, cm_nisn, cm_isb, cm_inn, cm_nin, op_ad, op_sb, op_ml, op_dv, op_md, op_pw, op_sl, op_as, op_at, op_mt, op_al, bi_abs, bi_int, bi_intb, bi_ints, bi_lent, bi_lenl, bi_lenr, bi_lens, bi_listt, bi_listl, bi_tupt, bi_tupl, bi_tupr, bi_gcd, bi_max, bi_min, bi_str, bi_sum, bi_all, bi_any, tr_non, tr_bl, tr_int, tr_tup, tr_lst, ty_nt, ty_tt, ty_ti, ty_ii, ty_it, ty_is, sl_tup, sl_lst, sq_tup, sq_lst, ls_lst, th_lst, wk_tup, wk_lst, opt_some, eqV_non, m1, m2])
  have s6 : xst (callN F d) S.cells.length st__law_value_6 [some T, some u, some v, some (.str "pow"), some (.tup [.int a, .int b]), none, none, none, none, none] ⟨S.cells, false⟩ = .ret (.tup [.int (a ^ m), .int (b ^ m)]) ⟨S.cells, false⟩ := by
    have inner : xss (callN F d) S.cells.length (.cons (.asg (.of (.tup (.cons (.name 5) (.cons (.name 6) .nil)))) (.tup (.cons (.cst (.int 1)) (.cons (.cst (.int 1)) .nil)))) (.cons (.fors (.name 7) (.rng1 (.ix (.var 0) (.cst (.int 2)))) bk__law_value_0) (.cons (.ret (.tup (.cons (.var 5) (.cons (.var 6) .nil)))) .nil)))
        [some T, some u, some v, some (.str "pow"), some (.tup [.int a, .int b]), none, none, none, none, none] ⟨S.cells, false⟩ = .ret (.tup [.int (a ^ m), .int (b ^ m)]) ⟨S.cells, false⟩ := by
      refine (xss_step (σ' := [some T, some u, some v, some (.str "pow"), some (.tup [.int a, .int b]), some (.int 1), some (.int 1), none, none, none]) (S' := ⟨S.cells, false⟩) (by simp [bd_ok, bd_exc, st_ok, st_exc, xss_cons, xss_nil, seq_next, seq_ret, seq_brk, seq_cont, seq_exc, eqV_int, xst, ev, evT, evs, evo, evc, evi, itemAt, MP.placeOf, bindT, bindTs, unslot, hold, unhold, subR, freeze, ix_tup, ix_lst, ix_r, cm_eq, cm_ne, cm_lt, cm_le, cm_gt, cm_ge, cm_isn, cm_nisn, cm_isb, cm_inn, cm_nin, op_ad, op_sb, op_ml, op_dv, op_md, op_pw, op_sl, op_as, op_at, op_mt, op_al, bi_abs, bi_int, bi_intb, bi_ints, bi_lent, bi_lenl, bi_lenr, bi_lens, bi_listt, bi_listl, bi_tupt, bi_tupl, bi_tupr, bi_gcd, bi_max, bi_min, bi_str, bi_sum, bi_all, bi_any, tr_non, tr_bl, tr_int, tr_tup, tr_lst, ty_nt, ty_tt, ty_ti, ty_ii, ty_it, ty_is, sl_tup, sl_lst, sq_tup, sq_lst, ls_lst, th_lst, wk_tup, wk_lst, opt_some, eqV_non])).trans ((xss_step lp).trans ?_)
      generalize a ^ m = am
      generalize b ^ m = bm
      simp [bd_ok, bd_exc, st_ok, st_exc, xss_cons, xss_nil, seq_next, seq_ret, seq_brk, seq_cont, seq_exc, eqV_int, xst, ev, evT, evs, evo, evc, evi, itemAt, MP.placeOf, bindT, bindTs, unslot, hold, unhold, subR, freeze, ix_tup, ix_lst, ix_r, cm_eq, cm_ne, cm_lt, cm_le, cm_gt, cm_ge, cm_isn, cm_nisn, cm_isb, cm_inn, cm_nin, op_ad, op_sb, op_ml, op_dv, op_md, op_pw, op_sl, op_as, op_at, op_mt, op_al, bi_abs, bi_int, bi_intb, bi_ints, bi_lent, bi_lenl, bi_lenr, bi_lens, bi_listt, bi_listl, bi_tupt, bi_tupl, bi_tupr, bi_gcd, bi_max, bi_min, bi_str, bi_sum, bi_all, bi_any, tr_non, tr_bl, tr_int, tr_tup, tr_lst, ty_nt, ty_tt, ty_ti, ty_ii, ty_it, ty_is, sl_tup, sl_lst, sq_tup, sq_lst, ls_lst, th_lst, wk_tup, wk_lst, opt_some, eqV_non]
    unfold st__law_value_6
    rw [xst]
    simp only [evT, ev, List.getElem?_cons_succ, List.getElem?_cons_zero, bd_ok, cm_eq, es_num_num, es_num_state, es_num_const, es_num_pow, es_num_add, es_num_sub, es_num_mul, es_num_div, es_state_num, es_state_state, es_state_const, es_state_pow, es_state_add, es_state_sub, es_state_mul, es_state_div, es_const_num, es_const_state, es_const_const, es_const_pow, es_const_add, es_const_sub, es_const_mul, es_const_div, es_pow_num, es_pow_state, es_pow_const, es_pow_pow, es_pow_add, es_pow_sub, es_pow_mul, es_pow_div, es_add_num, es_add_state, es_add_const, es_add_pow, es_add_add, es_add_sub, es_add_mul, es_add_div, es_sub_num, es_sub_state, es_sub_const, es_sub_pow, es_sub_add, es_sub_sub, es_sub_mul, es_sub_div, es_mul_num, es_mul_state, es_mul_const, es_mul_pow, es_mul_add, es_mul_sub, es_mul_mul, es_mul_div, es_div_num, es_div_state, es_div_const, es_div_pow, es_div_add, es_div_sub, es_div_mul, es_div_div, ip_num, ip_state, ip_const, ip_pow, ip_add, ip_sub, ip_mul, ip_div, il_num, il_state, il_const, il_pow, il_add, il_sub, il_mul, il_div, it_num, it_state, it_const, it_pow, it_add, it_sub, it_mul, it_div, opt_some, st_ok]
    exact inner
  have pre : ∀ ss, xss (callN F d) S.cells.length (.cons st__law_value_0 (.cons st__law_value_1 (.cons st__law_value_2 (.cons st__law_value_3 (.cons st__law_value_4 (.cons st__law_value_5 ss)))))) ([T, u, v].map some ++ List.replicate (10 - 3) none) ⟨S.cells, false⟩ = xss (callN F d) S.cells.length ss [some T, some u, some v, some (.str "pow"), some (.tup [.int a, .int b]), none, none, none, none, none] ⟨S.cells, false⟩ := fun ss => by
    simp [st__law_value_0, st__law_value_1, st__law_value_2, st__law_value_3, st__law_value_4, st__law_value_5, bd_ok, bd_exc, st_ok, st_exc, xss_cons, xss_nil, seq_next, seq_ret, seq_brk, seq_cont, seq_exc, eqV_int, xst, ev, evT, evs, evo, evc, evi, itemAt, MP.placeOf, bindT, bindTs, unslot, hold, unhold, subR, freeze, ix_tup, ix_lst, ix_r, cm_eq, cm_ne, cm_lt, cm_le, cm_gt, cm_ge, cm_isn, cm_nisn, cm_isb, cm_inn, cm_nin, op_ad, op_sb, op_ml, op_dv, op_md, op_pw, op_sl, op_as, op_at, op_mt, op_al, bi_abs, bi_int, bi_intb, bi_ints, bi_lent, bi_lenl, bi_lenr, bi_lens, bi_listt, bi_listl, bi_tupt, bi_tupl, bi_tupr, bi_gcd, bi_max, bi_min, bi_str, bi_sum, bi_all, bi_any, tr_non, tr_bl, tr_int, tr_tup, tr_lst, ty_nt, ty_tt, ty_ti, ty_ii, ty_it, ty_is, sl_tup, sl_lst, sq_tup, sq_lst, ls_lst, th_lst, wk_tup, wk_lst, opt_some, eqV_non, es_num_num, es_num_state, es_num_const, es_num_pow, es_num_add, es_num_sub, es_num_mul, es_num_div, es_state_num, es_state_state, es_state_const, es_state_pow, es_state_add, es_state_sub, es_state_mul, es_state_div, es_const_num, es_const_state, es_const_const, es_const_pow, es_const_add, es_const_sub, es_const_mul, es_const_div, es_pow_num, es_pow_state, es_pow_const, es_pow_pow, es_pow_add, es_pow_sub, es_pow_mul, es_pow_div, es_add_num, es_add_state, es_add_const, es_add_pow, es_add_add, es_add_sub, es_add_mul, es_add_div, es_sub_num, es_sub_state, es_sub_const, es_sub_pow, es_sub_add, es_sub_sub, es_sub_mul, es_sub_div, es_mul_num, es_mul_state, es_mul_const, es_mul_pow, es_mul_add, es_mul_sub, es_mul_mul, es_mul_div, es_div_num, es_div_state, es_div_const, es_div_pow, es_div_add, es_div_sub, es_div_mul, es_div_div, ip_num, ip_state, ip_const, ip_pow, ip_add, ip_sub, ip_mul, ip_div, il_num, il_state, il_const, il_pow, il_add, il_sub, il_mul, il_div, it_num, it_state, it_const, it_pow, it_add, it_sub, it_mul, it_div, ixT, ixT0, ixT1, h, nn]
  unfold b__law_value
  refine (pre _).trans ?_
  rw [xss_cons, s6, seq_ret]
theorem r_law_value {L k n c m : Nat} {X C : Nat → Int × Int} {xv cv : PV} (hL : L + 728 ≤ 134217728) (hm : m ≤ 1000) {X' C' : Nat → Rat} (hX : ∀ i, i < n → Rl (X' i) (X i) k) (hC : ∀ i, i < c → Rl (C' i) (C i) k) (ix : ∀ i S, i < n → ixV S xv (.int (i : Nat)) = some (pr (X i).1 (X i).2)) (ic : ∀ i S, i < c → ixV S cv (.int (i : Nat)) = some (pr (C i).1 (C i).2)) :
    ∀ (t : Tr) (e : Nat) (S : Sto), t.ht + 1 ≤ e → t.okT k n c m → bt k t ≤ L → callN F e n__law_value [t.tv, xv, cv] S = .ok (opp (lv X C t)) S := by
  intro t
  induction t with
  | num q => intro e S he ok hb; obtain ⟨d, rfl⟩ : ∃ d, e = d + 1 := ⟨e - 1, by omega⟩; exact w_num (fr_pure _)
  | st i => intro e S he ok hb; obtain ⟨d, rfl⟩ : ∃ d, e = d + 1 := ⟨e - 1, by omega⟩; exact w_st (fun S => ix i S ok) rfl
  | cn i => intro e S he ok hb; obtain ⟨d, rfl⟩ : ∃ d, e = d + 1 := ⟨e - 1, by omega⟩; exact w_cn (fun S => ic i S ok) rfl
  | pw t e0 iht =>
    intro e S he ok hb
    have hh : (Tr.pw t e0).ht = t.ht + 1 := rfl
    obtain ⟨d, rfl⟩ : ∃ d, e = d + 1 := ⟨e - 1, by omega⟩
    have hbt : bt k (.pw t e0) = bt k t * (e0 + 1) + 2 := rfl
    have l1 : bt k t ≤ bt k t * (e0 + 1) := Nat.le_mul_of_pos_right _ (by omega)
    have l2 : bt k t * e0 + bt k t = bt k t * (e0 + 1) := (Nat.mul_succ _ _).symm
    have hm2 : e0 < m := ok.2
    have ih := iht d ⟨S.cells, false⟩ (by omega) ok.1 (by omega)
    have lo := lv_ok hX hC ok.1
    have e1 : lv X C (.pw t e0) = (lv X C t).map fun p => (p.1 ^ e0, p.2 ^ e0) := rfl
    rw [e1]
    cases h1 : lv X C t with
    | none =>
      rw [h1] at ih
      exact w_none (.inl rfl) ih
    | some p =>
      rw [h1] at ih lo
      cases h2 : vl X' C' t with
      | none => rw [h2] at lo; exact lo.elim
      | some q =>
        rw [h2] at lo
        have lo : Rl q p (bt k t) := lo
        exact w_pow ih lo.s1 lo.s2 (by omega) (by omega)
  | bin o a b iha ihb =>
    intro e S he ok hb
    have hh : (Tr.bin o a b).ht = max a.ht b.ht + 1 := rfl
    obtain ⟨d, rfl⟩ : ∃ d, e = d + 1 := ⟨e - 1, by omega⟩
    have hbt : bt k (.bin o a b) = bt k a + bt k b + 2 := rfl
    have l : bt k a + bt k b + 2 ≤ 134217728 := by omega
    have ih := iha d ⟨S.cells, false⟩ (by omega) ok.1 (by omega)
    have ih2 := ihb d ⟨S.cells, false⟩ (by omega) ok.2 (by omega)
    have lo := lv_ok hX hC ok.1
    have lo2 := lv_ok hX hC ok.2
    have e1 : lv X C (.bin o a b) = (lv X C a).bind fun p => (lv X C b).bind fun r => lop o p r := rfl
    rw [e1]
    cases h1 : lv X C a with
    | none =>
      rw [h1] at ih
      exact w_none (by cases o; exact .inr (.inl rfl); exact .inr (.inr (.inl rfl)); exact .inr (.inr (.inr (.inl rfl))); exact .inr (.inr (.inr (.inr rfl)))) ih
    | some p =>
      rw [h1] at ih lo
      cases h3 : lv X C b with
      | none =>
        rw [h3] at ih2
        exact w_none2 ih ih2
      | some r =>
        rw [h3] at ih2 lo2
        rw [Option.bind_some, Option.bind_some]
        cases h2 : vl X' C' a with
        | none => rw [h2] at lo; exact lo.elim
        | some q =>
          cases h4 : vl X' C' b with
          | none => rw [h4] at lo2; exact lo2.elim
          | some y =>
            rw [h2] at lo
            rw [h4] at lo2
            have lo : Rl q p (bt k a) := lo
            have lo2 : Rl y r (bt k b) := lo2
            have f1 : mulOk p.1 r.1 = true := mulOk_of lo.s1 lo2.s1 l
            have f2 : mulOk p.1 r.2 = true := mulOk_of lo.s1 lo2.s2 l
            have f3 : mulOk p.2 r.1 = true := mulOk_of lo.s2 lo2.s1 l
            have f4 : mulOk p.2 r.2 = true := mulOk_of lo.s2 lo2.s2 l
            have f5 : mulOk r.1 p.2 = true := mulOk_of lo2.s1 lo.s2 (by omega)
            have f6 : mulOk (-r.1) p.2 = true := mulOk_of lo2.s1.neg lo.s2 (by omega)
            have g1 : mulOk 1 r.1 = true := mulOk_l (by unfold sz; decide)
            have g2 : mulOk (-1) r.1 = true := mulOk_l (by unfold sz; decide)
            cases o with
            | add => exact w_add ih ih2 f2 g1 (by rw [Int.one_mul]; exact f5) f4
            | sub => exact w_sub ih ih2 f2 g2 f6 f4
            | mul => exact w_mul ih ih2 f1 f4
            | div => exact w_div ih ih2 f2 f3
end
end K04
end
section
set_option Elab.async false
set_option linter.all false
set_option maxRecDepth 100000
set_option maxHeartbeats 1000000
namespace K04
open PySem MP
section
variable {d : Nat} {S : Sto} {x y z u v w : PV} {i j : Int} {p q r : Bool}
theorem a_eq {a b e f : Int} (m1 : mulOk a f = true) (m2 : mulOk e b = true) : callN F (d + 1) n__law_equal [.tup [.int a, .int b], .tup [.int e, .int f]] S = .ok (.bl (decide (a * f = e * b))) S := by
  rw [callN_of (fd := ⟨2, 2, b__law_equal⟩) rfl rfl]
  exact run_ret (by simp [st__law_equal_0, b__law_equal, bd_ok, bd_exc, st_ok, st_exc, xss_cons, xss_nil, seq_next, seq_ret, seq_brk, seq_cont, seq_exc, eqV_int, xst, ev, evT, evs, evo, evc, evi, itemAt, MP.placeOf, bindT, bindTs, unslot, hold, unhold, subR, freeze, ix_tup, ix_lst, ix_r, cm_eq, cm_ne, cm_lt, cm_le, cm_gt, cm_ge, cm_isn, cm_nisn, cm_isb, cm_inn, cm_nin, op_ad, op_sb, op_ml, op_dv, op_md, op_pw, op_sl, op_as, op_at, op_mt, op_al, bi_abs, bi_int, bi_intb, bi_ints, bi_lent, bi_lenl, bi_lenr, bi_lens, bi_listt, bi_listl, bi_tupt, bi_tupl, bi_tupr, bi_gcd, bi_max, bi_min, bi_str, bi_sum, bi_all, bi_any, tr_non, tr_bl, tr_int, tr_tup, tr_lst, ty_nt, ty_tt, ty_ti, ty_ii, ty_it, ty_is, sl_tup, sl_lst, sq_tup, sq_lst, ls_lst, th_lst, wk_tup, wk_lst, opt_some, eqV_non, m1, m2]) rfl
theorem a_non : callN F (d + 1) n__law_agrees [.non, .non] S = .ok (.bl true) S := by
  rw [callN_of (fd := ⟨2, 2, b__law_agrees⟩) rfl rfl]
  exact run_ret (by simp [st__law_agrees_0, st__law_agrees_1, b__law_agrees, bd_ok, bd_exc, st_ok, st_exc, xss_cons, xss_nil, seq_next, seq_ret, seq_brk, seq_cont, seq_exc, eqV_int, xst, ev, evT, evs, evo, evc, evi, itemAt, MP.placeOf, bindT, bindTs, unslot, hold, unhold, subR, freeze, ix_tup, ix_lst, ix_r, cm_eq, cm_ne, cm_lt, cm_le, cm_gt, cm_ge, cm_isn, cm_nisn, cm_isb, cm_inn, cm_nin, op_ad, op_sb, op_ml, op_dv, op_md, op_pw, op_sl, op_as, op_at, op_mt, op_al, bi_abs, bi_int, bi_intb, bi_ints, bi_lent, bi_lenl, bi_lenr, bi_lens, bi_listt, bi_listl, bi_tupt, bi_tupl, bi_tupr, bi_gcd, bi_max, bi_min, bi_str, bi_sum, bi_all, bi_any, tr_non, tr_bl, tr_int, tr_tup, tr_lst, ty_nt, ty_tt, ty_ti, ty_ii, ty_it, ty_is, sl_tup, sl_lst, sq_tup, sq_lst, ls_lst, th_lst, wk_tup, wk_lst, opt_some, eqV_non]) rfl
theorem a_tup {a b e f : Int} (hb : 0 < b) (h : callN F d n__law_equal [.tup [.int a, .int b], .tup [.int e, .int f]] ⟨S.cells, false⟩ = .ok (.bl p) ⟨S.cells, false⟩) : callN F (d + 1) n__law_agrees [.tup [.int a, .int b], .tup [.int e, .int f]] S = .ok (.bl p) S := by
  rw [callN_of (fd := ⟨2, 2, b__law_agrees⟩) rfl rfl]
  exact run_ret (by simp [st__law_agrees_0, st__law_agrees_1, b__law_agrees, bd_ok, bd_exc, st_ok, st_exc, xss_cons, xss_nil, seq_next, seq_ret, seq_brk, seq_cont, seq_exc, eqV_int, xst, ev, evT, evs, evo, evc, evi, itemAt, MP.placeOf, bindT, bindTs, unslot, hold, unhold, subR, freeze, ix_tup, ix_lst, ix_r, cm_eq, cm_ne, cm_lt, cm_le, cm_gt, cm_ge, cm_isn, cm_nisn, cm_isb, cm_inn, cm_nin, op_ad, op_sb, op_ml, op_dv, op_md, op_pw, op_sl, op_as, op_at, op_mt, op_al, bi_abs, bi_int, bi_intb, bi_ints, bi_lent, bi_lenl, bi_lenr, bi_lens, bi_listt, bi_listl, bi_tupt, bi_tupl, bi_tupr, bi_gcd, bi_max, bi_min, bi_str, bi_sum, bi_all, bi_any, tr_non, tr_bl, tr_int, tr_tup, tr_lst, ty_nt, ty_tt, ty_ti, ty_ii, ty_it, ty_is, sl_tup, sl_lst, sq_tup, sq_lst, ls_lst, th_lst, wk_tup, wk_lst, opt_some, eqV_non, nn, hb, h]) rfl
/-- a pair, or none, and the number that it stands for -/
def LR (k : Nat) (w : Option (Int × Int)) (t : Option Rat) : Prop := match w, t with
  | some p, some q => Rl q p k
  | none, none => True
  | _, _ => False
theorem LR_of {j k : Nat} {w : Option (Int × Int)} {t : Option Rat} (l : j ≤ k) (h : match w, t with
    | some p, some q => Rl q p j
    | none, none => True
    | _, _ => False) : LR k w t := by
  cases w with
  | none => cases t <;> exact h
  | some p => cases t with
    | none => exact h
    | some q => exact Rl.mono h l
/-- what is told agrees with what is due -/
theorem r_agrees {t : Option Rat} {w : Option (Int × Int)} {j k : Nat} (ht : ∀ q, t = some q → szq j q) (h : LR k w t) (l : j + k + 2 ≤ 134217728) : callN F (d + 2) n__law_agrees [oq t, opp w] S = .ok (.bl true) S := by
  cases t with
  | none => cases w with
    | none => exact a_non
    | some p => exact h.elim
  | some q => cases w with
    | none => exact h.elim
    | some p =>
      have h : Rl q p k := h
      have s := ht q rfl
      have z := a_eq (d := d) (S := ⟨S.cells, false⟩) (mulOk_of s.1 h.s2 l) (mulOk_of h.s1 s.2 (by omega))
      have e : q.num * p.2 = p.1 * q.den := by
        have e1 := h.eq
        have e2 := num_den q
        have e3 : (q.num : Rat) * (p.2 : Rat) = (p.1 : Rat) * ((q.den : Int) : Rat) := by
          rw [e1, ← e2]
          grind
        exact_mod_cast e3
      rw [decide_eq_true e] at z
      exact a_tup (den_gt q) z
/-- told: a value, or None at a hole -/
theorem o_ok (h : callN F d n_value [x, u, v] ⟨S.cells, false⟩ = .ok z ⟨S.cells, false⟩) (pz : z.pure = true) : callN F (d + 1) n__law_told [x, u, v] S = .ok z S := by
  rw [callN_of (fd := ⟨3, 4, b__law_told⟩) rfl rfl]
  exact run_ret (by simp [bk__law_told_0, bk__law_told_1, st__law_told_0, b__law_told, bd_ok, bd_exc, st_ok, st_exc, xss_cons, xss_nil, seq_next, seq_ret, seq_brk, seq_cont, seq_exc, eqV_int, xst, ev, evT, evs, evo, evc, evi, itemAt, MP.placeOf, bindT, bindTs, unslot, hold, unhold, subR, freeze, ix_tup, ix_lst, ix_r, cm_eq, cm_ne, cm_lt, cm_le, cm_gt, cm_ge, cm_isn, cm_nisn, cm_isb, cm_inn, cm_nin, op_ad, op_sb, op_ml, op_dv, op_md, op_pw, op_sl, op_as, op_at, op_mt, op_al, bi_abs, bi_int, bi_intb, bi_ints, bi_lent, bi_lenl, bi_lenr, bi_lens, bi_listt, bi_listl, bi_tupt, bi_tupl, bi_tupr, bi_gcd, bi_max, bi_min, bi_str, bi_sum, bi_all, bi_any, tr_non, tr_bl, tr_int, tr_tup, tr_lst, ty_nt, ty_tt, ty_ti, ty_ii, ty_it, ty_is, sl_tup, sl_lst, sq_tup, sq_lst, ls_lst, th_lst, wk_tup, wk_lst, opt_some, eqV_non, h, caught]) pz
theorem o_exc (h : callN F d n_value [x, u, v] ⟨S.cells, false⟩ = .exc x_Hole [] ⟨S.cells, false⟩) : callN F (d + 1) n__law_told [x, u, v] S = .ok .non S := by
  rw [callN_of (fd := ⟨3, 4, b__law_told⟩) rfl rfl]
  exact run_ret (by simp [bk__law_told_0, bk__law_told_1, st__law_told_0, b__law_told, bd_ok, bd_exc, st_ok, st_exc, xss_cons, xss_nil, seq_next, seq_ret, seq_brk, seq_cont, seq_exc, eqV_int, xst, ev, evT, evs, evo, evc, evi, itemAt, MP.placeOf, bindT, bindTs, unslot, hold, unhold, subR, freeze, ix_tup, ix_lst, ix_r, cm_eq, cm_ne, cm_lt, cm_le, cm_gt, cm_ge, cm_isn, cm_nisn, cm_isb, cm_inn, cm_nin, op_ad, op_sb, op_ml, op_dv, op_md, op_pw, op_sl, op_as, op_at, op_mt, op_al, bi_abs, bi_int, bi_intb, bi_ints, bi_lent, bi_lenl, bi_lenr, bi_lens, bi_listt, bi_listl, bi_tupt, bi_tupl, bi_tupr, bi_gcd, bi_max, bi_min, bi_str, bi_sum, bi_all, bi_any, tr_non, tr_bl, tr_int, tr_tup, tr_lst, ty_nt, ty_tt, ty_ti, ty_ii, ty_it, ty_is, sl_tup, sl_lst, sq_tup, sq_lst, ls_lst, th_lst, wk_tup, wk_lst, opt_some, eqV_non, h, caught, holdOk]) rfl
theorem oq_pure (q : Option Rat) : (oq q).pure = true := by cases q <;> rfl
theorem r_told {X C : Nat → Rat} {t : Tr} (h : ValOk X C u v t d) : callN F (d + 1) n__law_told [t.tv, u, v] S = .ok (oq (vl X C t)) S := by
  have h := h ⟨S.cells, false⟩
  cases e : vl X C t with
  | none => rw [e] at h; exact o_exc h
  | some q => rw [e] at h; exact o_ok h (fr_pure _)
/-! ### _law_size, _law_most -/
theorem g_leaf {s : Str} (h : s = "num" ∨ s = "state" ∨ s = "const") : callN F (d + 1) n__law_size [.tup [.str s, x]] S = .ok (.int 1) S := by
  rw [callN_of (fd := ⟨1, 1, b__law_size⟩) rfl rfl]
  refine run_ret ?_ rfl
  rcases h with rfl | rfl | rfl <;> simp [st__law_size_0, st__law_size_1, b__law_size, bd_ok, bd_exc, st_ok, st_exc, xss_cons, xss_nil, seq_next, seq_ret, seq_brk, seq_cont, seq_exc, eqV_int, xst, ev, evT, evs, evo, evc, evi, itemAt, MP.placeOf, bindT, bindTs, unslot, hold, unhold, subR, freeze, ix_tup, ix_lst, ix_r, cm_eq, cm_ne, cm_lt, cm_le, cm_gt, cm_ge, cm_isn, cm_nisn, cm_isb, cm_inn, cm_nin, op_ad, op_sb, op_ml, op_dv, op_md, op_pw, op_sl, op_as, op_at, op_mt, op_al, bi_abs, bi_int, bi_intb, bi_ints, bi_lent, bi_lenl, bi_lenr, bi_lens, bi_listt, bi_listl, bi_tupt, bi_tupl, bi_tupr, bi_gcd, bi_max, bi_min, bi_str, bi_sum, bi_all, bi_any, tr_non, tr_bl, tr_int, tr_tup, tr_lst, ty_nt, ty_tt, ty_ti, ty_ii, ty_it, ty_is, sl_tup, sl_lst, sq_tup, sq_lst, ls_lst, th_lst, wk_tup, wk_lst, opt_some, eqV_non, es_num_num, es_num_state, es_num_const, es_num_pow, es_num_add, es_num_sub, es_num_mul, es_num_div, es_state_num, es_state_state, es_state_const, es_state_pow, es_state_add, es_state_sub, es_state_mul, es_state_div, es_const_num, es_const_state, es_const_const, es_const_pow, es_const_add, es_const_sub, es_const_mul, es_const_div, es_pow_num, es_pow_state, es_pow_const, es_pow_pow, es_pow_add, es_pow_sub, es_pow_mul, es_pow_div, es_add_num, es_add_state, es_add_const, es_add_pow, es_add_add, es_add_sub, es_add_mul, es_add_div, es_sub_num, es_sub_state, es_sub_const, es_sub_pow, es_sub_add, es_sub_sub, es_sub_mul, es_sub_div, es_mul_num, es_mul_state, es_mul_const, es_mul_pow, es_mul_add, es_mul_sub, es_mul_mul, es_mul_div, es_div_num, es_div_state, es_div_const, es_div_pow, es_div_add, es_div_sub, es_div_mul, es_div_div, ip_num, ip_state, ip_const, ip_pow, ip_add, ip_sub, ip_mul, ip_div, il_num, il_state, il_const, il_pow, il_add, il_sub, il_mul, il_div, it_num, it_state, it_const, it_pow, it_add, it_sub, it_mul, it_div]
theorem g_pow (h : callN F d n__law_size [x] ⟨S.cells, false⟩ = .ok (.int i) ⟨S.cells, false⟩) : callN F (d + 1) n__law_size [.tup [.str "pow", x, y]] S = .ok (.int (1 + i)) S := by
  rw [callN_of (fd := ⟨1, 1, b__law_size⟩) rfl rfl]
  refine run_ret ?_ rfl
  simp [st__law_size_0, st__law_size_1, b__law_size, bd_ok, bd_exc, st_ok, st_exc, xss_cons, xss_nil, seq_next, seq_ret, seq_brk, seq_cont, seq_exc, eqV_int, xst, ev, evT, evs, evo, evc, evi, itemAt, MP.placeOf, bindT, bindTs, unslot, hold, unhold, subR, freeze, ix_tup, ix_lst, ix_r, cm_eq, cm_ne, cm_lt, cm_le, cm_gt, cm_ge, cm_isn, cm_nisn, cm_isb, cm_inn, cm_nin, op_ad, op_sb, op_ml, op_dv, op_md, op_pw, op_sl, op_as, op_at, op_mt, op_al, bi_abs, bi_int, bi_intb, bi_ints, bi_lent, bi_lenl, bi_lenr, bi_lens, bi_listt, bi_listl, bi_tupt, bi_tupl, bi_tupr, bi_gcd, bi_max, bi_min, bi_str, bi_sum, bi_all, bi_any, tr_non, tr_bl, tr_int, tr_tup, tr_lst, ty_nt, ty_tt, ty_ti, ty_ii, ty_it, ty_is, sl_tup, sl_lst, sq_tup, sq_lst, ls_lst, th_lst, wk_tup, wk_lst, opt_some, eqV_non, es_num_num, es_num_state, es_num_const, es_num_pow, es_num_add, es_num_sub, es_num_mul, es_num_div, es_state_num, es_state_state, es_state_const, es_state_pow, es_state_add, es_state_sub, es_state_mul, es_state_div, es_const_num, es_const_state, es_const_const, es_const_pow, es_const_add, es_const_sub, es_const_mul, es_const_div, es_pow_num, es_pow_state, es_pow_const, es_pow_pow, es_pow_add, es_pow_sub, es_pow_mul, es_pow_div, es_add_num, es_add_state, es_add_const, es_add_pow, es_add_add, es_add_sub, es_add_mul, es_add_div, es_sub_num, es_sub_state, es_sub_const, es_sub_pow, es_sub_add, es_sub_sub, es_sub_mul, es_sub_div, es_mul_num, es_mul_state, es_mul_const, es_mul_pow, es_mul_add, es_mul_sub, es_mul_mul, es_mul_div, es_div_num, es_div_state, es_div_const, es_div_pow, es_div_add, es_div_sub, es_div_mul, es_div_div, ip_num, ip_state, ip_const, ip_pow, ip_add, ip_sub, ip_mul, ip_div, il_num, il_state, il_const, il_pow, il_add, il_sub, il_mul, il_div, it_num, it_state, it_const, it_pow, it_add, it_sub, it_mul, it_div, h]
theorem g_bin {o : Bo} (h : callN F d n__law_size [x] ⟨S.cells, false⟩ = .ok (.int i) ⟨S.cells, false⟩) (h2 : callN F d n__law_size [y] ⟨S.cells, false⟩ = .ok (.int j) ⟨S.cells, false⟩) : callN F (d + 1) n__law_size [.tup [.str o.nm, x, y]] S = .ok (.int (1 + i + j)) S := by
  rw [callN_of (fd := ⟨1, 1, b__law_size⟩) rfl rfl]
  refine run_ret ?_ rfl
  cases o <;> simp [st__law_size_0, st__law_size_1, b__law_size, bd_ok, bd_exc, st_ok, st_exc, xss_cons, xss_nil, seq_next, seq_ret, seq_brk, seq_cont, seq_exc, eqV_int, xst, ev, evT, evs, evo, evc, evi, itemAt, MP.placeOf, bindT, bindTs, unslot, hold, unhold, subR, freeze, ix_tup, ix_lst, ix_r, cm_eq, cm_ne, cm_lt, cm_le, cm_gt, cm_ge, cm_isn, cm_nisn, cm_isb, cm_inn, cm_nin, op_ad, op_sb, op_ml, op_dv, op_md, op_pw, op_sl, op_as, op_at, op_mt, op_al, bi_abs, bi_int, bi_intb, bi_ints, bi_lent, bi_lenl, bi_lenr, bi_lens, bi_listt, bi_listl, bi_tupt, bi_tupl, bi_tupr, bi_gcd, bi_max, bi_min, bi_str, bi_sum, bi_all, bi_any, tr_non, tr_bl, tr_int, tr_tup, tr_lst, ty_nt, ty_tt, ty_ti, ty_ii, ty_it, ty_is, sl_tup, sl_lst, sq_tup, sq_lst, ls_lst, th_lst, wk_tup, wk_lst, opt_some, eqV_non, es_num_num, es_num_state, es_num_const, es_num_pow, es_num_add, es_num_sub, es_num_mul, es_num_div, es_state_num, es_state_state, es_state_const, es_state_pow, es_state_add, es_state_sub, es_state_mul, es_state_div, es_const_num, es_const_state, es_const_const, es_const_pow, es_const_add, es_const_sub, es_const_mul, es_const_div, es_pow_num, es_pow_state, es_pow_const, es_pow_pow, es_pow_add, es_pow_sub, es_pow_mul, es_pow_div, es_add_num, es_add_state, es_add_const, es_add_pow, es_add_add, es_add_sub, es_add_mul, es_add_div, es_sub_num, es_sub_state, es_sub_const, es_sub_pow, es_sub_add, es_sub_sub, es_sub_mul, es_sub_div, es_mul_num, es_mul_state, es_mul_const, es_mul_pow, es_mul_add, es_mul_sub, es_mul_mul, es_mul_div, es_div_num, es_div_state, es_div_const, es_div_pow, es_div_add, es_div_sub, es_div_mul, es_div_div, ip_num, ip_state, ip_const, ip_pow, ip_add, ip_sub, ip_mul, ip_div, il_num, il_state, il_const, il_pow, il_add, il_sub, il_mul, il_div, it_num, it_state, it_const, it_pow, it_add, it_sub, it_mul, it_div, Bo.nm, h, h2]
theorem r_law_size : ∀ (t : Tr) (e : Nat) (S : Sto), t.ht + 1 ≤ e → callN F e n__law_size [t.tv] S = .ok (.int (sizeT t)) S := by
  intro t
  induction t with
  | num q => intro e S he; obtain ⟨d, rfl⟩ : ∃ d, e = d + 1 := ⟨e - 1, by omega⟩; exact g_leaf (.inl rfl)
  | st q => intro e S he; obtain ⟨d, rfl⟩ : ∃ d, e = d + 1 := ⟨e - 1, by omega⟩; exact g_leaf (.inr (.inl rfl))
  | cn q => intro e S he; obtain ⟨d, rfl⟩ : ∃ d, e = d + 1 := ⟨e - 1, by omega⟩; exact g_leaf (.inr (.inr rfl))
  | pw t m ih =>
    intro e S he
    have hh : (Tr.pw t m).ht = t.ht + 1 := rfl
    obtain ⟨d, rfl⟩ : ∃ d, e = d + 1 := ⟨e - 1, by omega⟩
    exact g_pow (ih d _ (by omega))
  | bin o a b iha ihb =>
    intro e S he
    have hh : (Tr.bin o a b).ht = max a.ht b.ht + 1 := rfl
    obtain ⟨d, rfl⟩ : ∃ d, e = d + 1 := ⟨e - 1, by omega⟩
    exact g_bin (iha d _ (by omega)) (ihb d _ (by omega))
def mostT (k : Bool) : Tr → Nat
  | .num _ => 0
  | .st i => if k then i + 1 else 0
  | .cn i => if k then 0 else i + 1
  | .pw t _ => mostT k t
  | .bin _ a b => max (mostT k a) (mostT k b)
theorem h_leaf {k : Bool} {i : Int} : callN F (d + 1) n__law_most [.tup [.str (kd k), .int i], .str (kd k)] S = .ok (.int (i + 1)) S := by
  rw [callN_of (fd := ⟨2, 4, b__law_most⟩) rfl rfl]
  refine run_ret ?_ rfl
  cases k <;> simp [st__law_most_0, st__law_most_1, st__law_most_2, st__law_most_3, st__law_most_4, b__law_most, bd_ok, bd_exc, st_ok, st_exc, xss_cons, xss_nil, seq_next, seq_ret, seq_brk, seq_cont, seq_exc, eqV_int, xst, ev, evT, evs, evo, evc, evi, itemAt, MP.placeOf, bindT, bindTs, unslot, hold, unhold, subR, freeze, ix_tup, ix_lst, ix_r, cm_eq, cm_ne, cm_lt, cm_le, cm_gt, cm_ge, cm_isn, cm_nisn, cm_isb, cm_inn, cm_nin, op_ad, op_sb, op_ml, op_dv, op_md, op_pw, op_sl, op_as, op_at, op_mt, op_al, bi_abs, bi_int, bi_intb, bi_ints, bi_lent, bi_lenl, bi_lenr, bi_lens, bi_listt, bi_listl, bi_tupt, bi_tupl, bi_tupr, bi_gcd, bi_max, bi_min, bi_str, bi_sum, bi_all, bi_any, tr_non, tr_bl, tr_int, tr_tup, tr_lst, ty_nt, ty_tt, ty_ti, ty_ii, ty_it, ty_is, sl_tup, sl_lst, sq_tup, sq_lst, ls_lst, th_lst, wk_tup, wk_lst, opt_some, eqV_non, es_num_num, es_num_state, es_num_const, es_num_pow, es_num_add, es_num_sub, es_num_mul, es_num_div, es_state_num, es_state_state, es_state_const, es_state_pow, es_state_add, es_state_sub, es_state_mul, es_state_div, es_const_num, es_const_state, es_const_const, es_const_pow, es_const_add, es_const_sub, es_const_mul, es_const_div, es_pow_num, es_pow_state, es_pow_const, es_pow_pow, es_pow_add, es_pow_sub, es_pow_mul, es_pow_div, es_add_num, es_add_state, es_add_const, es_add_pow, es_add_add, es_add_sub, es_add_mul, es_add_div, es_sub_num, es_sub_state, es_sub_const, es_sub_pow, es_sub_add, es_sub_sub, es_sub_mul, es_sub_div, es_mul_num, es_mul_state, es_mul_const, es_mul_pow, es_mul_add, es_mul_sub, es_mul_mul, es_mul_div, es_div_num, es_div_state, es_div_const, es_div_pow, es_div_add, es_div_sub, es_div_mul, es_div_div, ip_num, ip_state, ip_const, ip_pow, ip_add, ip_sub, ip_mul, ip_div, il_num, il_state, il_const, il_pow, il_add, il_sub, il_mul, il_div, it_num, it_state, it_const, it_pow, it_add, it_sub, it_mul, it_div, kd]
theorem h_other {k : Bool} (h : x = .str "num" ∨ x = .str (kd (!k))) : callN F (d + 1) n__law_most [.tup [x, y], .str (kd k)] S = .ok (.int 0) S := by
  rw [callN_of (fd := ⟨2, 4, b__law_most⟩) rfl rfl]
  refine run_ret ?_ rfl
  rcases h with rfl | rfl <;> cases k <;> simp [st__law_most_0, st__law_most_1, st__law_most_2, st__law_most_3, st__law_most_4, b__law_most, bd_ok, bd_exc, st_ok, st_exc, xss_cons, xss_nil, seq_next, seq_ret, seq_brk, seq_cont, seq_exc, eqV_int, xst, ev, evT, evs, evo, evc, evi, itemAt, MP.placeOf, bindT, bindTs, unslot, hold, unhold, subR, freeze, ix_tup, ix_lst, ix_r, cm_eq, cm_ne, cm_lt, cm_le, cm_gt, cm_ge, cm_isn, cm_nisn, cm_isb, cm_inn, cm_nin, op_ad, op_sb, op_ml, op_dv, op_md, op_pw, op_sl, op_as, op_at, op_mt, op_al, bi_abs, bi_int, bi_intb, bi_ints, bi_lent, bi_lenl, bi_lenr, bi_lens, bi_listt, bi_listl, bi_tupt, bi_tupl, bi_tupr, bi_gcd, bi_max, bi_min, bi_str, bi_sum, bi_all, bi_any, tr_non, tr_bl, tr_int, tr_tup, tr_lst, ty_nt, ty_tt, ty_ti, ty_ii, ty_it, ty_is, sl_tup, sl_lst, sq_tup, sq_lst, ls_lst, th_lst, wk_tup, wk_lst, opt_some, eqV_non, es_num_num, es_num_state, es_num_const, es_num_pow, es_num_add, es_num_sub, es_num_mul, es_num_div, es_state_num, es_state_state, es_state_const, es_state_pow, es_state_add, es_state_sub, es_state_mul, es_state_div, es_const_num, es_const_state, es_const_const, es_const_pow, es_const_add, es_const_sub, es_const_mul, es_const_div, es_pow_num, es_pow_state, es_pow_const, es_pow_pow, es_pow_add, es_pow_sub, es_pow_mul, es_pow_div, es_add_num, es_add_state, es_add_const, es_add_pow, es_add_add, es_add_sub, es_add_mul, es_add_div, es_sub_num, es_sub_state, es_sub_const, es_sub_pow, es_sub_add, es_sub_sub, es_sub_mul, es_sub_div, es_mul_num, es_mul_state, es_mul_const, es_mul_pow, es_mul_add, es_mul_sub, es_mul_mul, es_mul_div, es_div_num, es_div_state, es_div_const, es_div_pow, es_div_add, es_div_sub, es_div_mul, es_div_div, ip_num, ip_state, ip_const, ip_pow, ip_add, ip_sub, ip_mul, ip_div, il_num, il_state, il_const, il_pow, il_add, il_sub, il_mul, il_div, it_num, it_state, it_const, it_pow, it_add, it_sub, it_mul, it_div, kd]
theorem h_pow {k : Str} (hk : k = "state" ∨ k = "const") (h : callN F d n__law_most [x, .str k] ⟨S.cells, false⟩ = .ok (.int i) ⟨S.cells, false⟩) (hi : 0 ≤ i) : callN F (d + 1) n__law_most [.tup [.str "pow", x, y], .str k] S = .ok (.int i) S := by
  rw [callN_of (fd := ⟨2, 4, b__law_most⟩) rfl rfl]
  refine run_ret ?_ rfl
  have h0 : ¬ i < 0 := by omega
  rcases hk with rfl | rfl <;> simp [st__law_most_0, st__law_most_1, st__law_most_2, st__law_most_3, st__law_most_4, b__law_most, bd_ok, bd_exc, st_ok, st_exc, xss_cons, xss_nil, seq_next, seq_ret, seq_brk, seq_cont, seq_exc, eqV_int, xst, ev, evT, evs, evo, evc, evi, itemAt, MP.placeOf, bindT, bindTs, unslot, hold, unhold, subR, freeze, ix_tup, ix_lst, ix_r, cm_eq, cm_ne, cm_lt, cm_le, cm_gt, cm_ge, cm_isn, cm_nisn, cm_isb, cm_inn, cm_nin, op_ad, op_sb, op_ml, op_dv, op_md, op_pw, op_sl, op_as, op_at, op_mt, op_al, bi_abs, bi_int, bi_intb, bi_ints, bi_lent, bi_lenl, bi_lenr, bi_lens, bi_listt, bi_listl, bi_tupt, bi_tupl, bi_tupr, bi_gcd, bi_max, bi_min, bi_str, bi_sum, bi_all, bi_any, tr_non, tr_bl, tr_int, tr_tup, tr_lst, ty_nt, ty_tt, ty_ti, ty_ii, ty_it, ty_is, sl_tup, sl_lst, sq_tup, sq_lst, ls_lst, th_lst, wk_tup, wk_lst, opt_some, eqV_non, es_num_num, es_num_state, es_num_const, es_num_pow, es_num_add, es_num_sub, es_num_mul, es_num_div, es_state_num, es_state_state, es_state_const, es_state_pow, es_state_add, es_state_sub, es_state_mul, es_state_div, es_const_num, es_const_state, es_const_const, es_const_pow, es_const_add, es_const_sub, es_const_mul, es_const_div, es_pow_num, es_pow_state, es_pow_const, es_pow_pow, es_pow_add, es_pow_sub, es_pow_mul, es_pow_div, es_add_num, es_add_state, es_add_const, es_add_pow, es_add_add, es_add_sub, es_add_mul, es_add_div, es_sub_num, es_sub_state, es_sub_const, es_sub_pow, es_sub_add, es_sub_sub, es_sub_mul, es_sub_div, es_mul_num, es_mul_state, es_mul_const, es_mul_pow, es_mul_add, es_mul_sub, es_mul_mul, es_mul_div, es_div_num, es_div_state, es_div_const, es_div_pow, es_div_add, es_div_sub, es_div_mul, es_div_div, ip_num, ip_state, ip_const, ip_pow, ip_add, ip_sub, ip_mul, ip_div, il_num, il_state, il_const, il_pow, il_add, il_sub, il_mul, il_div, it_num, it_state, it_const, it_pow, it_add, it_sub, it_mul, it_div, h, h0]
theorem h_bin {o : Bo} {k : Str} (hk : k = "state" ∨ k = "const") (h : callN F d n__law_most [x, .str k] ⟨S.cells, false⟩ = .ok (.int i) ⟨S.cells, false⟩) (h2 : callN F d n__law_most [y, .str k] ⟨S.cells, false⟩ = .ok (.int j) ⟨S.cells, false⟩) : callN F (d + 1) n__law_most [.tup [.str o.nm, x, y], .str k] S = .ok (.int (if j > i then j else i)) S := by
  rw [callN_of (fd := ⟨2, 4, b__law_most⟩) rfl rfl]
  refine run_ret ?_ rfl
  rcases hk with rfl | rfl <;> cases o <;> simp [st__law_most_0, st__law_most_1, st__law_most_2, st__law_most_3, st__law_most_4, b__law_most, bd_ok, bd_exc, st_ok, st_exc, xss_cons, xss_nil, seq_next, seq_ret, seq_brk, seq_cont, seq_exc, eqV_int, xst, ev, evT, evs, evo, evc, evi, itemAt, MP.placeOf, bindT, bindTs, unslot, hold, unhold, subR, freeze, ix_tup, ix_lst, ix_r, cm_eq, cm_ne, cm_lt, cm_le, cm_gt, cm_ge, cm_isn, cm_nisn, cm_isb, cm_inn, cm_nin, op_ad, op_sb, op_ml, op_dv, op_md, op_pw, op_sl, op_as, op_at, op_mt, op_al, bi_abs, bi_int, bi_intb, bi_ints, bi_lent, bi_lenl, bi_lenr, bi_lens, bi_listt, bi_listl, bi_tupt, bi_tupl, bi_tupr, bi_gcd, bi_max, bi_min, bi_str, bi_sum, bi_all, bi_any, tr_non, tr_bl, tr_int, tr_tup, tr_lst, ty_nt, ty_tt, ty_ti, ty_ii, ty_it, ty_is, sl_tup, sl_lst, sq_tup, sq_lst, ls_lst, th_lst, wk_tup, wk_lst, opt_some, eqV_non, es_num_num, es_num_state, es_num_const, es_num_pow, es_num_add, es_num_sub, es_num_mul, es_num_div, es_state_num, es_state_state, es_state_const, es_state_pow, es_state_add, es_state_sub, es_state_mul, es_state_div, es_const_num, es_const_state, es_const_const, es_const_pow, es_const_add, es_const_sub, es_const_mul, es_const_div, es_pow_num, es_pow_state, es_pow_const, es_pow_pow, es_pow_add, es_pow_sub, es_pow_mul, es_pow_div, es_add_num, es_add_state, es_add_const, es_add_pow, es_add_add, es_add_sub, es_add_mul, es_add_div, es_sub_num, es_sub_state, es_sub_const, es_sub_pow, es_sub_add, es_sub_sub, es_sub_mul, es_sub_div, es_mul_num, es_mul_state, es_mul_const, es_mul_pow, es_mul_add, es_mul_sub, es_mul_mul, es_mul_div, es_div_num, es_div_state, es_div_const, es_div_pow, es_div_add, es_div_sub, es_div_mul, es_div_div, ip_num, ip_state, ip_const, ip_pow, ip_add, ip_sub, ip_mul, ip_div, il_num, il_state, il_const, il_pow, il_add, il_sub, il_mul, il_div, it_num, it_state, it_const, it_pow, it_add, it_sub, it_mul, it_div, Bo.nm, h, h2]
theorem r_most {k : Bool} : ∀ (t : Tr) (e : Nat) (S : Sto), t.ht + 1 ≤ e → callN F e n__law_most [t.tv, .str (kd k)] S = .ok (.int (mostT k t)) S := by
  intro t
  induction t with
  | num q => intro e S he; obtain ⟨d, rfl⟩ : ∃ d, e = d + 1 := ⟨e - 1, by omega⟩; exact h_other (.inl rfl)
  | st i =>
    intro e S he
    obtain ⟨d, rfl⟩ : ∃ d, e = d + 1 := ⟨e - 1, by omega⟩
    cases k
    · exact h_other (.inr rfl)
    · exact h_leaf (k := true)
  | cn i =>
    intro e S he
    obtain ⟨d, rfl⟩ : ∃ d, e = d + 1 := ⟨e - 1, by omega⟩
    cases k
    · exact h_leaf (k := false)
    · exact h_other (.inr rfl)
  | pw t m ih =>
    intro e S he
    have hh : (Tr.pw t m).ht = t.ht + 1 := rfl
    obtain ⟨d, rfl⟩ : ∃ d, e = d + 1 := ⟨e - 1, by omega⟩
    exact h_pow (kd_or k) (ih d _ (by omega)) (Int.natCast_nonneg _)
  | bin o a b iha ihb =>
    intro e S he
    have hh : (Tr.bin o a b).ht = max a.ht b.ht + 1 := rfl
    obtain ⟨d, rfl⟩ : ∃ d, e = d + 1 := ⟨e - 1, by omega⟩
    rw [show (Tr.bin o a b).tv = .tup [.str o.nm, a.tv, b.tv] from rfl, h_bin (kd_or k) (iha d _ (by omega)) (ihb d _ (by omega))]
    have : (mostT k (.bin o a b) : Int) = if (mostT k b : Int) > mostT k a then (mostT k b : Int) else mostT k a := by
      show ((max (mostT k a) (mostT k b) : Nat) : Int) = _
      split <;> omega
    rw [this]
theorem fits_st {n c k cc m : Nat} : ∀ {t : Tr}, t.okT k cc 2 m → m ≤ 9 → (fitsT n 2 t = decide (mostT true t ≤ n))
  | .num _, _, _ => by simp [fitsT, mostT]
  | .st i, _, _ => by
    show decide ((i : Int) < n) = decide (i + 1 ≤ n)
    exact decide_eq_decide.mpr (by omega)
  | .cn i, ok, _ => by
    have ok : i < 2 := ok
    show decide ((i : Int) < 2) = decide (0 ≤ n)
    exact decide_eq_decide.mpr (by omega)
  | .pw t e, ok, hm => by
    have ih := fits_st (n := n) (c := c) ok.1 hm
    have oe : e < m := ok.2
    show (decide (e ≤ 8) && fitsT n 2 t) = decide (mostT true t ≤ n)
    rw [ih, decide_eq_true (show e ≤ 8 by omega), Bool.true_and]
  | .bin o a b, ok, hm => by
    have ih := fits_st (n := n) (c := c) ok.1 hm
    have ih2 := fits_st (n := n) (c := c) ok.2 hm
    show (fitsT n 2 a && fitsT n 2 b) = decide (max (mostT true a) (mostT true b) ≤ n)
    rw [ih, ih2, ← Bool.decide_and]
    exact decide_eq_decide.mpr (by omega)
theorem fits_cn {n c k cc m : Nat} : ∀ {t : Tr}, t.okT k 2 cc m → m ≤ 9 → (fitsT 2 n t = decide (mostT false t ≤ n))
  | .num _, _, _ => by simp [fitsT, mostT]
  | .cn i, _, _ => by
    show decide ((i : Int) < n) = decide (i + 1 ≤ n)
    exact decide_eq_decide.mpr (by omega)
  | .st i, ok, _ => by
    have ok : i < 2 := ok
    show decide ((i : Int) < 2) = decide (0 ≤ n)
    exact decide_eq_decide.mpr (by omega)
  | .pw t e, ok, hm => by
    have ih := fits_cn (n := n) (c := c) ok.1 hm
    have oe : e < m := ok.2
    show (decide (e ≤ 8) && fitsT 2 n t) = decide (mostT false t ≤ n)
    rw [ih, decide_eq_true (show e ≤ 8 by omega), Bool.true_and]
  | .bin o a b, ok, hm => by
    have ih := fits_cn (n := n) (c := c) ok.1 hm
    have ih2 := fits_cn (n := n) (c := c) ok.2 hm
    show (fitsT 2 n a && fitsT 2 n b) = decide (max (mostT false a) (mostT false b) ≤ n)
    rw [ih, ih2, ← Bool.decide_and]
    exact decide_eq_decide.mpr (by omega)
/-! ### the law's slopes -/
theorem lp_raw (hp : ∀ S, eqV S x N0 = some p) (hq : ∀ S, eqV S y N0 = some q) {p1 q1 : Bool} (hp1 : ∀ S, eqV S x N1 = some p1) (hq1 : ∀ S, eqV S y N1 = some q1) (px : x.pure = true) (py : y.pure = true) :
    callN F (d + 1) n__law_product [x, y] S = .ok (if p || q then N0 else if p1 then y else if q1 then x else .tup [.str "mul", x, y]) S := by
  rw [callN_of (fd := ⟨2, 4, b__law_product⟩) rfl rfl]
  cases p
  · cases q
    · cases p1
      · cases q1
        · exact run_ret (by simp [st__law_product_0, st__law_product_1, st__law_product_2, st__law_product_3, st__law_product_4, b__law_product, bd_ok, bd_exc, st_ok, st_exc, xss_cons, xss_nil, seq_next, seq_ret, seq_brk, seq_cont, seq_exc, eqV_int, xst, ev, evT, evs, evo, evc, evi, itemAt, MP.placeOf, bindT, bindTs, unslot, hold, unhold, subR, freeze, ix_tup, ix_lst, ix_r, cm_eq, cm_ne, cm_lt, cm_le, cm_gt, cm_ge, cm_isn, cm_nisn, cm_isb, cm_inn, cm_nin, op_ad, op_sb, op_ml, op_dv, op_md, op_pw, op_sl, op_as, op_at, op_mt, op_al, bi_abs, bi_int, bi_intb, bi_ints, bi_lent, bi_lenl, bi_lenr, bi_lens, bi_listt, bi_listl, bi_tupt, bi_tupl, bi_tupr, bi_gcd, bi_max, bi_min, bi_str, bi_sum, bi_all, bi_any, tr_non, tr_bl, tr_int, tr_tup, tr_lst, ty_nt, ty_tt, ty_ti, ty_ii, ty_it, ty_is, sl_tup, sl_lst, sq_tup, sq_lst, ls_lst, th_lst, wk_tup, wk_lst, opt_some, eqV_non, hp, hq, hp1, hq1]) (by simp [PV.pure, PV.pures, px, py])
        · exact run_ret (by simp [st__law_product_0, st__law_product_1, st__law_product_2, st__law_product_3, st__law_product_4, b__law_product, bd_ok, bd_exc, st_ok, st_exc, xss_cons, xss_nil, seq_next, seq_ret, seq_brk, seq_cont, seq_exc, eqV_int, xst, ev, evT, evs, evo, evc, evi, itemAt, MP.placeOf, bindT, bindTs, unslot, hold, unhold, subR, freeze, ix_tup, ix_lst, ix_r, cm_eq, cm_ne, cm_lt, cm_le, cm_gt, cm_ge, cm_isn, cm_nisn, cm_isb, cm_inn, cm_nin, op_ad, op_sb, op_ml, op_dv, op_md, op_pw, op_sl, op_as, op_at, op_mt, op_al, bi_abs, bi_int, bi_intb, bi_ints, bi_lent, bi_lenl, bi_lenr, bi_lens, bi_listt, bi_listl, bi_tupt, bi_tupl, bi_tupr, bi_gcd, bi_max, bi_min, bi_str, bi_sum, bi_all, bi_any, tr_non, tr_bl, tr_int, tr_tup, tr_lst, ty_nt, ty_tt, ty_ti, ty_ii, ty_it, ty_is, sl_tup, sl_lst, sq_tup, sq_lst, ls_lst, th_lst, wk_tup, wk_lst, opt_some, eqV_non, hp, hq, hp1, hq1]) px
      · exact run_ret (by simp [st__law_product_0, st__law_product_1, st__law_product_2, st__law_product_3, st__law_product_4, b__law_product, bd_ok, bd_exc, st_ok, st_exc, xss_cons, xss_nil, seq_next, seq_ret, seq_brk, seq_cont, seq_exc, eqV_int, xst, ev, evT, evs, evo, evc, evi, itemAt, MP.placeOf, bindT, bindTs, unslot, hold, unhold, subR, freeze, ix_tup, ix_lst, ix_r, cm_eq, cm_ne, cm_lt, cm_le, cm_gt, cm_ge, cm_isn, cm_nisn, cm_isb, cm_inn, cm_nin, op_ad, op_sb, op_ml, op_dv, op_md, op_pw, op_sl, op_as, op_at, op_mt, op_al, bi_abs, bi_int, bi_intb, bi_ints, bi_lent, bi_lenl, bi_lenr, bi_lens, bi_listt, bi_listl, bi_tupt, bi_tupl, bi_tupr, bi_gcd, bi_max, bi_min, bi_str, bi_sum, bi_all, bi_any, tr_non, tr_bl, tr_int, tr_tup, tr_lst, ty_nt, ty_tt, ty_ti, ty_ii, ty_it, ty_is, sl_tup, sl_lst, sq_tup, sq_lst, ls_lst, th_lst, wk_tup, wk_lst, opt_some, eqV_non, hp, hq, hp1, hq1]) py
    · exact run_ret (by simp [st__law_product_0, st__law_product_1, st__law_product_2, st__law_product_3, st__law_product_4, b__law_product, bd_ok, bd_exc, st_ok, st_exc, xss_cons, xss_nil, seq_next, seq_ret, seq_brk, seq_cont, seq_exc, eqV_int, xst, ev, evT, evs, evo, evc, evi, itemAt, MP.placeOf, bindT, bindTs, unslot, hold, unhold, subR, freeze, ix_tup, ix_lst, ix_r, cm_eq, cm_ne, cm_lt, cm_le, cm_gt, cm_ge, cm_isn, cm_nisn, cm_isb, cm_inn, cm_nin, op_ad, op_sb, op_ml, op_dv, op_md, op_pw, op_sl, op_as, op_at, op_mt, op_al, bi_abs, bi_int, bi_intb, bi_ints, bi_lent, bi_lenl, bi_lenr, bi_lens, bi_listt, bi_listl, bi_tupt, bi_tupl, bi_tupr, bi_gcd, bi_max, bi_min, bi_str, bi_sum, bi_all, bi_any, tr_non, tr_bl, tr_int, tr_tup, tr_lst, ty_nt, ty_tt, ty_ti, ty_ii, ty_it, ty_is, sl_tup, sl_lst, sq_tup, sq_lst, ls_lst, th_lst, wk_tup, wk_lst, opt_some, eqV_non, hp, hq]) rfl
  · exact run_ret (by simp [st__law_product_0, st__law_product_1, st__law_product_2, st__law_product_3, st__law_product_4, b__law_product, bd_ok, bd_exc, st_ok, st_exc, xss_cons, xss_nil, seq_next, seq_ret, seq_brk, seq_cont, seq_exc, eqV_int, xst, ev, evT, evs, evo, evc, evi, itemAt, MP.placeOf, bindT, bindTs, unslot, hold, unhold, subR, freeze, ix_tup, ix_lst, ix_r, cm_eq, cm_ne, cm_lt, cm_le, cm_gt, cm_ge, cm_isn, cm_nisn, cm_isb, cm_inn, cm_nin, op_ad, op_sb, op_ml, op_dv, op_md, op_pw, op_sl, op_as, op_at, op_mt, op_al, bi_abs, bi_int, bi_intb, bi_ints, bi_lent, bi_lenl, bi_lenr, bi_lens, bi_listt, bi_listl, bi_tupt, bi_tupl, bi_tupr, bi_gcd, bi_max, bi_min, bi_str, bi_sum, bi_all, bi_any, tr_non, tr_bl, tr_int, tr_tup, tr_lst, ty_nt, ty_tt, ty_ti, ty_ii, ty_it, ty_is, sl_tup, sl_lst, sq_tup, sq_lst, ls_lst, th_lst, wk_tup, wk_lst, opt_some, eqV_non, hp, hq]) rfl
theorem r_law_product {a b : Tr} (ha : a.ht ≤ 60) (hb : b.ht ≤ 60) : callN F (d + 1) n__law_product [a.tv, b.tv] S = .ok (pd a b).tv S := by
  rw [lp_raw (fun S => eqZ ha) (fun S => eqZ hb) (fun S => eqO ha) (fun S => eqO hb) (tv_pure _) (tv_pure _)]
  unfold pd
  by_cases h : a = .num 0
  · simp [h, Tr.tv, fr, pr]
  · by_cases h2 : b = .num 0
    · simp [h, h2, Tr.tv, fr, pr]
    · by_cases h3 : a = .num 1
      · simp [h, h2, h3]
      · by_cases h4 : b = .num 1
        · simp [h, h2, h3, h4]
        · simp [h, h2, h3, h4, Tr.tv, Bo.nm]
theorem lq_raw {l r t s : PV} (h1 : callN F d n__law_product [u, y] ⟨S.cells, false⟩ = .ok l ⟨S.cells, false⟩) (h2 : callN F d n__law_product [x, v] ⟨S.cells, false⟩ = .ok r ⟨S.cells, false⟩) (hr : ∀ S, eqV S r N0 = some p) (ht : t = if p then l else .tup [.str "sub", l, r]) (hq : ∀ S, eqV S t N0 = some q) (hs : s = if q then N0 else .tup [.str "div", t, .tup [.str "pow", y, .int 2]]) (ps : s.pure = true) :
    callN F (d + 1) n__law_quotient_slope [.tup [w, x, y], u, v] S = .ok s S := by
  rw [callN_of (fd := ⟨3, 7, b__law_quotient_slope⟩) rfl rfl]
  refine run_ret ?_ ps
  subst hs
  cases p
  · have ht : t = .tup [.str "sub", l, r] := ht
    subst ht
    cases q <;> simp [st__law_quotient_slope_0, st__law_quotient_slope_1, st__law_quotient_slope_2, st__law_quotient_slope_3, st__law_quotient_slope_4, b__law_quotient_slope, bd_ok, bd_exc, st_ok, st_exc, xss_cons, xss_nil, seq_next, seq_ret, seq_brk, seq_cont, seq_exc, eqV_int, xst, ev, evT, evs, evo, evc, evi, itemAt, MP.placeOf, bindT, bindTs, unslot, hold, unhold, subR, freeze, ix_tup, ix_lst, ix_r, cm_eq, cm_ne, cm_lt, cm_le, cm_gt, cm_ge, cm_isn, cm_nisn, cm_isb, cm_inn, cm_nin, op_ad, op_sb, op_ml, op_dv, op_md, op_pw, op_sl, op_as, op_at, op_mt, op_al, bi_abs, bi_int, bi_intb, bi_ints, bi_lent, bi_lenl, bi_lenr, bi_lens, bi_listt, bi_listl, bi_tupt, bi_tupl, bi_tupr, bi_gcd, bi_max, bi_min, bi_str, bi_sum, bi_all, bi_any, tr_non, tr_bl, tr_int, tr_tup, tr_lst, ty_nt, ty_tt, ty_ti, ty_ii, ty_it, ty_is, sl_tup, sl_lst, sq_tup, sq_lst, ls_lst, th_lst, wk_tup, wk_lst, opt_some, eqV_non, h1, h2, hr, hq]
  · have ht : t = l := ht
    subst ht
    cases q <;> simp [st__law_quotient_slope_0, st__law_quotient_slope_1, st__law_quotient_slope_2, st__law_quotient_slope_3, st__law_quotient_slope_4, b__law_quotient_slope, bd_ok, bd_exc, st_ok, st_exc, xss_cons, xss_nil, seq_next, seq_ret, seq_brk, seq_cont, seq_exc, eqV_int, xst, ev, evT, evs, evo, evc, evi, itemAt, MP.placeOf, bindT, bindTs, unslot, hold, unhold, subR, freeze, ix_tup, ix_lst, ix_r, cm_eq, cm_ne, cm_lt, cm_le, cm_gt, cm_ge, cm_isn, cm_nisn, cm_isb, cm_inn, cm_nin, op_ad, op_sb, op_ml, op_dv, op_md, op_pw, op_sl, op_as, op_at, op_mt, op_al, bi_abs, bi_int, bi_intb, bi_ints, bi_lent, bi_lenl, bi_lenr, bi_lens, bi_listt, bi_listl, bi_tupt, bi_tupl, bi_tupr, bi_gcd, bi_max, bi_min, bi_str, bi_sum, bi_all, bi_any, tr_non, tr_bl, tr_int, tr_tup, tr_lst, ty_nt, ty_tt, ty_ti, ty_ii, ty_it, ty_is, sl_tup, sl_lst, sq_tup, sq_lst, ls_lst, th_lst, wk_tup, wk_lst, opt_some, eqV_non, h1, h2, hr, hq]
theorem m_leaf {k : Bool} {n i : Int} : callN F (d + 1) n__law_slope [.tup [.str (kd k), .int i], .str (kd k), .int n] S = .ok (if i = n then N1 else N0) S := by
  rw [callN_of (fd := ⟨3, 8, b__law_slope⟩) rfl rfl]
  refine run_ret ?_ (by split <;> rfl)
  by_cases e : i = n
  · cases k <;> simp [st__law_slope_0, st__law_slope_1, st__law_slope_2, st__law_slope_3, st__law_slope_4, st__law_slope_5, st__law_slope_6, st__law_slope_7, st__law_slope_8, st__law_slope_9, st__law_slope_10, b__law_slope, bd_ok, bd_exc, st_ok, st_exc, xss_cons, xss_nil, seq_next, seq_ret, seq_brk, seq_cont, seq_exc, eqV_int, xst, ev, evT, evs, evo, evc, evi, itemAt, MP.placeOf, bindT, bindTs, unslot, hold, unhold, subR, freeze, ix_tup, ix_lst, ix_r, cm_eq, cm_ne, cm_lt, cm_le, cm_gt, cm_ge, cm_isn, cm_nisn, cm_isb, cm_inn, cm_nin, op_ad, op_sb, op_ml, op_dv, op_md, op_pw, op_sl, op_as, op_at, op_mt, op_al, bi_abs, bi_int, bi_intb, bi_ints, bi_lent, bi_lenl, bi_lenr, bi_lens, bi_listt, bi_listl, bi_tupt, bi_tupl, bi_tupr, bi_gcd, bi_max, bi_min, bi_str, bi_sum, bi_all, bi_any, tr_non, tr_bl, tr_int, tr_tup, tr_lst, ty_nt, ty_tt, ty_ti, ty_ii, ty_it, ty_is, sl_tup, sl_lst, sq_tup, sq_lst, ls_lst, th_lst, wk_tup, wk_lst, opt_some, eqV_non, es_num_num, es_num_state, es_num_const, es_num_pow, es_num_add, es_num_sub, es_num_mul, es_num_div, es_state_num, es_state_state, es_state_const, es_state_pow, es_state_add, es_state_sub, es_state_mul, es_state_div, es_const_num, es_const_state, es_const_const, es_const_pow, es_const_add, es_const_sub, es_const_mul, es_const_div, es_pow_num, es_pow_state, es_pow_const, es_pow_pow, es_pow_add, es_pow_sub, es_pow_mul, es_pow_div, es_add_num, es_add_state, es_add_const, es_add_pow, es_add_add, es_add_sub, es_add_mul, es_add_div, es_sub_num, es_sub_state, es_sub_const, es_sub_pow, es_sub_add, es_sub_sub, es_sub_mul, es_sub_div, es_mul_num, es_mul_state, es_mul_const, es_mul_pow, es_mul_add, es_mul_sub, es_mul_mul, es_mul_div, es_div_num, es_div_state, es_div_const, es_div_pow, es_div_add, es_div_sub, es_div_mul, es_div_div, ip_num, ip_state, ip_const, ip_pow, ip_add, ip_sub, ip_mul, ip_div, il_num, il_state, il_const, il_pow, il_add, il_sub, il_mul, il_div, it_num, it_state, it_const, it_pow, it_add, it_sub, it_mul, it_div, kd, e]
  · cases k <;> simp [st__law_slope_0, st__law_slope_1, st__law_slope_2, st__law_slope_3, st__law_slope_4, st__law_slope_5, st__law_slope_6, st__law_slope_7, st__law_slope_8, st__law_slope_9, st__law_slope_10, b__law_slope, bd_ok, bd_exc, st_ok, st_exc, xss_cons, xss_nil, seq_next, seq_ret, seq_brk, seq_cont, seq_exc, eqV_int, xst, ev, evT, evs, evo, evc, evi, itemAt, MP.placeOf, bindT, bindTs, unslot, hold, unhold, subR, freeze, ix_tup, ix_lst, ix_r, cm_eq, cm_ne, cm_lt, cm_le, cm_gt, cm_ge, cm_isn, cm_nisn, cm_isb, cm_inn, cm_nin, op_ad, op_sb, op_ml, op_dv, op_md, op_pw, op_sl, op_as, op_at, op_mt, op_al, bi_abs, bi_int, bi_intb, bi_ints, bi_lent, bi_lenl, bi_lenr, bi_lens, bi_listt, bi_listl, bi_tupt, bi_tupl, bi_tupr, bi_gcd, bi_max, bi_min, bi_str, bi_sum, bi_all, bi_any, tr_non, tr_bl, tr_int, tr_tup, tr_lst, ty_nt, ty_tt, ty_ti, ty_ii, ty_it, ty_is, sl_tup, sl_lst, sq_tup, sq_lst, ls_lst, th_lst, wk_tup, wk_lst, opt_some, eqV_non, es_num_num, es_num_state, es_num_const, es_num_pow, es_num_add, es_num_sub, es_num_mul, es_num_div, es_state_num, es_state_state, es_state_const, es_state_pow, es_state_add, es_state_sub, es_state_mul, es_state_div, es_const_num, es_const_state, es_const_const, es_const_pow, es_const_add, es_const_sub, es_const_mul, es_const_div, es_pow_num, es_pow_state, es_pow_const, es_pow_pow, es_pow_add, es_pow_sub, es_pow_mul, es_pow_div, es_add_num, es_add_state, es_add_const, es_add_pow, es_add_add, es_add_sub, es_add_mul, es_add_div, es_sub_num, es_sub_state, es_sub_const, es_sub_pow, es_sub_add, es_sub_sub, es_sub_mul, es_sub_div, es_mul_num, es_mul_state, es_mul_const, es_mul_pow, es_mul_add, es_mul_sub, es_mul_mul, es_mul_div, es_div_num, es_div_state, es_div_const, es_div_pow, es_div_add, es_div_sub, es_div_mul, es_div_div, ip_num, ip_state, ip_const, ip_pow, ip_add, ip_sub, ip_mul, ip_div, il_num, il_state, il_const, il_pow, il_add, il_sub, il_mul, il_div, it_num, it_state, it_const, it_pow, it_add, it_sub, it_mul, it_div, kd, e]
theorem m_other {k : Bool} (h : x = .str "num" ∨ x = .str (kd (!k))) : callN F (d + 1) n__law_slope [.tup [x, y], .str (kd k), z] S = .ok N0 S := by
  rw [callN_of (fd := ⟨3, 8, b__law_slope⟩) rfl rfl]
  refine run_ret ?_ rfl
  rcases h with rfl | rfl <;> cases k <;> simp [st__law_slope_0, st__law_slope_1, st__law_slope_2, st__law_slope_3, st__law_slope_4, st__law_slope_5, st__law_slope_6, st__law_slope_7, st__law_slope_8, st__law_slope_9, st__law_slope_10, b__law_slope, bd_ok, bd_exc, st_ok, st_exc, xss_cons, xss_nil, seq_next, seq_ret, seq_brk, seq_cont, seq_exc, eqV_int, xst, ev, evT, evs, evo, evc, evi, itemAt, MP.placeOf, bindT, bindTs, unslot, hold, unhold, subR, freeze, ix_tup, ix_lst, ix_r, cm_eq, cm_ne, cm_lt, cm_le, cm_gt, cm_ge, cm_isn, cm_nisn, cm_isb, cm_inn, cm_nin, op_ad, op_sb, op_ml, op_dv, op_md, op_pw, op_sl, op_as, op_at, op_mt, op_al, bi_abs, bi_int, bi_intb, bi_ints, bi_lent, bi_lenl, bi_lenr, bi_lens, bi_listt, bi_listl, bi_tupt, bi_tupl, bi_tupr, bi_gcd, bi_max, bi_min, bi_str, bi_sum, bi_all, bi_any, tr_non, tr_bl, tr_int, tr_tup, tr_lst, ty_nt, ty_tt, ty_ti, ty_ii, ty_it, ty_is, sl_tup, sl_lst, sq_tup, sq_lst, ls_lst, th_lst, wk_tup, wk_lst, opt_some, eqV_non, es_num_num, es_num_state, es_num_const, es_num_pow, es_num_add, es_num_sub, es_num_mul, es_num_div, es_state_num, es_state_state, es_state_const, es_state_pow, es_state_add, es_state_sub, es_state_mul, es_state_div, es_const_num, es_const_state, es_const_const, es_const_pow, es_const_add, es_const_sub, es_const_mul, es_const_div, es_pow_num, es_pow_state, es_pow_const, es_pow_pow, es_pow_add, es_pow_sub, es_pow_mul, es_pow_div, es_add_num, es_add_state, es_add_const, es_add_pow, es_add_add, es_add_sub, es_add_mul, es_add_div, es_sub_num, es_sub_state, es_sub_const, es_sub_pow, es_sub_add, es_sub_sub, es_sub_mul, es_sub_div, es_mul_num, es_mul_state, es_mul_const, es_mul_pow, es_mul_add, es_mul_sub, es_mul_mul, es_mul_div, es_div_num, es_div_state, es_div_const, es_div_pow, es_div_add, es_div_sub, es_div_mul, es_div_div, ip_num, ip_state, ip_const, ip_pow, ip_add, ip_sub, ip_mul, ip_div, il_num, il_state, il_const, il_pow, il_add, il_sub, il_mul, il_div, it_num, it_state, it_const, it_pow, it_add, it_sub, it_mul, it_div, kd]
theorem m_pow {k : Str} {m : Int} (hk : k = "state" ∨ k = "const") (hm : m = 0 ∨ m = 1 ∨ 2 ≤ m) (h : callN F d n__law_slope [x, .str k, z] ⟨S.cells, false⟩ = .ok y ⟨S.cells, false⟩) (py : y.pure = true) (h1 : 2 ≤ m → callN F d n__law_product [.tup [.str "num", .tup [.int m, .int 1]], if m = 2 then x else .tup [.str "pow", x, .int (m - 1)]] ⟨S.cells, false⟩ = .ok u ⟨S.cells, false⟩)
    (h2 : 2 ≤ m → callN F d n__law_product [u, y] ⟨S.cells, false⟩ = .ok v ⟨S.cells, false⟩) (pv : v.pure = true) : callN F (d + 1) n__law_slope [.tup [.str "pow", x, .int m], .str k, z] S = .ok (if m = 0 then N0 else if m = 1 then y else v) S := by
  rw [callN_of (fd := ⟨3, 8, b__law_slope⟩) rfl rfl]
  rcases hm with rfl | rfl | hm
  · refine run_ret ?_ rfl
    rcases hk with rfl | rfl <;> simp [st__law_slope_0, st__law_slope_1, st__law_slope_2, st__law_slope_3, st__law_slope_4, st__law_slope_5, st__law_slope_6, st__law_slope_7, st__law_slope_8, st__law_slope_9, st__law_slope_10, b__law_slope, bd_ok, bd_exc, st_ok, st_exc, xss_cons, xss_nil, seq_next, seq_ret, seq_brk, seq_cont, seq_exc, eqV_int, xst, ev, evT, evs, evo, evc, evi, itemAt, MP.placeOf, bindT, bindTs, unslot, hold, unhold, subR, freeze, ix_tup, ix_lst, ix_r, cm_eq, cm_ne, cm_lt, cm_le, cm_gt, cm_ge, cm_isn, cm_nisn, cm_isb, cm_inn, cm_nin, op_ad, op_sb, op_ml, op_dv, op_md, op_pw, op_sl, op_as, op_at, op_mt, op_al, bi_abs, bi_int, bi_intb, bi_ints, bi_lent, bi_lenl, bi_lenr, bi_lens, bi_listt, bi_listl, bi_tupt, bi_tupl, bi_tupr, bi_gcd, bi_max, bi_min, bi_str, bi_sum, bi_all, bi_any, tr_non, tr_bl, tr_int, tr_tup, tr_lst, ty_nt, ty_tt, ty_ti, ty_ii, ty_it, ty_is, sl_tup, sl_lst, sq_tup, sq_lst, ls_lst, th_lst, wk_tup, wk_lst, opt_some, eqV_non, es_num_num, es_num_state, es_num_const, es_num_pow, es_num_add, es_num_sub, es_num_mul, es_num_div, es_state_num, es_state_state, es_state_const, es_state_pow, es_state_add, es_state_sub, es_state_mul, es_state_div, es_const_num, es_const_state, es_const_const, es_const_pow, es_const_add, es_const_sub, es_const_mul, es_const_div, es_pow_num, es_pow_state, es_pow_const, es_pow_pow, es_pow_add, es_pow_sub, es_pow_mul, es_pow_div, es_add_num, es_add_state, es_add_const, es_add_pow, es_add_add, es_add_sub, es_add_mul, es_add_div, es_sub_num, es_sub_state, es_sub_const, es_sub_pow, es_sub_add, es_sub_sub, es_sub_mul, es_sub_div, es_mul_num, es_mul_state, es_mul_const, es_mul_pow, es_mul_add, es_mul_sub, es_mul_mul, es_mul_div, es_div_num, es_div_state, es_div_const, es_div_pow, es_div_add, es_div_sub, es_div_mul, es_div_div, ip_num, ip_state, ip_const, ip_pow, ip_add, ip_sub, ip_mul, ip_div, il_num, il_state, il_const, il_pow, il_add, il_sub, il_mul, il_div, it_num, it_state, it_const, it_pow, it_add, it_sub, it_mul, it_div, h]
  · refine run_ret ?_ py
    rcases hk with rfl | rfl <;> simp [st__law_slope_0, st__law_slope_1, st__law_slope_2, st__law_slope_3, st__law_slope_4, st__law_slope_5, st__law_slope_6, st__law_slope_7, st__law_slope_8, st__law_slope_9, st__law_slope_10, b__law_slope, bd_ok, bd_exc, st_ok, st_exc, xss_cons, xss_nil, seq_next, seq_ret, seq_brk, seq_cont, seq_exc, eqV_int, xst, ev, evT, evs, evo, evc, evi, itemAt, MP.placeOf, bindT, bindTs, unslot, hold, unhold, subR, freeze, ix_tup, ix_lst, ix_r, cm_eq, cm_ne, cm_lt, cm_le, cm_gt, cm_ge, cm_isn, cm_nisn, cm_isb, cm_inn, cm_nin, op_ad, op_sb, op_ml, op_dv, op_md, op_pw, op_sl, op_as, op_at, op_mt, op_al, bi_abs, bi_int, bi_intb, bi_ints, bi_lent, bi_lenl, bi_lenr, bi_lens, bi_listt, bi_listl, bi_tupt, bi_tupl, bi_tupr, bi_gcd, bi_max, bi_min, bi_str, bi_sum, bi_all, bi_any, tr_non, tr_bl, tr_int, tr_tup, tr_lst, ty_nt, ty_tt, ty_ti, ty_ii, ty_it, ty_is, sl_tup, sl_lst, sq_tup, sq_lst, ls_lst, th_lst, wk_tup, wk_lst, opt_some, eqV_non, es_num_num, es_num_state, es_num_const, es_num_pow, es_num_add, es_num_sub, es_num_mul, es_num_div, es_state_num, es_state_state, es_state_const, es_state_pow, es_state_add, es_state_sub, es_state_mul, es_state_div, es_const_num, es_const_state, es_const_const, es_const_pow, es_const_add, es_const_sub, es_const_mul, es_const_div, es_pow_num, es_pow_state, es_pow_const, es_pow_pow, es_pow_add, es_pow_sub, es_pow_mul, es_pow_div, es_add_num, es_add_state, es_add_const, es_add_pow, es_add_add, es_add_sub, es_add_mul, es_add_div, es_sub_num, es_sub_state, es_sub_const, es_sub_pow, es_sub_add, es_sub_sub, es_sub_mul, es_sub_div, es_mul_num, es_mul_state, es_mul_const, es_mul_pow, es_mul_add, es_mul_sub, es_mul_mul, es_mul_div, es_div_num, es_div_state, es_div_const, es_div_pow, es_div_add, es_div_sub, es_div_mul, es_div_div, ip_num, ip_state, ip_const, ip_pow, ip_add, ip_sub, ip_mul, ip_div, il_num, il_state, il_const, il_pow, il_add, il_sub, il_mul, il_div, it_num, it_state, it_const, it_pow, it_add, it_sub, it_mul, it_div, h]
  · have n0 : ¬ m = 0 := by omega
    have n1 : ¬ m = 1 := by omega
    have n2 : ¬ m < 2 := by omega
    have h1 := h1 hm
    have h2 := h2 hm
    rw [if_neg n0, if_neg n1]
    refine run_ret ?_ pv
    by_cases e : m = 2
    · subst e
      rw [if_pos rfl] at h1
      rcases hk with rfl | rfl <;> simp [st__law_slope_0, st__law_slope_1, st__law_slope_2, st__law_slope_3, st__law_slope_4, st__law_slope_5, st__law_slope_6, st__law_slope_7, st__law_slope_8, st__law_slope_9, st__law_slope_10, b__law_slope, bd_ok, bd_exc, st_ok, st_exc, xss_cons, xss_nil, seq_next, seq_ret, seq_brk, seq_cont, seq_exc, eqV_int, xst, ev, evT, evs, evo, evc, evi, itemAt, MP.placeOf, bindT, bindTs, unslot, hold, unhold, subR, freeze, ix_tup, ix_lst, ix_r, cm_eq, cm_ne, cm_lt, cm_le, cm_gt, cm_ge, cm_isn, cm_nisn, cm_isb, cm_inn, cm_nin, op_ad, op_sb, op_ml, op_dv, op_md, op_pw, op_sl, op_as, op_at, op_mt, op_al, bi_abs, bi_int, bi_intb, bi_ints, bi_lent, bi_lenl, bi_lenr, bi_lens, bi_listt, bi_listl, bi_tupt, bi_tupl, bi_tupr, bi_gcd, bi_max, bi_min, bi_str, bi_sum, bi_all, bi_any, tr_non, tr_bl, tr_int, tr_tup, tr_lst, ty_nt, ty_tt, ty_ti, ty_ii, ty_it, ty_is, sl_tup, sl_lst, sq_tup, sq_lst, ls_lst, th_lst, wk_tup, wk_lst, opt_some, eqV_non, es_num_num, es_num_state, es_num_const, es_num_pow, es_num_add, es_num_sub, es_num_mul, es_num_div, es_state_num, es_state_state, es_state_const, es_state_pow, es_state_add, es_state_sub, es_state_mul, es_state_div, es_const_num, es_const_state, es_const_const, es_const_pow, es_const_add, es_const_sub, es_const_mul, es_const_div, es_pow_num, es_pow_state, es_pow_const, es_pow_pow, es_pow_add, es_pow_sub, es_pow_mul, es_pow_div, es_add_num, es_add_state, es_add_const, es_add_pow, es_add_add, es_add_sub, es_add_mul, es_add_div, es_sub_num, es_sub_state, es_sub_const, es_sub_pow, es_sub_add, es_sub_sub, es_sub_mul, es_sub_div, es_mul_num, es_mul_state, es_mul_const, es_mul_pow, es_mul_add, es_mul_sub, es_mul_mul, es_mul_div, es_div_num, es_div_state, es_div_const, es_div_pow, es_div_add, es_div_sub, es_div_mul, es_div_div, ip_num, ip_state, ip_const, ip_pow, ip_add, ip_sub, ip_mul, ip_div, il_num, il_state, il_const, il_pow, il_add, il_sub, il_mul, il_div, it_num, it_state, it_const, it_pow, it_add, it_sub, it_mul, it_div, h, h1, h2]
    · rw [if_neg e] at h1
      rcases hk with rfl | rfl <;> simp [st__law_slope_0, st__law_slope_1, st__law_slope_2, st__law_slope_3, st__law_slope_4, st__law_slope_5, st__law_slope_6, st__law_slope_7, st__law_slope_8, st__law_slope_9, st__law_slope_10, b__law_slope, bd_ok, bd_exc, st_ok, st_exc, xss_cons, xss_nil, seq_next, seq_ret, seq_brk, seq_cont, seq_exc, eqV_int, xst, ev, evT, evs, evo, evc, evi, itemAt, MP.placeOf, bindT, bindTs, unslot, hold, unhold, subR, freeze, ix_tup, ix_lst, ix_r, cm_eq, cm_ne, cm_lt, cm_le, cm_gt, cm_ge, cm_isn, cm_nisn, cm_isb, cm_inn, cm_nin, op_ad, op_sb, op_ml, op_dv, op_md, op_pw, op_sl, op_as, op_at, op_mt, op_al, bi_abs, bi_int, bi_intb, bi_ints, bi_lent, bi_lenl, bi_lenr, bi_lens, bi_listt, bi_listl, bi_tupt, bi_tupl, bi_tupr, bi_gcd, bi_max, bi_min, bi_str, bi_sum, bi_all, bi_any, tr_non, tr_bl, tr_int, tr_tup, tr_lst, ty_nt, ty_tt, ty_ti, ty_ii, ty_it, ty_is, sl_tup, sl_lst, sq_tup, sq_lst, ls_lst, th_lst, wk_tup, wk_lst, opt_some, eqV_non, es_num_num, es_num_state, es_num_const, es_num_pow, es_num_add, es_num_sub, es_num_mul, es_num_div, es_state_num, es_state_state, es_state_const, es_state_pow, es_state_add, es_state_sub, es_state_mul, es_state_div, es_const_num, es_const_state, es_const_const, es_const_pow, es_const_add, es_const_sub, es_const_mul, es_const_div, es_pow_num, es_pow_state, es_pow_const, es_pow_pow, es_pow_add, es_pow_sub, es_pow_mul, es_pow_div, es_add_num, es_add_state, es_add_const, es_add_pow, es_add_add, es_add_sub, es_add_mul, es_add_div, es_sub_num, es_sub_state, es_sub_const, es_sub_pow, es_sub_add, es_sub_sub, es_sub_mul, es_sub_div, es_mul_num, es_mul_state, es_mul_const, es_mul_pow, es_mul_add, es_mul_sub, es_mul_mul, es_mul_div, es_div_num, es_div_state, es_div_const, es_div_pow, es_div_add, es_div_sub, es_div_mul, es_div_div, ip_num, ip_state, ip_const, ip_pow, ip_add, ip_sub, ip_mul, ip_div, il_num, il_state, il_const, il_pow, il_add, il_sub, il_mul, il_div, it_num, it_state, it_const, it_pow, it_add, it_sub, it_mul, it_div, h, h1, h2, n2, e]
theorem m_sub {k : Str} (hk : k = "state" ∨ k = "const") (h : callN F d n__law_slope [x, .str k, z] ⟨S.cells, false⟩ = .ok u ⟨S.cells, false⟩) (h2 : callN F d n__law_slope [y, .str k, z] ⟨S.cells, false⟩ = .ok v ⟨S.cells, false⟩) (hq : ∀ S, eqV S v N0 = some q) (pu : u.pure = true) (pv : v.pure = true) :
    callN F (d + 1) n__law_slope [.tup [.str "sub", x, y], .str k, z] S = .ok (if q then u else .tup [.str "sub", u, v]) S := by
  rw [callN_of (fd := ⟨3, 8, b__law_slope⟩) rfl rfl]
  cases q
  · refine run_ret ?_ (by simp [PV.pure, PV.pures, pu, pv])
    rcases hk with rfl | rfl <;> simp [st__law_slope_0, st__law_slope_1, st__law_slope_2, st__law_slope_3, st__law_slope_4, st__law_slope_5, st__law_slope_6, st__law_slope_7, st__law_slope_8, st__law_slope_9, st__law_slope_10, b__law_slope, bd_ok, bd_exc, st_ok, st_exc, xss_cons, xss_nil, seq_next, seq_ret, seq_brk, seq_cont, seq_exc, eqV_int, xst, ev, evT, evs, evo, evc, evi, itemAt, MP.placeOf, bindT, bindTs, unslot, hold, unhold, subR, freeze, ix_tup, ix_lst, ix_r, cm_eq, cm_ne, cm_lt, cm_le, cm_gt, cm_ge, cm_isn, cm_nisn, cm_isb, cm_inn, cm_nin, op_ad, op_sb, op_ml, op_dv, op_md, op_pw, op_sl, op_as, op_at, op_mt, op_al, bi_abs, bi_int, bi_intb, bi_ints, bi_lent, bi_lenl, bi_lenr, bi_lens, bi_listt, bi_listl, bi_tupt, bi_tupl, bi_tupr, bi_gcd, bi_max, bi_min, bi_str, bi_sum, bi_all, bi_any, tr_non, tr_bl, tr_int, tr_tup, tr_lst, ty_nt, ty_tt, ty_ti, ty_ii, ty_it, ty_is, sl_tup, sl_lst, sq_tup, sq_lst, ls_lst, th_lst, wk_tup, wk_lst, opt_some, eqV_non, es_num_num, es_num_state, es_num_const, es_num_pow, es_num_add, es_num_sub, es_num_mul, es_num_div, es_state_num, es_state_state, es_state_const, es_state_pow, es_state_add, es_state_sub, es_state_mul, es_state_div, es_const_num, es_const_state, es_const_const, es_const_pow, es_const_add, es_const_sub, es_const_mul, es_const_div, es_pow_num, es_pow_state, es_pow_const, es_pow_pow, es_pow_add, es_pow_sub, es_pow_mul, es_pow_div, es_add_num, es_add_state, es_add_const, es_add_pow, es_add_add, es_add_sub, es_add_mul, es_add_div, es_sub_num, es_sub_state, es_sub_const, es_sub_pow, es_sub_add, es_sub_sub, es_sub_mul, es_sub_div, es_mul_num, es_mul_state, es_mul_const, es_mul_pow, es_mul_add, es_mul_sub, es_mul_mul, es_mul_div, es_div_num, es_div_state, es_div_const, es_div_pow, es_div_add, es_div_sub, es_div_mul, es_div_div, ip_num, ip_state, ip_const, ip_pow, ip_add, ip_sub, ip_mul, ip_div, il_num, il_state, il_const, il_pow, il_add, il_sub, il_mul, il_div, it_num, it_state, it_const, it_pow, it_add, it_sub, it_mul, it_div, h, h2, hq]
  · refine run_ret ?_ pu
    rcases hk with rfl | rfl <;> simp [st__law_slope_0, st__law_slope_1, st__law_slope_2, st__law_slope_3, st__law_slope_4, st__law_slope_5, st__law_slope_6, st__law_slope_7, st__law_slope_8, st__law_slope_9, st__law_slope_10, b__law_slope, bd_ok, bd_exc, st_ok, st_exc, xss_cons, xss_nil, seq_next, seq_ret, seq_brk, seq_cont, seq_exc, eqV_int, xst, ev, evT, evs, evo, evc, evi, itemAt, MP.placeOf, bindT, bindTs, unslot, hold, unhold, subR, freeze, ix_tup, ix_lst, ix_r, cm_eq, cm_ne, cm_lt, cm_le, cm_gt, cm_ge, cm_isn, cm_nisn, cm_isb, cm_inn, cm_nin, op_ad, op_sb, op_ml, op_dv, op_md, op_pw, op_sl, op_as, op_at, op_mt, op_al, bi_abs, bi_int, bi_intb, bi_ints, bi_lent, bi_lenl, bi_lenr, bi_lens, bi_listt, bi_listl, bi_tupt, bi_tupl, bi_tupr, bi_gcd, bi_max, bi_min, bi_str, bi_sum, bi_all, bi_any, tr_non, tr_bl, tr_int, tr_tup, tr_lst, ty_nt, ty_tt, ty_ti, ty_ii, ty_it, ty_is, sl_tup, sl_lst, sq_tup, sq_lst, ls_lst, th_lst, wk_tup, wk_lst, opt_some, eqV_non, es_num_num, es_num_state, es_num_const, es_num_pow, es_num_add, es_num_sub, es_num_mul, es_num_div, es_state_num, es_state_state, es_state_const, es_state_pow, es_state_add, es_state_sub, es_state_mul, es_state_div, es_const_num, es_const_state, es_const_const, es_const_pow, es_const_add, es_const_sub, es_const_mul, es_const_div, es_pow_num, es_pow_state, es_pow_const, es_pow_pow, es_pow_add, es_pow_sub, es_pow_mul, es_pow_div, es_add_num, es_add_state, es_add_const, es_add_pow, es_add_add, es_add_sub, es_add_mul, es_add_div, es_sub_num, es_sub_state, es_sub_const, es_sub_pow, es_sub_add, es_sub_sub, es_sub_mul, es_sub_div, es_mul_num, es_mul_state, es_mul_const, es_mul_pow, es_mul_add, es_mul_sub, es_mul_mul, es_mul_div, es_div_num, es_div_state, es_div_const, es_div_pow, es_div_add, es_div_sub, es_div_mul, es_div_div, ip_num, ip_state, ip_const, ip_pow, ip_add, ip_sub, ip_mul, ip_div, il_num, il_state, il_const, il_pow, il_add, il_sub, il_mul, il_div, it_num, it_state, it_const, it_pow, it_add, it_sub, it_mul, it_div, h, h2, hq]
theorem m_div {k : Str} (hk : k = "state" ∨ k = "const") (h : callN F d n__law_slope [x, .str k, z] ⟨S.cells, false⟩ = .ok u ⟨S.cells, false⟩) (h2 : callN F d n__law_slope [y, .str k, z] ⟨S.cells, false⟩ = .ok v ⟨S.cells, false⟩) (h3 : callN F d n__law_quotient_slope [.tup [.str "div", x, y], u, v] ⟨S.cells, false⟩ = .ok w ⟨S.cells, false⟩) (pw : w.pure = true) :
    callN F (d + 1) n__law_slope [.tup [.str "div", x, y], .str k, z] S = .ok w S := by
  rw [callN_of (fd := ⟨3, 8, b__law_slope⟩) rfl rfl]
  refine run_ret ?_ pw
  rcases hk with rfl | rfl <;> simp [st__law_slope_0, st__law_slope_1, st__law_slope_2, st__law_slope_3, st__law_slope_4, st__law_slope_5, st__law_slope_6, st__law_slope_7, st__law_slope_8, st__law_slope_9, st__law_slope_10, b__law_slope, bd_ok, bd_exc, st_ok, st_exc, xss_cons, xss_nil, seq_next, seq_ret, seq_brk, seq_cont, seq_exc, eqV_int, xst, ev, evT, evs, evo, evc, evi, itemAt, MP.placeOf, bindT, bindTs, unslot, hold, unhold, subR, freeze, ix_tup, ix_lst, ix_r, cm_eq, cm_ne, cm_lt, cm_le, cm_gt, cm_ge, cm_isn, cm_nisn, cm_isb, cm_inn, cm_nin, op_ad, op_sb, op_ml, op_dv, op_md, op_pw, op_sl, op_as, op_at, op_mt, op_al, bi_abs, bi_int, bi_intb, bi_ints, bi_lent, bi_lenl, bi_lenr, bi_lens, bi_listt, bi_listl, bi_tupt, bi_tupl, bi_tupr, bi_gcd, bi_max, bi_min, bi_str, bi_sum, bi_all, bi_any, tr_non, tr_bl, tr_int, tr_tup, tr_lst, ty_nt, ty_tt, ty_ti, ty_ii, ty_it, ty_is, sl_tup, sl_lst, sq_tup, sq_lst, ls_lst, th_lst, wk_tup, wk_lst, opt_some, eqV_non, es_num_num, es_num_state, es_num_const, es_num_pow, es_num_add, es_num_sub, es_num_mul, es_num_div, es_state_num, es_state_state, es_state_const, es_state_pow, es_state_add, es_state_sub, es_state_mul, es_state_div, es_const_num, es_const_state, es_const_const, es_const_pow, es_const_add, es_const_sub, es_const_mul, es_const_div, es_pow_num, es_pow_state, es_pow_const, es_pow_pow, es_pow_add, es_pow_sub, es_pow_mul, es_pow_div, es_add_num, es_add_state, es_add_const, es_add_pow, es_add_add, es_add_sub, es_add_mul, es_add_div, es_sub_num, es_sub_state, es_sub_const, es_sub_pow, es_sub_add, es_sub_sub, es_sub_mul, es_sub_div, es_mul_num, es_mul_state, es_mul_const, es_mul_pow, es_mul_add, es_mul_sub, es_mul_mul, es_mul_div, es_div_num, es_div_state, es_div_const, es_div_pow, es_div_add, es_div_sub, es_div_mul, es_div_div, ip_num, ip_state, ip_const, ip_pow, ip_add, ip_sub, ip_mul, ip_div, il_num, il_state, il_const, il_pow, il_add, il_sub, il_mul, il_div, it_num, it_state, it_const, it_pow, it_add, it_sub, it_mul, it_div, h, h2, h3]
theorem m_add {k : Str} (hk : k = "state" ∨ k = "const") (h : callN F d n__law_slope [x, .str k, z] ⟨S.cells, false⟩ = .ok u ⟨S.cells, false⟩) (h2 : callN F d n__law_slope [y, .str k, z] ⟨S.cells, false⟩ = .ok v ⟨S.cells, false⟩) (hp : ∀ S, eqV S u N0 = some p) (hq : ∀ S, eqV S v N0 = some q) (pu : u.pure = true) (pv : v.pure = true) :
    callN F (d + 1) n__law_slope [.tup [.str "add", x, y], .str k, z] S = .ok (if p then v else if q then u else .tup [.str "add", u, v]) S := by
  rw [callN_of (fd := ⟨3, 8, b__law_slope⟩) rfl rfl]
  cases p
  · cases q
    · refine run_ret ?_ (by simp [PV.pure, PV.pures, pu, pv])
      rcases hk with rfl | rfl <;> simp [st__law_slope_0, st__law_slope_1, st__law_slope_2, st__law_slope_3, st__law_slope_4, st__law_slope_5, st__law_slope_6, st__law_slope_7, st__law_slope_8, st__law_slope_9, st__law_slope_10, b__law_slope, bd_ok, bd_exc, st_ok, st_exc, xss_cons, xss_nil, seq_next, seq_ret, seq_brk, seq_cont, seq_exc, eqV_int, xst, ev, evT, evs, evo, evc, evi, itemAt, MP.placeOf, bindT, bindTs, unslot, hold, unhold, subR, freeze, ix_tup, ix_lst, ix_r, cm_eq, cm_ne, cm_lt, cm_le, cm_gt, cm_ge, cm_isn, cm_nisn, cm_isb, cm_inn, cm_nin, op_ad, op_sb, op_ml, op_dv, op_md, op_pw, op_sl, op_as, op_at, op_mt, op_al, bi_abs, bi_int, bi_intb, bi_ints, bi_lent, bi_lenl, bi_lenr, bi_lens, bi_listt, bi_listl, bi_tupt, bi_tupl, bi_tupr, bi_gcd, bi_max, bi_min, bi_str, bi_sum, bi_all, bi_any, tr_non, tr_bl, tr_int, tr_tup, tr_lst, ty_nt, ty_tt, ty_ti, ty_ii, ty_it, ty_is, sl_tup, sl_lst, sq_tup, sq_lst, ls_lst, th_lst, wk_tup, wk_lst, opt_some, eqV_non, es_num_num, es_num_state, es_num_const, es_num_pow, es_num_add, es_num_sub, es_num_mul, es_num_div, es_state_num, es_state_state, es_state_const, es_state_pow, es_state_add, es_state_sub, es_state_mul, es_state_div, es_const_num, es_const_state, es_const_const, es_const_pow, es_const_add, es_const_sub, es_const_mul, es_const_div, es_pow_num, es_pow_state, es_pow_const, es_pow_pow, es_pow_add, es_pow_sub, es_pow_mul, es_pow_div, es_add_num, es_add_state, es_add_const, es_add_pow, es_add_add, es_add_sub, es_add_mul, es_add_div, es_sub_num, es_sub_state, es_sub_const, es_sub_pow, es_sub_add, es_sub_sub, es_sub_mul, es_sub_div, es_mul_num, es_mul_state, es_mul_const, es_mul_pow, es_mul_add, es_mul_sub, es_mul_mul, es_mul_div, es_div_num, es_div_state, es_div_const, es_div_pow, es_div_add, es_div_sub, es_div_mul, es_div_div, ip_num, ip_state, ip_const, ip_pow, ip_add, ip_sub, ip_mul, ip_div, il_num, il_state, il_const, il_pow, il_add, il_sub, il_mul, il_div, it_num, it_state, it_const, it_pow, it_add, it_sub, it_mul, it_div, h, h2, hp, hq]
    · refine run_ret ?_ pu
      rcases hk with rfl | rfl <;> simp [st__law_slope_0, st__law_slope_1, st__law_slope_2, st__law_slope_3, st__law_slope_4, st__law_slope_5, st__law_slope_6, st__law_slope_7, st__law_slope_8, st__law_slope_9, st__law_slope_10, b__law_slope, bd_ok, bd_exc, st_ok, st_exc, xss_cons, xss_nil, seq_next, seq_ret, seq_brk, seq_cont, seq_exc, eqV_int, xst, ev, evT, evs, evo, evc, evi, itemAt, MP.placeOf, bindT, bindTs, unslot, hold, unhold, subR, freeze, ix_tup, ix_lst, ix_r, cm_eq, cm_ne, cm_lt, cm_le, cm_gt, cm_ge, cm_isn, cm_nisn, cm_isb, cm_inn, cm_nin, op_ad, op_sb, op_ml, op_dv, op_md, op_pw, op_sl, op_as, op_at, op_mt, op_al, bi_abs, bi_int, bi_intb, bi_ints, bi_lent, bi_lenl, bi_lenr, bi_lens, bi_listt, bi_listl, bi_tupt, bi_tupl, bi_tupr, bi_gcd, bi_max, bi_min, bi_str, bi_sum, bi_all, bi_any, tr_non, tr_bl, tr_int, tr_tup, tr_lst, ty_nt, ty_tt, ty_ti, ty_ii, ty_it, ty_is, sl_tup, sl_lst, sq_tup, sq_lst, ls_lst, th_lst, wk_tup, wk_lst, opt_some, eqV_non, es_num_num, es_num_state, es_num_const, es_num_pow, es_num_add, es_num_sub, es_num_mul, es_num_div, es_state_num, es_state_state, es_state_const, es_state_pow, es_state_add, es_state_sub, es_state_mul, es_state_div, es_const_num, es_const_state, es_const_const, es_const_pow, es_const_add, es_const_sub, es_const_mul, es_const_div, es_pow_num, es_pow_state, es_pow_const, es_pow_pow, es_pow_add, es_pow_sub, es_pow_mul, es_pow_div, es_add_num, es_add_state, es_add_const, es_add_pow, es_add_add, es_add_sub, es_add_mul, es_add_div, es_sub_num, es_sub_state, es_sub_const, es_sub_pow, es_sub_add, es_sub_sub, es_sub_mul, es_sub_div, es_mul_num, es_mul_state, es_mul_const, es_mul_pow, es_mul_add, es_mul_sub, es_mul_mul, es_mul_div, es_div_num, es_div_state, es_div_const, es_div_pow, es_div_add, es_div_sub, es_div_mul, es_div_div, ip_num, ip_state, ip_const, ip_pow, ip_add, ip_sub, ip_mul, ip_div, il_num, il_state, il_const, il_pow, il_add, il_sub, il_mul, il_div, it_num, it_state, it_const, it_pow, it_add, it_sub, it_mul, it_div, h, h2, hp, hq]
  · refine run_ret ?_ pv
    rcases hk with rfl | rfl <;> simp [st__law_slope_0, st__law_slope_1, st__law_slope_2, st__law_slope_3, st__law_slope_4, st__law_slope_5, st__law_slope_6, st__law_slope_7, st__law_slope_8, st__law_slope_9, st__law_slope_10, b__law_slope, bd_ok, bd_exc, st_ok, st_exc, xss_cons, xss_nil, seq_next, seq_ret, seq_brk, seq_cont, seq_exc, eqV_int, xst, ev, evT, evs, evo, evc, evi, itemAt, MP.placeOf, bindT, bindTs, unslot, hold, unhold, subR, freeze, ix_tup, ix_lst, ix_r, cm_eq, cm_ne, cm_lt, cm_le, cm_gt, cm_ge, cm_isn, cm_nisn, cm_isb, cm_inn, cm_nin, op_ad, op_sb, op_ml, op_dv, op_md, op_pw, op_sl, op_as, op_at, op_mt, op_al, bi_abs, bi_int, bi_intb, bi_ints, bi_lent, bi_lenl, bi_lenr, bi_lens, bi_listt, bi_listl, bi_tupt, bi_tupl, bi_tupr, bi_gcd, bi_max, bi_min, bi_str, bi_sum, bi_all, bi_any, tr_non, tr_bl, tr_int, tr_tup, tr_lst, ty_nt, ty_tt, ty_ti, ty_ii, ty_it, ty_is, sl_tup, sl_lst, sq_tup, sq_lst, ls_lst, th_lst, wk_tup, wk_lst, opt_some, eqV_non, es_num_num, es_num_state, es_num_const, es_num_pow, es_num_add, es_num_sub, es_num_mul, es_num_div, es_state_num, es_state_state, es_state_const, es_state_pow, es_state_add, es_state_sub, es_state_mul, es_state_div, es_const_num, es_const_state, es_const_const, es_const_pow, es_const_add, es_const_sub, es_const_mul, es_const_div, es_pow_num, es_pow_state, es_pow_const, es_pow_pow, es_pow_add, es_pow_sub, es_pow_mul, es_pow_div, es_add_num, es_add_state, es_add_const, es_add_pow, es_add_add, es_add_sub, es_add_mul, es_add_div, es_sub_num, es_sub_state, es_sub_const, es_sub_pow, es_sub_add, es_sub_sub, es_sub_mul, es_sub_div, es_mul_num, es_mul_state, es_mul_const, es_mul_pow, es_mul_add, es_mul_sub, es_mul_mul, es_mul_div, es_div_num, es_div_state, es_div_const, es_div_pow, es_div_add, es_div_sub, es_div_mul, es_div_div, ip_num, ip_state, ip_const, ip_pow, ip_add, ip_sub, ip_mul, ip_div, il_num, il_state, il_const, il_pow, il_add, il_sub, il_mul, il_div, it_num, it_state, it_const, it_pow, it_add, it_sub, it_mul, it_div, h, h2, hp, hq]
theorem m_mul {k : Str} (hk : k = "state" ∨ k = "const") {l r : PV} (h : callN F d n__law_slope [x, .str k, z] ⟨S.cells, false⟩ = .ok u ⟨S.cells, false⟩) (h2 : callN F d n__law_slope [y, .str k, z] ⟨S.cells, false⟩ = .ok v ⟨S.cells, false⟩) (h3 : callN F d n__law_product [u, y] ⟨S.cells, false⟩ = .ok l ⟨S.cells, false⟩) (h4 : callN F d n__law_product [x, v] ⟨S.cells, false⟩ = .ok r ⟨S.cells, false⟩)
    (hp : ∀ S, eqV S l N0 = some p) (hq : ∀ S, eqV S r N0 = some q) (pl : l.pure = true) (pr : r.pure = true) :
    callN F (d + 1) n__law_slope [.tup [.str "mul", x, y], .str k, z] S = .ok (if p then r else if q then l else .tup [.str "add", l, r]) S := by
  rw [callN_of (fd := ⟨3, 8, b__law_slope⟩) rfl rfl]
  cases p
  · cases q
    · refine run_ret ?_ (by simp [PV.pure, PV.pures, pl, pr])
      rcases hk with rfl | rfl <;> simp [st__law_slope_0, st__law_slope_1, st__law_slope_2, st__law_slope_3, st__law_slope_4, st__law_slope_5, st__law_slope_6, st__law_slope_7, st__law_slope_8, st__law_slope_9, st__law_slope_10, b__law_slope, bd_ok, bd_exc, st_ok, st_exc, xss_cons, xss_nil, seq_next, seq_ret, seq_brk, seq_cont, seq_exc, eqV_int, xst, ev, evT, evs, evo, evc, evi, itemAt, MP.placeOf, bindT, bindTs, unslot, hold, unhold, subR, freeze, ix_tup, ix_lst, ix_r, cm_eq, cm_ne, cm_lt, cm_le, cm_gt, cm_ge, cm_isn, cm_nisn, cm_isb, cm_inn, cm_nin, op_ad, op_sb, op_ml, op_dv, op_md, op_pw, op_sl, op_as, op_at, op_mt, op_al, bi_abs, bi_int, bi_intb, bi_ints, bi_lent, bi_lenl, bi_lenr, bi_lens, bi_listt, bi_listl, bi_tupt, bi_tupl, bi_tupr, bi_gcd, bi_max, bi_min, bi_str, bi_sum, bi_all, bi_any, tr_non, tr_bl, tr_int, tr_tup, tr_lst, ty_nt, ty_tt, ty_ti, ty_ii, ty_it, ty_is, sl_tup, sl_lst, sq_tup, sq_lst, ls_lst, th_lst, wk_tup, wk_lst, opt_some, eqV_non, es_num_num, es_num_state, es_num_const, es_num_pow, es_num_add, es_num_sub, es_num_mul, es_num_div, es_state_num, es_state_state, es_state_const, es_state_pow, es_state_add, es_state_sub, es_state_mul, es_state_div, es_const_num, es_const_state, es_const_const, es_const_pow, es_const_add, es_const_sub, es_const_mul, es_const_div, es_pow_num, es_pow_state, es_pow_const, es_pow_pow, es_pow_add, es_pow_sub, es_pow_mul, es_pow_div, es_add_num, es_add_state, es_add_const, es_add_pow, es_add_add, es_add_sub, es_add_mul, es_add_div, es_sub_num, es_sub_state, es_sub_const, es_sub_pow, es_sub_add, es_sub_sub, es_sub_mul, es_sub_div, es_mul_num, es_mul_state, es_mul_const, es_mul_pow, es_mul_add, es_mul_sub, es_mul_mul, es_mul_div, es_div_num, es_div_state, es_div_const, es_div_pow, es_div_add, es_div_sub, es_div_mul, es_div_div, ip_num, ip_state, ip_const, ip_pow, ip_add, ip_sub, ip_mul, ip_div, il_num, il_state, il_const, il_pow, il_add, il_sub, il_mul, il_div, it_num, it_state, it_const, it_pow, it_add, it_sub, it_mul, it_div, h, h2, h3, h4, hp, hq]
    · refine run_ret ?_ pl
      rcases hk with rfl | rfl <;> simp [st__law_slope_0, st__law_slope_1, st__law_slope_2, st__law_slope_3, st__law_slope_4, st__law_slope_5, st__law_slope_6, st__law_slope_7, st__law_slope_8, st__law_slope_9, st__law_slope_10, b__law_slope, bd_ok, bd_exc, st_ok, st_exc, xss_cons, xss_nil, seq_next, seq_ret, seq_brk, seq_cont, seq_exc, eqV_int, xst, ev, evT, evs, evo, evc, evi, itemAt, MP.placeOf, bindT, bindTs, unslot, hold, unhold, subR, freeze, ix_tup, ix_lst, ix_r, cm_eq, cm_ne, cm_lt, cm_le, cm_gt, cm_ge, cm_isn, cm_nisn, cm_isb, cm_inn, cm_nin, op_ad, op_sb, op_ml, op_dv, op_md, op_pw, op_sl, op_as, op_at, op_mt, op_al, bi_abs, bi_int, bi_intb, bi_ints, bi_lent, bi_lenl, bi_lenr, bi_lens, bi_listt, bi_listl, bi_tupt, bi_tupl, bi_tupr, bi_gcd, bi_max, bi_min, bi_str, bi_sum, bi_all, bi_any, tr_non, tr_bl, tr_int, tr_tup, tr_lst, ty_nt, ty_tt, ty_ti, ty_ii, ty_it, ty_is, sl_tup, sl_lst, sq_tup, sq_lst, ls_lst, th_lst, wk_tup, wk_lst, opt_some, eqV_non, es_num_num, es_num_state, es_num_const, es_num_pow, es_num_add, es_num_sub, es_num_mul, es_num_div, es_state_num, es_state_state, es_state_const, es_state_pow, es_state_add, es_state_sub, es_state_mul, es_state_div, es_const_num, es_const_state, es_const_const, es_const_pow, es_const_add, es_const_sub, es_const_mul, es_const_div, es_pow_num, es_pow_state, es_pow_const, es_pow_pow, es_pow_add, es_pow_sub, es_pow_mul, es_pow_div, es_add_num, es_add_state, es_add_const, es_add_pow, es_add_add, es_add_sub, es_add_mul, es_add_div, es_sub_num, es_sub_state, es_sub_const, es_sub_pow, es_sub_add, es_sub_sub, es_sub_mul, es_sub_div, es_mul_num, es_mul_state, es_mul_const, es_mul_pow, es_mul_add, es_mul_sub, es_mul_mul, es_mul_div, es_div_num, es_div_state, es_div_const, es_div_pow, es_div_add, es_div_sub, es_div_mul, es_div_div, ip_num, ip_state, ip_const, ip_pow, ip_add, ip_sub, ip_mul, ip_div, il_num, il_state, il_const, il_pow, il_add, il_sub, il_mul, il_div, it_num, it_state, it_const, it_pow, it_add, it_sub, it_mul, it_div, h, h2, h3, h4, hp, hq]
  · refine run_ret ?_ pr
    rcases hk with rfl | rfl <;> simp [st__law_slope_0, st__law_slope_1, st__law_slope_2, st__law_slope_3, st__law_slope_4, st__law_slope_5, st__law_slope_6, st__law_slope_7, st__law_slope_8, st__law_slope_9, st__law_slope_10, b__law_slope, bd_ok, bd_exc, st_ok, st_exc, xss_cons, xss_nil, seq_next, seq_ret, seq_brk, seq_cont, seq_exc, eqV_int, xst, ev, evT, evs, evo, evc, evi, itemAt, MP.placeOf, bindT, bindTs, unslot, hold, unhold, subR, freeze, ix_tup, ix_lst, ix_r, cm_eq, cm_ne, cm_lt, cm_le, cm_gt, cm_ge, cm_isn, cm_nisn, cm_isb, cm_inn, cm_nin, op_ad, op_sb, op_ml, op_dv, op_md, op_pw, op_sl, op_as, op_at, op_mt, op_al, bi_abs, bi_int, bi_intb, bi_ints, bi_lent, bi_lenl, bi_lenr, bi_lens, bi_listt, bi_listl, bi_tupt, bi_tupl, bi_tupr, bi_gcd, bi_max, bi_min, bi_str, bi_sum, bi_all, bi_any, tr_non, tr_bl, tr_int, tr_tup, tr_lst, ty_nt, ty_tt, ty_ti, ty_ii, ty_it, ty_is, sl_tup, sl_lst, sq_tup, sq_lst, ls_lst, th_lst, wk_tup, wk_lst, opt_some, eqV_non, es_num_num, es_num_state, es_num_const, es_num_pow, es_num_add, es_num_sub, es_num_mul, es_num_div, es_state_num, es_state_state, es_state_const, es_state_pow, es_state_add, es_state_sub, es_state_mul, es_state_div, es_const_num, es_const_state, es_const_const, es_const_pow, es_const_add, es_const_sub, es_const_mul, es_const_div, es_pow_num, es_pow_state, es_pow_const, es_pow_pow, es_pow_add, es_pow_sub, es_pow_mul, es_pow_div, es_add_num, es_add_state, es_add_const, es_add_pow, es_add_add, es_add_sub, es_add_mul, es_add_div, es_sub_num, es_sub_state, es_sub_const, es_sub_pow, es_sub_add, es_sub_sub, es_sub_mul, es_sub_div, es_mul_num, es_mul_state, es_mul_const, es_mul_pow, es_mul_add, es_mul_sub, es_mul_mul, es_mul_div, es_div_num, es_div_state, es_div_const, es_div_pow, es_div_add, es_div_sub, es_div_mul, es_div_div, ip_num, ip_state, ip_const, ip_pow, ip_add, ip_sub, ip_mul, ip_div, il_num, il_state, il_const, il_pow, il_add, il_sub, il_mul, il_div, it_num, it_state, it_const, it_pow, it_add, it_sub, it_mul, it_div, h, h2, h3, h4, hp, hq]
theorem jn_tv {a b : Tr} : (jn a b).tv = if decide (a = .num 0) then b.tv else if decide (b = .num 0) then a.tv else .tup [.str "add", a.tv, b.tv] := by
  unfold jn
  by_cases h : a = .num 0
  · simp [h]
  · by_cases h2 : b = .num 0
    · simp [h, h2]
    · simp [h, h2, Tr.tv, Bo.nm]
theorem tk_tv {a b : Tr} : (tk a b).tv = if decide (b = .num 0) then a.tv else .tup [.str "sub", a.tv, b.tv] := by
  unfold tk
  by_cases h2 : b = .num 0
  · simp [h2]
  · simp [h2, Tr.tv, Bo.nm]
theorem ra_tv {a b : Tr} : (ra a (.pw b 2)).tv = if decide (a = .num 0) then N0 else .tup [.str "div", a.tv, .tup [.str "pow", b.tv, .int 2]] := by
  unfold ra
  by_cases h : a = .num 0
  · simp [h, Tr.tv, fr, pr]
  · simp [h, Tr.tv, Bo.nm]
theorem sp_tv {t c : Tr} {m : Nat} : (sp t m c).tv = if (m : Int) = 0 then N0 else if (m : Int) = 1 then c.tv else (pd (pd (.num m) (pb t m)) c).tv := by
  unfold sp
  by_cases h0 : m = 0
  · subst h0; rfl
  · have h0' : ¬ (m : Int) = 0 := by omega
    rw [if_neg h0, if_neg h0']
    by_cases h1 : m = 1
    · subst h1; rfl
    · have h1' : ¬ (m : Int) = 1 := by omega
      rw [if_neg h1, if_neg h1']
theorem pb_tv {t : Tr} {m : Nat} (hm : 2 ≤ m) : (pb t m).tv = if (m : Int) = 2 then t.tv else .tup [.str "pow", t.tv, .int ((m : Int) - 1)] := by
  unfold pb
  by_cases h : m = 2
  · subst h; rfl
  · have h' : ¬ (m : Int) = 2 := by omega
    rw [if_neg h, if_neg h']
    have : ((m - 1 : Nat) : Int) = (m : Int) - 1 := by omega
    simp only [Tr.tv, this]
theorem r_law_slope {k : Bool} {n : Nat} : ∀ (t : Tr) (e : Nat) (S : Sto), t.ht + 3 ≤ e → t.ht ≤ 12 → callN F e n__law_slope [t.tv, .str (kd k), .int n] S = .ok (sl k n t).tv S := by
  intro t
  induction t with
  | num q =>
    intro e S he _
    obtain ⟨d, rfl⟩ : ∃ d, e = d + 1 := ⟨e - 1, by omega⟩
    exact m_other (.inl rfl)
  | st i =>
    intro e S he _
    obtain ⟨d, rfl⟩ : ∃ d, e = d + 1 := ⟨e - 1, by omega⟩
    cases k with
    | false => exact m_other (.inr rfl)
    | true =>
      refine (m_leaf (d := d) (S := S) (k := true) (n := (n : Int)) (i := (i : Int))).trans ?_
      unfold sl
      by_cases h : i = n
      · subst h; rw [if_pos rfl, if_pos ⟨rfl, rfl⟩]; rfl
      · rw [if_neg (fun q => h (by omega)), if_neg (fun q => h q.2)]; rfl
  | cn i =>
    intro e S he _
    obtain ⟨d, rfl⟩ : ∃ d, e = d + 1 := ⟨e - 1, by omega⟩
    cases k with
    | true => exact m_other (.inr rfl)
    | false =>
      refine (m_leaf (d := d) (S := S) (k := false) (n := (n : Int)) (i := (i : Int))).trans ?_
      unfold sl
      by_cases h : i = n
      · subst h; rw [if_pos rfl, if_pos ⟨rfl, rfl⟩]; rfl
      · rw [if_neg (fun q => h (by omega)), if_neg (fun q => h q.2)]; rfl
  | pw t m ih =>
    intro e S he hl
    have hh : (Tr.pw t m).ht = t.ht + 1 := rfl
    obtain ⟨d, rfl⟩ : ∃ d, e = d + 2 := ⟨e - 2, by omega⟩
    have hs := sl_ht k n t
    have h3 := pb_ht t m
    have h4 := num_ht (m : Rat)
    have h2 := pd_ht (.num m) (pb t m)
    rw [show sl k n (.pw t m) = sp t m (sl k n t) from rfl, sp_tv]
    refine m_pow (u := (pd (.num m) (pb t m)).tv) (kd_or k) (by omega) (ih (d + 1) _ (by omega) (by omega)) (tv_pure _) (fun hm => ?_) (fun hm => ?_) (tv_pure _)
    · rw [← pb_tv (by omega)]
      exact r_law_product (d := d) (a := .num m) (by omega) (by omega)
    · exact r_law_product (d := d) (by omega) (by omega)
  | bin o a b iha ihb =>
    intro e S he hl
    have hh : (Tr.bin o a b).ht = max a.ht b.ht + 1 := rfl
    obtain ⟨d, rfl⟩ : ∃ d, e = d + 3 := ⟨e - 3, by omega⟩
    have h1 := iha (d + 2) ⟨S.cells, false⟩ (by omega) (by omega)
    have h2 := ihb (d + 2) ⟨S.cells, false⟩ (by omega) (by omega)
    have s1 := sl_ht k n a
    have s2 := sl_ht k n b
    have s3 := pd_ht (sl k n a) b
    have s4 := pd_ht a (sl k n b)
    have s5 := tk_ht (pd (sl k n a) b) (pd a (sl k n b))
    cases o with
    | add =>
      rw [show sl k n (.bin .add a b) = jn (sl k n a) (sl k n b) from rfl, jn_tv]
      exact m_add (kd_or k) h1 h2 (fun S => eqZ (by omega)) (fun S => eqZ (by omega)) (tv_pure _) (tv_pure _)
    | sub =>
      rw [show sl k n (.bin .sub a b) = tk (sl k n a) (sl k n b) from rfl, tk_tv]
      exact m_sub (kd_or k) h1 h2 (fun S => eqZ (by omega)) (tv_pure _) (tv_pure _)
    | mul =>
      rw [show sl k n (.bin .mul a b) = jn (pd (sl k n a) b) (pd a (sl k n b)) from rfl, jn_tv]
      exact m_mul (kd_or k) h1 h2 (r_law_product (d := d + 1) (by omega) (by omega)) (r_law_product (d := d + 1) (by omega) (by omega)) (fun S => eqZ (by omega)) (fun S => eqZ (by omega)) (tv_pure _) (tv_pure _)
    | div =>
      rw [show sl k n (.bin .div a b) = ra (tk (pd (sl k n a) b) (pd a (sl k n b))) (.pw b 2) from rfl]
      refine m_div (kd_or k) h1 h2 ?_ (tv_pure _)
      exact lq_raw (t := (tk (pd (sl k n a) b) (pd a (sl k n b))).tv) (r_law_product (d := d) (by omega) (by omega)) (r_law_product (d := d) (by omega) (by omega)) (fun S => eqZ (by omega)) tk_tv (fun S => eqZ (by omega)) ra_tv (tv_pure _)
end
end K04
end
section
set_option Elab.async false
set_option linter.all false
set_option maxRecDepth 100000
set_option maxHeartbeats 1000000
namespace K04
open PySem MP
section
variable {d : Nat} {S : Sto} {x y z u v w h : PV} {p q r : Bool}
/-! ### _law_grown -/
theorem G_leaf {k : Bool} {n i : Int} (hv : callN F d n__law_value [.tup [.str (kd k), .int i], u, v] ⟨S.cells, false⟩ = .ok h ⟨S.cells, false⟩) (ph : h.pure = true) : callN F (d + 1) n__law_grown [.tup [.str (kd k), .int i], u, v, .str (kd k), .int n] S = .ok (.tup [h, .tup [.int (if i = n then 1 else 0), .int 1]]) S := by
  rw [callN_of (fd := ⟨5, 14, b__law_grown⟩) rfl rfl]
  refine run_ret ?_ (by simp [PV.pure, PV.pures, ph])
  by_cases e : i = n
  · subst e
    cases k
    · have hv : callN F d n__law_value [.tup [.str "const", .int i], u, v] ⟨S.cells, false⟩ = .ok h ⟨S.cells, false⟩ := hv
      simp [st__law_grown_0, st__law_grown_1, st__law_grown_2, st__law_grown_3, st__law_grown_4, st__law_grown_5, st__law_grown_6, st__law_grown_7, st__law_grown_8, st__law_grown_9, st__law_grown_10, st__law_grown_11, st__law_grown_12, b__law_grown, bd_ok, bd_exc, st_ok, st_exc, xss_cons, xss_nil, seq_next, seq_ret, seq_brk, seq_cont, seq_exc, eqV_int, xst, ev, evT, evs, evo, evc, evi, itemAt, MP.placeOf, bindT, bindTs, unslot, hold, unhold, subR, freeze, ix_tup, ix_lst, ix_r, cm_eq, cm_ne, cm_lt, cm_le, cm_gt, cm_ge, cm_isn, cm_nisn, cm_isb, cm_inn, cm_nin, op_ad, op_sb, op_ml, op_dv, op_md, op_pw, op_sl, op_as, op_at, op_mt, op_al, bi_abs, bi_int, bi_intb, bi_ints, bi_lent, bi_lenl, bi_lenr, bi_lens, bi_listt, bi_listl, bi_tupt, bi_tupl, bi_tupr, bi_gcd, bi_max, bi_min, bi_str, bi_sum, bi_all, bi_any, tr_non, tr_bl, tr_int, tr_tup, tr_lst, ty_nt, ty_tt, ty_ti, ty_ii, ty_it, ty_is, sl_tup, sl_lst, sq_tup, sq_lst, ls_lst, th_lst, wk_tup, wk_lst, opt_some, eqV_non, es_num_num, es_num_state, es_num_const, es_num_pow, es_num_add, es_num_sub, es_num_mul, es_num_div, es_state_num, es_state_state, es_state_const, es_state_pow, es_state_add, es_state_sub, es_state_mul, es_state_div, es_const_num, es_const_state, es_const_const, es_const_pow, es_const_add, es_const_sub, es_const_mul, es_const_div, es_pow_num, es_pow_state, es_pow_const, es_pow_pow, es_pow_add, es_pow_sub, es_pow_mul, es_pow_div, es_add_num, es_add_state, es_add_const, es_add_pow, es_add_add, es_add_sub, es_add_mul, es_add_div, es_sub_num, es_sub_state, es_sub_const, es_sub_pow, es_sub_add, es_sub_sub, es_sub_mul, es_sub_div, es_mul_num, es_mul_state, es_mul_const, es_mul_pow, es_mul_add, es_mul_sub, es_mul_mul, es_mul_div, es_div_num, es_div_state, es_div_const, es_div_pow, es_div_add, es_div_sub, es_div_mul, es_div_div, ip_num, ip_state, ip_const, ip_pow, ip_add, ip_sub, ip_mul, ip_div, il_num, il_state, il_const, il_pow, il_add, il_sub, il_mul, il_div, it_num, it_state, it_const, it_pow, it_add, it_sub, it_mul, it_div, kd, hv]
    · have hv : callN F d n__law_value [.tup [.str "state", .int i], u, v] ⟨S.cells, false⟩ = .ok h ⟨S.cells, false⟩ := hv
      simp [st__law_grown_0, st__law_grown_1, st__law_grown_2, st__law_grown_3, st__law_grown_4, st__law_grown_5, st__law_grown_6, st__law_grown_7, st__law_grown_8, st__law_grown_9, st__law_grown_10, st__law_grown_11, st__law_grown_12, b__law_grown, bd_ok, bd_exc, st_ok, st_exc, xss_cons, xss_nil, seq_next, seq_ret, seq_brk, seq_cont, seq_exc, eqV_int, xst, ev, evT, evs, evo, evc, evi, itemAt, MP.placeOf, bindT, bindTs, unslot, hold, unhold, subR, freeze, ix_tup, ix_lst, ix_r, cm_eq, cm_ne, cm_lt, cm_le, cm_gt, cm_ge, cm_isn, cm_nisn, cm_isb, cm_inn, cm_nin, op_ad, op_sb, op_ml, op_dv, op_md, op_pw, op_sl, op_as, op_at, op_mt, op_al, bi_abs, bi_int, bi_intb, bi_ints, bi_lent, bi_lenl, bi_lenr, bi_lens, bi_listt, bi_listl, bi_tupt, bi_tupl, bi_tupr, bi_gcd, bi_max, bi_min, bi_str, bi_sum, bi_all, bi_any, tr_non, tr_bl, tr_int, tr_tup, tr_lst, ty_nt, ty_tt, ty_ti, ty_ii, ty_it, ty_is, sl_tup, sl_lst, sq_tup, sq_lst, ls_lst, th_lst, wk_tup, wk_lst, opt_some, eqV_non, es_num_num, es_num_state, es_num_const, es_num_pow, es_num_add, es_num_sub, es_num_mul, es_num_div, es_state_num, es_state_state, es_state_const, es_state_pow, es_state_add, es_state_sub, es_state_mul, es_state_div, es_const_num, es_const_state, es_const_const, es_const_pow, es_const_add, es_const_sub, es_const_mul, es_const_div, es_pow_num, es_pow_state, es_pow_const, es_pow_pow, es_pow_add, es_pow_sub, es_pow_mul, es_pow_div, es_add_num, es_add_state, es_add_const, es_add_pow, es_add_add, es_add_sub, es_add_mul, es_add_div, es_sub_num, es_sub_state, es_sub_const, es_sub_pow, es_sub_add, es_sub_sub, es_sub_mul, es_sub_div, es_mul_num, es_mul_state, es_mul_const, es_mul_pow, es_mul_add, es_mul_sub, es_mul_mul, es_mul_div, es_div_num, es_div_state, es_div_const, es_div_pow, es_div_add, es_div_sub, es_div_mul, es_div_div, ip_num, ip_state, ip_const, ip_pow, ip_add, ip_sub, ip_mul, ip_div, il_num, il_state, il_const, il_pow, il_add, il_sub, il_mul, il_div, it_num, it_state, it_const, it_pow, it_add, it_sub, it_mul, it_div, kd, hv]
  · cases k
    · have hv : callN F d n__law_value [.tup [.str "const", .int i], u, v] ⟨S.cells, false⟩ = .ok h ⟨S.cells, false⟩ := hv
      simp [st__law_grown_0, st__law_grown_1, st__law_grown_2, st__law_grown_3, st__law_grown_4, st__law_grown_5, st__law_grown_6, st__law_grown_7, st__law_grown_8, st__law_grown_9, st__law_grown_10, st__law_grown_11, st__law_grown_12, b__law_grown, bd_ok, bd_exc, st_ok, st_exc, xss_cons, xss_nil, seq_next, seq_ret, seq_brk, seq_cont, seq_exc, eqV_int, xst, ev, evT, evs, evo, evc, evi, itemAt, MP.placeOf, bindT, bindTs, unslot, hold, unhold, subR, freeze, ix_tup, ix_lst, ix_r, cm_eq, cm_ne, cm_lt, cm_le, cm_gt, cm_ge, cm_isn, cm_nisn, cm_isb, cm_inn, cm_nin, op_ad, op_sb, op_ml, op_dv, op_md, op_pw, op_sl, op_as, op_at, op_mt, op_al, bi_abs, bi_int, bi_intb, bi_ints, bi_lent, bi_lenl, bi_lenr, bi_lens, bi_listt, bi_listl, bi_tupt, bi_tupl, bi_tupr, bi_gcd, bi_max, bi_min, bi_str, bi_sum, bi_all, bi_any, tr_non, tr_bl, tr_int, tr_tup, tr_lst, ty_nt, ty_tt, ty_ti, ty_ii, ty_it, ty_is, sl_tup, sl_lst, sq_tup, sq_lst, ls_lst, th_lst, wk_tup, wk_lst, opt_some, eqV_non, es_num_num, es_num_state, es_num_const, es_num_pow, es_num_add, es_num_sub, es_num_mul, es_num_div, es_state_num, es_state_state, es_state_const, es_state_pow, es_state_add, es_state_sub, es_state_mul, es_state_div, es_const_num, es_const_state, es_const_const, es_const_pow, es_const_add, es_const_sub, es_const_mul, es_const_div, es_pow_num, es_pow_state, es_pow_const, es_pow_pow, es_pow_add, es_pow_sub, es_pow_mul, es_pow_div, es_add_num, es_add_state, es_add_const, es_add_pow, es_add_add, es_add_sub, es_add_mul, es_add_div, es_sub_num, es_sub_state, es_sub_const, es_sub_pow, es_sub_add, es_sub_sub, es_sub_mul, es_sub_div, es_mul_num, es_mul_state, es_mul_const, es_mul_pow, es_mul_add, es_mul_sub, es_mul_mul, es_mul_div, es_div_num, es_div_state, es_div_const, es_div_pow, es_div_add, es_div_sub, es_div_mul, es_div_div, ip_num, ip_state, ip_const, ip_pow, ip_add, ip_sub, ip_mul, ip_div, il_num, il_state, il_const, il_pow, il_add, il_sub, il_mul, il_div, it_num, it_state, it_const, it_pow, it_add, it_sub, it_mul, it_div, kd, hv, e]
    · have hv : callN F d n__law_value [.tup [.str "state", .int i], u, v] ⟨S.cells, false⟩ = .ok h ⟨S.cells, false⟩ := hv
      simp [st__law_grown_0, st__law_grown_1, st__law_grown_2, st__law_grown_3, st__law_grown_4, st__law_grown_5, st__law_grown_6, st__law_grown_7, st__law_grown_8, st__law_grown_9, st__law_grown_10, st__law_grown_11, st__law_grown_12, b__law_grown, bd_ok, bd_exc, st_ok, st_exc, xss_cons, xss_nil, seq_next, seq_ret, seq_brk, seq_cont, seq_exc, eqV_int, xst, ev, evT, evs, evo, evc, evi, itemAt, MP.placeOf, bindT, bindTs, unslot, hold, unhold, subR, freeze, ix_tup, ix_lst, ix_r, cm_eq, cm_ne, cm_lt, cm_le, cm_gt, cm_ge, cm_isn, cm_nisn, cm_isb, cm_inn, cm_nin, op_ad, op_sb, op_ml, op_dv, op_md, op_pw, op_sl, op_as, op_at, op_mt, op_al, bi_abs, bi_int, bi_intb, bi_ints, bi_lent, bi_lenl, bi_lenr, bi_lens, bi_listt, bi_listl, bi_tupt, bi_tupl, bi_tupr, bi_gcd, bi_max, bi_min, bi_str, bi_sum, bi_all, bi_any, tr_non, tr_bl, tr_int, tr_tup, tr_lst, ty_nt, ty_tt, ty_ti, ty_ii, ty_it, ty_is, sl_tup, sl_lst, sq_tup, sq_lst, ls_lst, th_lst, wk_tup, wk_lst, opt_some, eqV_non, es_num_num, es_num_state, es_num_const, es_num_pow, es_num_add, es_num_sub, es_num_mul, es_num_div, es_state_num, es_state_state, es_state_const, es_state_pow, es_state_add, es_state_sub, es_state_mul, es_state_div, es_const_num, es_const_state, es_const_const, es_const_pow, es_const_add, es_const_sub, es_const_mul, es_const_div, es_pow_num, es_pow_state, es_pow_const, es_pow_pow, es_pow_add, es_pow_sub, es_pow_mul, es_pow_div, es_add_num, es_add_state, es_add_const, es_add_pow, es_add_add, es_add_sub, es_add_mul, es_add_div, es_sub_num, es_sub_state, es_sub_const, es_sub_pow, es_sub_add, es_sub_sub, es_sub_mul, es_sub_div, es_mul_num, es_mul_state, es_mul_const, es_mul_pow, es_mul_add, es_mul_sub, es_mul_mul, es_mul_div, es_div_num, es_div_state, es_div_const, es_div_pow, es_div_add, es_div_sub, es_div_mul, es_div_div, ip_num, ip_state, ip_const, ip_pow, ip_add, ip_sub, ip_mul, ip_div, il_num, il_state, il_const, il_pow, il_add, il_sub, il_mul, il_div, it_num, it_state, it_const, it_pow, it_add, it_sub, it_mul, it_div, kd, hv, e]
theorem G_other {k : Bool} (hx : x = .str "num" ∨ x = .str (kd (!k))) (hv : callN F d n__law_value [.tup [x, y], u, v] ⟨S.cells, false⟩ = .ok h ⟨S.cells, false⟩) (ph : h.pure = true) : callN F (d + 1) n__law_grown [.tup [x, y], u, v, .str (kd k), z] S = .ok (.tup [h, .tup [.int 0, .int 1]]) S := by
  rw [callN_of (fd := ⟨5, 14, b__law_grown⟩) rfl rfl]
  refine run_ret ?_ (by simp [PV.pure, PV.pures, ph])
  rcases hx with rfl | rfl
  · cases k <;> simp [st__law_grown_0, st__law_grown_1, st__law_grown_2, st__law_grown_3, st__law_grown_4, st__law_grown_5, st__law_grown_6, st__law_grown_7, st__law_grown_8, st__law_grown_9, st__law_grown_10, st__law_grown_11, st__law_grown_12, b__law_grown, bd_ok, bd_exc, st_ok, st_exc, xss_cons, xss_nil, seq_next, seq_ret, seq_brk, seq_cont, seq_exc, eqV_int, xst, ev, evT, evs, evo, evc, evi, itemAt, MP.placeOf, bindT, bindTs, unslot, hold, unhold, subR, freeze, ix_tup, ix_lst, ix_r, cm_eq, cm_ne, cm_lt, cm_le, cm_gt, cm_ge, cm_isn, cm_nisn, cm_isb, cm_inn, cm_nin, op_ad, op_sb, op_ml, op_dv, op_md, op_pw, op_sl, op_as, op_at, op_mt, op_al, bi_abs, bi_int, bi_intb, bi_ints, bi_lent, bi_lenl, bi_lenr, bi_lens, bi_listt, bi_listl, bi_tupt, bi_tupl, bi_tupr, bi_gcd, bi_max, bi_min, bi_str, bi_sum, bi_all, bi_any, tr_non, tr_bl, tr_int, tr_tup, tr_lst, ty_nt, ty_tt, ty_ti, ty_ii, ty_it, ty_is, sl_tup, sl_lst, sq_tup, sq_lst, ls_lst, th_lst, wk_tup, wk_lst, opt_some, eqV_non, es_num_num, es_num_state, es_num_const, es_num_pow, es_num_add, es_num_sub, es_num_mul, es_num_div, es_state_num, es_state_state, es_state_const, es_state_pow, es_state_add, es_state_sub, es_state_mul, es_state_div, es_const_num, es_const_state, es_const_const, es_const_pow, es_const_add, es_const_sub, es_const_mul, es_const_div, es_pow_num, es_pow_state, es_pow_const, es_pow_pow, es_pow_add, es_pow_sub, es_pow_mul, es_pow_div, es_add_num, es_add_state, es_add_const, es_add_pow, es_add_add, es_add_sub, es_add_mul, es_add_div, es_sub_num, es_sub_state, es_sub_const, es_sub_pow, es_sub_add, es_sub_sub, es_sub_mul, es_sub_div, es_mul_num, es_mul_state, es_mul_const, es_mul_pow, es_mul_add, es_mul_sub, es_mul_mul, es_mul_div, es_div_num, es_div_state, es_div_const, es_div_pow, es_div_add, es_div_sub, es_div_mul, es_div_div, ip_num, ip_state, ip_const, ip_pow, ip_add, ip_sub, ip_mul, ip_div, il_num, il_state, il_const, il_pow, il_add, il_sub, il_mul, il_div, it_num, it_state, it_const, it_pow, it_add, it_sub, it_mul, it_div, kd, hv]
  · cases k
    · have hv : callN F d n__law_value [.tup [.str "state", y], u, v] ⟨S.cells, false⟩ = .ok h ⟨S.cells, false⟩ := hv
      simp [st__law_grown_0, st__law_grown_1, st__law_grown_2, st__law_grown_3, st__law_grown_4, st__law_grown_5, st__law_grown_6, st__law_grown_7, st__law_grown_8, st__law_grown_9, st__law_grown_10, st__law_grown_11, st__law_grown_12, b__law_grown, bd_ok, bd_exc, st_ok, st_exc, xss_cons, xss_nil, seq_next, seq_ret, seq_brk, seq_cont, seq_exc, eqV_int, xst, ev, evT, evs, evo, evc, evi, itemAt, MP.placeOf, bindT, bindTs, unslot, hold, unhold, subR, freeze, ix_tup, ix_lst, ix_r, cm_eq, cm_ne, cm_lt, cm_le, cm_gt, cm_ge, cm_isn, cm_nisn, cm_isb, cm_inn, cm_nin, op_ad, op_sb, op_ml, op_dv, op_md, op_pw, op_sl, op_as, op_at, op_mt, op_al, bi_abs, bi_int, bi_intb, bi_ints, bi_lent, bi_lenl, bi_lenr, bi_lens, bi_listt, bi_listl, bi_tupt, bi_tupl, bi_tupr, bi_gcd, bi_max, bi_min, bi_str, bi_sum, bi_all, bi_any, tr_non, tr_bl, tr_int, tr_tup, tr_lst, ty_nt, ty_tt, ty_ti, ty_ii, ty_it, ty_is, sl_tup, sl_lst, sq_tup, sq_lst, ls_lst, th_lst, wk_tup, wk_lst, opt_some, eqV_non, es_num_num, es_num_state, es_num_const, es_num_pow, es_num_add, es_num_sub, es_num_mul, es_num_div, es_state_num, es_state_state, es_state_const, es_state_pow, es_state_add, es_state_sub, es_state_mul, es_state_div, es_const_num, es_const_state, es_const_const, es_const_pow, es_const_add, es_const_sub, es_const_mul, es_const_div, es_pow_num, es_pow_state, es_pow_const, es_pow_pow, es_pow_add, es_pow_sub, es_pow_mul, es_pow_div, es_add_num, es_add_state, es_add_const, es_add_pow, es_add_add, es_add_sub, es_add_mul, es_add_div, es_sub_num, es_sub_state, es_sub_const, es_sub_pow, es_sub_add, es_sub_sub, es_sub_mul, es_sub_div, es_mul_num, es_mul_state, es_mul_const, es_mul_pow, es_mul_add, es_mul_sub, es_mul_mul, es_mul_div, es_div_num, es_div_state, es_div_const, es_div_pow, es_div_add, es_div_sub, es_div_mul, es_div_div, ip_num, ip_state, ip_const, ip_pow, ip_add, ip_sub, ip_mul, ip_div, il_num, il_state, il_const, il_pow, il_add, il_sub, il_mul, il_div, it_num, it_state, it_const, it_pow, it_add, it_sub, it_mul, it_div, kd, hv]
    · have hv : callN F d n__law_value [.tup [.str "const", y], u, v] ⟨S.cells, false⟩ = .ok h ⟨S.cells, false⟩ := hv
      simp [st__law_grown_0, st__law_grown_1, st__law_grown_2, st__law_grown_3, st__law_grown_4, st__law_grown_5, st__law_grown_6, st__law_grown_7, st__law_grown_8, st__law_grown_9, st__law_grown_10, st__law_grown_11, st__law_grown_12, b__law_grown, bd_ok, bd_exc, st_ok, st_exc, xss_cons, xss_nil, seq_next, seq_ret, seq_brk, seq_cont, seq_exc, eqV_int, xst, ev, evT, evs, evo, evc, evi, itemAt, MP.placeOf, bindT, bindTs, unslot, hold, unhold, subR, freeze, ix_tup, ix_lst, ix_r, cm_eq, cm_ne, cm_lt, cm_le, cm_gt, cm_ge, cm_isn, cm_nisn, cm_isb, cm_inn, cm_nin, op_ad, op_sb, op_ml, op_dv, op_md, op_pw, op_sl, op_as, op_at, op_mt, op_al, bi_abs, bi_int, bi_intb, bi_ints, bi_lent, bi_lenl, bi_lenr, bi_lens, bi_listt, bi_listl, bi_tupt, bi_tupl, bi_tupr, bi_gcd, bi_max, bi_min, bi_str, bi_sum, bi_all, bi_any, tr_non, tr_bl, tr_int, tr_tup, tr_lst, ty_nt, ty_tt, ty_ti, ty_ii, ty_it, ty_is, sl_tup, sl_lst, sq_tup, sq_lst, ls_lst, th_lst, wk_tup, wk_lst, opt_some, eqV_non, es_num_num, es_num_state, es_num_const, es_num_pow, es_num_add, es_num_sub, es_num_mul, es_num_div, es_state_num, es_state_state, es_state_const, es_state_pow, es_state_add, es_state_sub, es_state_mul, es_state_div, es_const_num, es_const_state, es_const_const, es_const_pow, es_const_add, es_const_sub, es_const_mul, es_const_div, es_pow_num, es_pow_state, es_pow_const, es_pow_pow, es_pow_add, es_pow_sub, es_pow_mul, es_pow_div, es_add_num, es_add_state, es_add_const, es_add_pow, es_add_add, es_add_sub, es_add_mul, es_add_div, es_sub_num, es_sub_state, es_sub_const, es_sub_pow, es_sub_add, es_sub_sub, es_sub_mul, es_sub_div, es_mul_num, es_mul_state, es_mul_const, es_mul_pow, es_mul_add, es_mul_sub, es_mul_mul, es_mul_div, es_div_num, es_div_state, es_div_const, es_div_pow, es_div_add, es_div_sub, es_div_mul, es_div_div, ip_num, ip_state, ip_const, ip_pow, ip_add, ip_sub, ip_mul, ip_div, il_num, il_state, il_const, il_pow, il_add, il_sub, il_mul, il_div, it_num, it_state, it_const, it_pow, it_add, it_sub, it_mul, it_div, kd, hv]
section
variable {k : Str} {a0 a1 b0 b1 A0 A1 B0 B1 l0 l1 m : Int}
theorem G_pow0 (hk : k = "state" ∨ k = "const") (hv : callN F d n__law_value [.tup [.str "pow", x, .int 0], u, v] ⟨S.cells, false⟩ = .ok h ⟨S.cells, false⟩) (ph : h.pure = true) (ha : callN F d n__law_grown [x, u, v, .str k, z] ⟨S.cells, false⟩ = .ok w ⟨S.cells, false⟩) :
    callN F (d + 1) n__law_grown [.tup [.str "pow", x, .int 0], u, v, .str k, z] S = .ok (.tup [h, .tup [.int 0, .int 1]]) S := by
  rw [callN_of (fd := ⟨5, 14, b__law_grown⟩) rfl rfl]
  refine run_ret ?_ (by simp [PV.pure, PV.pures, ph])
  rcases hk with rfl | rfl <;> simp [st__law_grown_0, st__law_grown_1, st__law_grown_2, st__law_grown_3, st__law_grown_4, st__law_grown_5, st__law_grown_6, st__law_grown_7, st__law_grown_8, st__law_grown_9, st__law_grown_10, st__law_grown_11, st__law_grown_12, b__law_grown, bd_ok, bd_exc, st_ok, st_exc, xss_cons, xss_nil, seq_next, seq_ret, seq_brk, seq_cont, seq_exc, eqV_int, xst, ev, evT, evs, evo, evc, evi, itemAt, MP.placeOf, bindT, bindTs, unslot, hold, unhold, subR, freeze, ix_tup, ix_lst, ix_r, cm_eq, cm_ne, cm_lt, cm_le, cm_gt, cm_ge, cm_isn, cm_nisn, cm_isb, cm_inn, cm_nin, op_ad, op_sb, op_ml, op_dv, op_md, op_pw, op_sl, op_as, op_at, op_mt, op_al, bi_abs, bi_int, bi_intb, bi_ints, bi_lent, bi_lenl, bi_lenr, bi_lens, bi_listt, bi_listl, bi_tupt, bi_tupl, bi_tupr, bi_gcd, bi_max, bi_min, bi_str, bi_sum, bi_all, bi_any, tr_non, tr_bl, tr_int, tr_tup, tr_lst, ty_nt, ty_tt, ty_ti, ty_ii, ty_it, ty_is, sl_tup, sl_lst, sq_tup, sq_lst, ls_lst, th_lst, wk_tup, wk_lst, opt_some, eqV_non, es_num_num, es_num_state, es_num_const, es_num_pow, es_num_add, es_num_sub, es_num_mul, es_num_div, es_state_num, es_state_state, es_state_const, es_state_pow, es_state_add, es_state_sub, es_state_mul, es_state_div, es_const_num, es_const_state, es_const_const, es_const_pow, es_const_add, es_const_sub, es_const_mul, es_const_div, es_pow_num, es_pow_state, es_pow_const, es_pow_pow, es_pow_add, es_pow_sub, es_pow_mul, es_pow_div, es_add_num, es_add_state, es_add_const, es_add_pow, es_add_add, es_add_sub, es_add_mul, es_add_div, es_sub_num, es_sub_state, es_sub_const, es_sub_pow, es_sub_add, es_sub_sub, es_sub_mul, es_sub_div, es_mul_num, es_mul_state, es_mul_const, es_mul_pow, es_mul_add, es_mul_sub, es_mul_mul, es_mul_div, es_div_num, es_div_state, es_div_const, es_div_pow, es_div_add, es_div_sub, es_div_mul, es_div_div, ip_num, ip_state, ip_const, ip_pow, ip_add, ip_sub, ip_mul, ip_div, il_num, il_state, il_const, il_pow, il_add, il_sub, il_mul, il_div, it_num, it_state, it_const, it_pow, it_add, it_sub, it_mul, it_div, hv, ha]
theorem G_pow (hk : k = "state" ∨ k = "const") (hm : ¬ m = 0) (hv : callN F d n__law_value [.tup [.str "pow", x, .int m], u, v] ⟨S.cells, false⟩ = .ok h ⟨S.cells, false⟩) (ph : h.pure = true) (ha : callN F d n__law_grown [x, u, v, .str k, z] ⟨S.cells, false⟩ = .ok (.tup [w, .tup [.int a0, .int a1]]) ⟨S.cells, false⟩)
    (hl : callN F d n__law_value [.tup [.str "pow", x, .int (m - 1)], u, v] ⟨S.cells, false⟩ = .ok (.tup [.int l0, .int l1]) ⟨S.cells, false⟩) (m1 : mulOk m l0 = true) (m2 : mulOk (m * l0) a0 = true) (m3 : mulOk l1 a1 = true) :
    callN F (d + 1) n__law_grown [.tup [.str "pow", x, .int m], u, v, .str k, z] S = .ok (.tup [h, .tup [.int (m * l0 * a0), .int (l1 * a1)]]) S := by
  rw [callN_of (fd := ⟨5, 14, b__law_grown⟩) rfl rfl]
  refine run_ret ?_ (by simp [PV.pure, PV.pures, ph])
  rcases hk with rfl | rfl <;> simp [st__law_grown_0, st__law_grown_1, st__law_grown_2, st__law_grown_3, st__law_grown_4, st__law_grown_5, st__law_grown_6, st__law_grown_7, st__law_grown_8, st__law_grown_9, st__law_grown_10, st__law_grown_11, st__law_grown_12, b__law_grown, bd_ok, bd_exc, st_ok, st_exc, xss_cons, xss_nil, seq_next, seq_ret, seq_brk, seq_cont, seq_exc, eqV_int, xst, ev, evT, evs, evo, evc, evi, itemAt, MP.placeOf, bindT, bindTs, unslot, hold, unhold, subR, freeze, ix_tup, ix_lst, ix_r, cm_eq, cm_ne, cm_lt, cm_le, cm_gt, cm_ge, cm_isn, cm_nisn, cm_isb, cm_inn, cm_nin, op_ad, op_sb, op_ml, op_dv, op_md, op_pw, op_sl, op_as, op_at, op_mt, op_al, bi_abs, bi_int, bi_intb, bi_ints, bi_lent, bi_lenl, bi_lenr, bi_lens, bi_listt, bi_listl, bi_tupt, bi_tupl, bi_tupr, bi_gcd, bi_max, bi_min, bi_str, bi_sum, bi_all, bi_any, tr_non, tr_bl, tr_int, tr_tup, tr_lst, ty_nt, ty_tt, ty_ti, ty_ii, ty_it, ty_is, sl_tup, sl_lst, sq_tup, sq_lst, ls_lst, th_lst, wk_tup, wk_lst, opt_some, eqV_non, es_num_num, es_num_state, es_num_const, es_num_pow, es_num_add, es_num_sub, es_num_mul, es_num_div, es_state_num, es_state_state, es_state_const, es_state_pow, es_state_add, es_state_sub, es_state_mul, es_state_div, es_const_num, es_const_state, es_const_const, es_const_pow, es_const_add, es_const_sub, es_const_mul, es_const_div, es_pow_num, es_pow_state, es_pow_const, es_pow_pow, es_pow_add, es_pow_sub, es_pow_mul, es_pow_div, es_add_num, es_add_state, es_add_const, es_add_pow, es_add_add, es_add_sub, es_add_mul, es_add_div, es_sub_num, es_sub_state, es_sub_const, es_sub_pow, es_sub_add, es_sub_sub, es_sub_mul, es_sub_div, es_mul_num, es_mul_state, es_mul_const, es_mul_pow, es_mul_add, es_mul_sub, es_mul_mul, es_mul_div, es_div_num, es_div_state, es_div_const, es_div_pow, es_div_add, es_div_sub, es_div_mul, es_div_div, ip_num, ip_state, ip_const, ip_pow, ip_add, ip_sub, ip_mul, ip_div, il_num, il_state, il_const, il_pow, il_add, il_sub, il_mul, il_div, it_num, it_state, it_const, it_pow, it_add, it_sub, it_mul, it_div, hv, ha, hl, hm, m1, m2, m3]
theorem G_add (hk : k = "state" ∨ k = "const") (hv : callN F d n__law_value [.tup [.str "add", x, y], u, v] ⟨S.cells, false⟩ = .ok h ⟨S.cells, false⟩) (ph : h.pure = true) (ha : callN F d n__law_grown [x, u, v, .str k, z] ⟨S.cells, false⟩ = .ok (.tup [w, .tup [.int a0, .int a1]]) ⟨S.cells, false⟩)
    {w2 : PV} (hb : callN F d n__law_grown [y, u, v, .str k, z] ⟨S.cells, false⟩ = .ok (.tup [w2, .tup [.int b0, .int b1]]) ⟨S.cells, false⟩) (m1 : mulOk a0 b1 = true) (m2 : mulOk 1 b0 = true) (m3 : mulOk b0 a1 = true) (m4 : mulOk a1 b1 = true) :
    callN F (d + 1) n__law_grown [.tup [.str "add", x, y], u, v, .str k, z] S = .ok (.tup [h, .tup [.int (a0 * b1 + 1 * b0 * a1), .int (a1 * b1)]]) S := by
  rw [callN_of (fd := ⟨5, 14, b__law_grown⟩) rfl rfl]
  refine run_ret ?_ (by simp [PV.pure, PV.pures, ph])
  rcases hk with rfl | rfl <;> simp [st__law_grown_0, st__law_grown_1, st__law_grown_2, st__law_grown_3, st__law_grown_4, st__law_grown_5, st__law_grown_6, st__law_grown_7, st__law_grown_8, st__law_grown_9, st__law_grown_10, st__law_grown_11, st__law_grown_12, b__law_grown, bd_ok, bd_exc, st_ok, st_exc, xss_cons, xss_nil, seq_next, seq_ret, seq_brk, seq_cont, seq_exc, eqV_int, xst, ev, evT, evs, evo, evc, evi, itemAt, MP.placeOf, bindT, bindTs, unslot, hold, unhold, subR, freeze, ix_tup, ix_lst, ix_r, cm_eq, cm_ne, cm_lt, cm_le, cm_gt, cm_ge, cm_isn, cm_nisn, cm_isb, cm_inn, cm_nin, op_ad, op_sb, op_ml, op_dv, op_md, op_pw, op_sl, op_as, op_at, op_mt, op_al, bi_abs, bi_int, bi_intb, bi_ints, bi_lent, bi_lenl, bi_lenr, bi_lens, bi_listt, bi_listl, bi_tupt, bi_tupl, bi_tupr, bi_gcd, bi_max, bi_min, bi_str, bi_sum, bi_all, bi_any, tr_non, tr_bl, tr_int, tr_tup, tr_lst, ty_nt, ty_tt, ty_ti, ty_ii, ty_it, ty_is, sl_tup, sl_lst, sq_tup, sq_lst, ls_lst, th_lst, wk_tup, wk_lst, opt_some, eqV_non, es_num_num, es_num_state, es_num_const, es_num_pow, es_num_add, es_num_sub, es_num_mul, es_num_div, es_state_num, es_state_state, es_state_const, es_state_pow, es_state_add, es_state_sub, es_state_mul, es_state_div, es_const_num, es_const_state, es_const_const, es_const_pow, es_const_add, es_const_sub, es_const_mul, es_const_div, es_pow_num, es_pow_state, es_pow_const, es_pow_pow, es_pow_add, es_pow_sub, es_pow_mul, es_pow_div, es_add_num, es_add_state, es_add_const, es_add_pow, es_add_add, es_add_sub, es_add_mul, es_add_div, es_sub_num, es_sub_state, es_sub_const, es_sub_pow, es_sub_add, es_sub_sub, es_sub_mul, es_sub_div, es_mul_num, es_mul_state, es_mul_const, es_mul_pow, es_mul_add, es_mul_sub, es_mul_mul, es_mul_div, es_div_num, es_div_state, es_div_const, es_div_pow, es_div_add, es_div_sub, es_div_mul, es_div_div, ip_num, ip_state, ip_const, ip_pow, ip_add, ip_sub, ip_mul, ip_div, il_num, il_state, il_const, il_pow, il_add, il_sub, il_mul, il_div, it_num, it_state, it_const, it_pow, it_add, it_sub, it_mul, it_div, hv, ha, hb, m1, m2, m3, m4]
theorem G_sub (hk : k = "state" ∨ k = "const") (hv : callN F d n__law_value [.tup [.str "sub", x, y], u, v] ⟨S.cells, false⟩ = .ok h ⟨S.cells, false⟩) (ph : h.pure = true) (ha : callN F d n__law_grown [x, u, v, .str k, z] ⟨S.cells, false⟩ = .ok (.tup [w, .tup [.int a0, .int a1]]) ⟨S.cells, false⟩)
    {w2 : PV} (hb : callN F d n__law_grown [y, u, v, .str k, z] ⟨S.cells, false⟩ = .ok (.tup [w2, .tup [.int b0, .int b1]]) ⟨S.cells, false⟩) (m1 : mulOk a0 b1 = true) (m2 : mulOk (-1) b0 = true) (m3 : mulOk (-b0) a1 = true) (m4 : mulOk a1 b1 = true) :
    callN F (d + 1) n__law_grown [.tup [.str "sub", x, y], u, v, .str k, z] S = .ok (.tup [h, .tup [.int (a0 * b1 + -1 * b0 * a1), .int (a1 * b1)]]) S := by
  rw [callN_of (fd := ⟨5, 14, b__law_grown⟩) rfl rfl]
  refine run_ret ?_ (by simp [PV.pure, PV.pures, ph])
  rcases hk with rfl | rfl <;> simp [st__law_grown_0, st__law_grown_1, st__law_grown_2, st__law_grown_3, st__law_grown_4, st__law_grown_5, st__law_grown_6, st__law_grown_7, st__law_grown_8, st__law_grown_9, st__law_grown_10, st__law_grown_11, st__law_grown_12, b__law_grown, bd_ok, bd_exc, st_ok, st_exc, xss_cons, xss_nil, seq_next, seq_ret, seq_brk, seq_cont, seq_exc, eqV_int, xst, ev, evT, evs, evo, evc, evi, itemAt, MP.placeOf, bindT, bindTs, unslot, hold, unhold, subR, freeze, ix_tup, ix_lst, ix_r, cm_eq, cm_ne, cm_lt, cm_le, cm_gt, cm_ge, cm_isn, cm_nisn, cm_isb, cm_inn, cm_nin, op_ad, op_sb, op_ml, op_dv, op_md, op_pw, op_sl, op_as, op_at, op_mt, op_al, bi_abs, bi_int, bi_intb, bi_ints, bi_lent, bi_lenl, bi_lenr, bi_lens, bi_listt, bi_listl, bi_tupt, bi_tupl, bi_tupr, bi_gcd, bi_max, bi_min, bi_str, bi_sum, bi_all, bi_any, tr_non, tr_bl, tr_int, tr_tup, tr_lst, ty_nt, ty_tt, ty_ti, ty_ii, ty_it, ty_is, sl_tup, sl_lst, sq_tup, sq_lst, ls_lst, th_lst, wk_tup, wk_lst, opt_some, eqV_non, es_num_num, es_num_state, es_num_const, es_num_pow, es_num_add, es_num_sub, es_num_mul, es_num_div, es_state_num, es_state_state, es_state_const, es_state_pow, es_state_add, es_state_sub, es_state_mul, es_state_div, es_const_num, es_const_state, es_const_const, es_const_pow, es_const_add, es_const_sub, es_const_mul, es_const_div, es_pow_num, es_pow_state, es_pow_const, es_pow_pow, es_pow_add, es_pow_sub, es_pow_mul, es_pow_div, es_add_num, es_add_state, es_add_const, es_add_pow, es_add_add, es_add_sub, es_add_mul, es_add_div, es_sub_num, es_sub_state, es_sub_const, es_sub_pow, es_sub_add, es_sub_sub, es_sub_mul, es_sub_div, es_mul_num, es_mul_state, es_mul_const, es_mul_pow, es_mul_add, es_mul_sub, es_mul_mul, es_mul_div, es_div_num, es_div_state, es_div_const, es_div_pow, es_div_add, es_div_sub, es_div_mul, es_div_div, ip_num, ip_state, ip_const, ip_pow, ip_add, ip_sub, ip_mul, ip_div, il_num, il_state, il_const, il_pow, il_add, il_sub, il_mul, il_div, it_num, it_state, it_const, it_pow, it_add, it_sub, it_mul, it_div, hv, ha, hb, m1, m2, m3, m4]
theorem G_mul (hk : k = "state" ∨ k = "const") (hv : callN F d n__law_value [.tup [.str "mul", x, y], u, v] ⟨S.cells, false⟩ = .ok h ⟨S.cells, false⟩) (ph : h.pure = true) (ha : callN F d n__law_grown [x, u, v, .str k, z] ⟨S.cells, false⟩ = .ok (.tup [.tup [.int A0, .int A1], .tup [.int a0, .int a1]]) ⟨S.cells, false⟩)
    (hb : callN F d n__law_grown [y, u, v, .str k, z] ⟨S.cells, false⟩ = .ok (.tup [.tup [.int B0, .int B1], .tup [.int b0, .int b1]]) ⟨S.cells, false⟩) (m1 : mulOk a0 B0 = true) (m2 : mulOk a1 B1 = true) (m3 : mulOk b0 A0 = true) (m4 : mulOk b1 A1 = true)
    (m5 : mulOk (a0 * B0) (b1 * A1) = true) (m6 : mulOk 1 (b0 * A0) = true) (m7 : mulOk (b0 * A0) (a1 * B1) = true) (m8 : mulOk (a1 * B1) (b1 * A1) = true) :
    callN F (d + 1) n__law_grown [.tup [.str "mul", x, y], u, v, .str k, z] S = .ok (.tup [h, .tup [.int (a0 * B0 * (b1 * A1) + 1 * (b0 * A0) * (a1 * B1)), .int (a1 * B1 * (b1 * A1))]]) S := by
  rw [callN_of (fd := ⟨5, 14, b__law_grown⟩) rfl rfl]
  refine run_ret ?_ (by simp [PV.pure, PV.pures, ph])
  generalize e1 : a0 * B0 = c0 at *
  generalize e2 : a1 * B1 = c1 at *
  generalize e3 : b0 * A0 = f0 at *
  generalize e4 : b1 * A1 = f1 at *
  rcases hk with rfl | rfl <;> simp [st__law_grown_0, st__law_grown_1, st__law_grown_2, st__law_grown_3, st__law_grown_4, st__law_grown_5, st__law_grown_6, st__law_grown_7, st__law_grown_8, st__law_grown_9, st__law_grown_10, st__law_grown_11, st__law_grown_12, b__law_grown, bd_ok, bd_exc, st_ok, st_exc, xss_cons, xss_nil, seq_next, seq_ret, seq_brk, seq_cont, seq_exc, eqV_int, xst, ev, evT, evs, evo, evc, evi, itemAt, MP.placeOf, bindT, bindTs, unslot, hold, unhold, subR, freeze, ix_tup, ix_lst, ix_r, cm_eq, cm_ne, cm_lt, cm_le, cm_gt, cm_ge, cm_isn, cm_nisn, cm_isb, cm_inn, cm_nin, op_ad, op_sb, op_ml, op_dv, op_md, op_pw, op_sl, op_as, op_at, op_mt, op_al, bi_abs, bi_int, bi_intb, bi_ints, bi_lent, bi_lenl, bi_lenr, bi_lens, bi_listt, bi_listl, bi_tupt, bi_tupl, bi_tupr, bi_gcd, bi_max, bi_min, bi_str, bi_sum, bi_all, bi_any, tr_non, tr_bl, tr_int, tr_tup, tr_lst, ty_nt, ty_tt, ty_ti, ty_ii, ty_it, ty_is, sl_tup, sl_lst, sq_tup, sq_lst, ls_lst, th_lst, wk_tup, wk_lst, opt_some, eqV_non, es_num_num, es_num_state, es_num_const, es_num_pow, es_num_add, es_num_sub, es_num_mul, es_num_div, es_state_num, es_state_state, es_state_const, es_state_pow, es_state_add, es_state_sub, es_state_mul, es_state_div, es_const_num, es_const_state, es_const_const, es_const_pow, es_const_add, es_const_sub, es_const_mul, es_const_div, es_pow_num, es_pow_state, es_pow_const, es_pow_pow, es_pow_add, es_pow_sub, es_pow_mul, es_pow_div, es_add_num, es_add_state, es_add_const, es_add_pow, es_add_add, es_add_sub, es_add_mul, es_add_div, es_sub_num, es_sub_state, es_sub_const, es_sub_pow, es_sub_add, es_sub_sub, es_sub_mul, es_sub_div, es_mul_num, es_mul_state, es_mul_const, es_mul_pow, es_mul_add, es_mul_sub, es_mul_mul, es_mul_div, es_div_num, es_div_state, es_div_const, es_div_pow, es_div_add, es_div_sub, es_div_mul, es_div_div, ip_num, ip_state, ip_const, ip_pow, ip_add, ip_sub, ip_mul, ip_div, il_num, il_state, il_const, il_pow, il_add, il_sub, il_mul, il_div, it_num, it_state, it_const, it_pow, it_add, it_sub, it_mul, it_div, hv, ha, hb, m1, m2, m3, m4, m5, m6, m7, m8, e1, e2, e3, e4]
theorem G_div (hk : k = "state" ∨ k = "const") (hv : callN F d n__law_value [.tup [.str "div", x, y], u, v] ⟨S.cells, false⟩ = .ok h ⟨S.cells, false⟩) (ph : h.pure = true) (ha : callN F d n__law_grown [x, u, v, .str k, z] ⟨S.cells, false⟩ = .ok (.tup [.tup [.int A0, .int A1], .tup [.int a0, .int a1]]) ⟨S.cells, false⟩)
    (hb : callN F d n__law_grown [y, u, v, .str k, z] ⟨S.cells, false⟩ = .ok (.tup [.tup [.int B0, .int B1], .tup [.int b0, .int b1]]) ⟨S.cells, false⟩) {g0 g1 : Int} (m1 : mulOk a0 B0 = true) (m2 : mulOk a1 B1 = true) (m3 : mulOk b0 A0 = true) (m4 : mulOk b1 A1 = true)
    (m5 : mulOk (a0 * B0) (b1 * A1) = true) (m6 : mulOk (-1) (b0 * A0) = true) (m7 : mulOk (-(b0 * A0)) (a1 * B1) = true) (m8 : mulOk (a1 * B1) (b1 * A1) = true) (e0 : g0 = a0 * B0 * (b1 * A1) + -1 * (b0 * A0) * (a1 * B1)) (e9 : g1 = a1 * B1 * (b1 * A1))
    (m9 : mulOk g0 B1 = true) (n1 : mulOk (g0 * B1) B1 = true) (n2 : mulOk g1 B0 = true) (n3 : mulOk (g1 * B0) B0 = true) :
    callN F (d + 1) n__law_grown [.tup [.str "div", x, y], u, v, .str k, z] S = .ok (.tup [h, .tup [.int (g0 * B1 * B1), .int (g1 * B0 * B0)]]) S := by
  rw [callN_of (fd := ⟨5, 14, b__law_grown⟩) rfl rfl]
  refine run_ret ?_ (by simp [PV.pure, PV.pures, ph])
  generalize e1 : a0 * B0 = c0 at *
  generalize e2 : a1 * B1 = c1 at *
  generalize e3 : b0 * A0 = f0 at *
  generalize e4 : b1 * A1 = f1 at *
  rw [Int.neg_mul, Int.one_mul] at e0
  generalize e5 : c0 * f1 + -f0 * c1 = g at *
  generalize e6 : c1 * f1 = g' at *
  subst e0
  subst e9
  generalize e7 : g0 * B1 = r1 at *
  generalize e8 : g1 * B0 = r2 at *
  rcases hk with rfl | rfl <;> simp [st__law_grown_0, st__law_grown_1, st__law_grown_2, st__law_grown_3, st__law_grown_4, st__law_grown_5, st__law_grown_6, st__law_grown_7, st__law_grown_8, st__law_grown_9, st__law_grown_10, st__law_grown_11, st__law_grown_12, b__law_grown, bd_ok, bd_exc, st_ok, st_exc, xss_cons, xss_nil, seq_next, seq_ret, seq_brk, seq_cont, seq_exc, eqV_int, xst, ev, evT, evs, evo, evc, evi, itemAt, MP.placeOf, bindT, bindTs, unslot, hold, unhold, subR, freeze, ix_tup, ix_lst, ix_r, cm_eq, cm_ne, cm_lt, cm_le, cm_gt, cm_ge, cm_isn, cm_nisn, cm_isb, cm_inn, cm_nin, op_ad, op_sb, op_ml, op_dv, op_md, op_pw, op_sl, op_as, op_at, op_mt, op_al, bi_abs, bi_int, bi_intb, bi_ints, bi_lent, bi_lenl, bi_lenr, bi_lens, bi_listt, bi_listl, bi_tupt, bi_tupl, bi_tupr, bi_gcd, bi_max, bi_min, bi_str, bi_sum, bi_all, bi_any, tr_non, tr_bl, tr_int, tr_tup, tr_lst, ty_nt, ty_tt, ty_ti, ty_ii, ty_it, ty_is, sl_tup, sl_lst, sq_tup, sq_lst, ls_lst, th_lst, wk_tup, wk_lst, opt_some, eqV_non, es_num_num, es_num_state, es_num_const, es_num_pow, es_num_add, es_num_sub, es_num_mul, es_num_div, es_state_num, es_state_state, es_state_const, es_state_pow, es_state_add, es_state_sub, es_state_mul, es_state_div, es_const_num, es_const_state, es_const_const, es_const_pow, es_const_add, es_const_sub, es_const_mul, es_const_div, es_pow_num, es_pow_state, es_pow_const, es_pow_pow, es_pow_add, es_pow_sub, es_pow_mul, es_pow_div, es_add_num, es_add_state, es_add_const, es_add_pow, es_add_add, es_add_sub, es_add_mul, es_add_div, es_sub_num, es_sub_state, es_sub_const, es_sub_pow, es_sub_add, es_sub_sub, es_sub_mul, es_sub_div, es_mul_num, es_mul_state, es_mul_const, es_mul_pow, es_mul_add, es_mul_sub, es_mul_mul, es_mul_div, es_div_num, es_div_state, es_div_const, es_div_pow, es_div_add, es_div_sub, es_div_mul, es_div_div, ip_num, ip_state, ip_const, ip_pow, ip_add, ip_sub, ip_mul, ip_div, il_num, il_state, il_const, il_pow, il_add, il_sub, il_mul, il_div, it_num, it_state, it_const, it_pow, it_add, it_sub, it_mul, it_div, hv, ha, hb, m1, m2, m3, m4, m5, m6, m7, m8, m9, n1, n2, n3, e1, e2, e3, e4, e5, e6, e7, e8]
end
/-! ### the growth, by Lean -/
def dop : Bo → Int × Int → Int × Int → Int × Int → Int × Int → Int × Int
  | .add, _, _, a, b => (a.1 * b.2 + 1 * b.1 * a.2, a.2 * b.2)
  | .sub, _, _, a, b => (a.1 * b.2 + -1 * b.1 * a.2, a.2 * b.2)
  | .mul, A, B, a, b => (a.1 * B.1 * (b.2 * A.2) + 1 * (b.1 * A.1) * (a.2 * B.2), a.2 * B.2 * (b.2 * A.2))
  | .div, A, B, a, b => ((a.1 * B.1 * (b.2 * A.2) + -1 * (b.1 * A.1) * (a.2 * B.2)) * B.2 * B.2, a.2 * B.2 * (b.2 * A.2) * B.1 * B.1)
def gr (X C : Nat → Int × Int) (k : Bool) (n : Nat) : Tr → Int × Int
  | .num _ => (0, 1)
  | .st i => (if k = true ∧ i = n then 1 else 0, 1)
  | .cn i => (if k = false ∧ i = n then 1 else 0, 1)
  | .pw t m => if m = 0 then (0, 1) else ((m : Int) * ((lv X C (.pw t (m - 1))).getD (0, 0)).1 * (gr X C k n t).1, ((lv X C (.pw t (m - 1))).getD (0, 0)).2 * (gr X C k n t).2)
  | .bin o a b => dop o ((lv X C a).getD (0, 0)) ((lv X C b).getD (0, 0)) (gr X C k n a) (gr X C k n b)
def vop : Bo → Rat → Rat → Rat → Rat → Rat
  | .add, _, _, a, b => a + b
  | .sub, _, _, a, b => a - b
  | .mul, x, y, a, b => a * y + x * b
  | .div, x, y, a, b => (a * y - x * b) / (y ^ 2)
def dv (X C : Nat → Rat) (k : Bool) (n : Nat) : Tr → Rat
  | .num _ => 0
  | .st i => if k = true ∧ i = n then 1 else 0
  | .cn i => if k = false ∧ i = n then 1 else 0
  | .pw t m => if m = 0 then 0 else (m : Rat) * ((vl X C t).getD 0) ^ (m - 1) * dv X C k n t
  | .bin o a b => vop o ((vl X C a).getD 0) ((vl X C b).getD 0) (dv X C k n a) (dv X C k n b)
theorem vj {X C : Nat → Rat} {a b : Tr} {x y : Rat} (h1 : vl X C a = some x) (h2 : vl X C b = some y) : vl X C (jn a b) = some (x + y) := by
  unfold jn
  split
  · rename_i e; subst e; cases h1; rw [h2, Rat.zero_add]
  · split
    · rename_i e; subst e; cases h2; rw [h1, Rat.add_zero]
    · rw [vl_bin, h1, h2]; rfl
theorem vt {X C : Nat → Rat} {a b : Tr} {x y : Rat} (h1 : vl X C a = some x) (h2 : vl X C b = some y) : vl X C (tk a b) = some (x - y) := by
  unfold tk
  split
  · rename_i e; subst e; cases h2; rw [h1]; congr 1; grind
  · rw [vl_bin, h1, h2]; rfl
theorem vp {X C : Nat → Rat} {a b : Tr} {x y : Rat} (h1 : vl X C a = some x) (h2 : vl X C b = some y) : vl X C (pd a b) = some (x * y) := by
  unfold pd
  split
  · rename_i e
    rcases e with e | e
    · subst e; cases h1; rw [Rat.zero_mul]; rfl
    · subst e; cases h2; rw [Rat.mul_zero]; rfl
  · split
    · rename_i e; subst e; cases h1; rw [h2, Rat.one_mul]
    · split
      · rename_i e; subst e; cases h2; rw [h1, Rat.mul_one]
      · rw [vl_bin, h1, h2]; rfl
theorem vr {X C : Nat → Rat} {a b : Tr} {x y : Rat} (h1 : vl X C a = some x) (h2 : vl X C b = some y) (h0 : y ≠ 0) : vl X C (ra a b) = some (x / y) := by
  unfold ra
  split
  · rename_i e; subst e; cases h1; rw [Rat.div_def, Rat.zero_mul]; rfl
  · split
    · rename_i e; subst e; cases h2; rw [h1]; congr 1; rw [Rat.div_def]; grind
    · rw [vl_bin, h1, h2]
      show (if y = 0 then none else some (x / y)) = _
      rw [if_neg h0]
theorem vb {X C : Nat → Rat} {t : Tr} {x : Rat} {m : Nat} (h1 : vl X C t = some x) (hm : 2 ≤ m) : vl X C (pb t m) = some (x ^ (m - 1)) := by
  unfold pb
  split
  · rename_i e; subst e; rw [h1]; show some x = some (x ^ 1); rw [show (1 : Nat) = 0 + 1 from rfl, Rat.pow_succ, Rat.pow_zero, Rat.one_mul]
  · rw [vl_pw, h1]; rfl
theorem vs {X C : Nat → Rat} {t c : Tr} {x y : Rat} {m : Nat} (h1 : vl X C t = some x) (h2 : vl X C c = some y) : vl X C (sp t m c) = some (if m = 0 then 0 else (m : Rat) * x ^ (m - 1) * y) := by
  unfold sp
  by_cases h0 : m = 0
  · rw [if_pos h0, if_pos h0]; rfl
  · rw [if_neg h0, if_neg h0]
    by_cases e1 : m = 1
    · subst e1
      rw [if_pos rfl, h2]
      congr 1
      show y = ((1 : Nat) : Rat) * x ^ 0 * y
      rw [Rat.pow_zero, Rat.mul_one]
      show y = (1 : Rat) * y
      rw [Rat.one_mul]
    · rw [if_neg e1]
      exact vp (vp rfl (vb h1 (by omega))) h2
theorem sl_vl {X C : Nat → Rat} {k : Bool} {n : Nat} : ∀ {t : Tr} {x : Rat}, vl X C t = some x → vl X C (sl k n t) = some (dv X C k n t)
  | .num _, _, _ => rfl
  | .st i, _, _ => by unfold sl dv; split <;> rfl
  | .cn i, _, _ => by unfold sl dv; split <;> rfl
  | .pw t m, x, h => by
    rw [vl_pw] at h
    cases h1 : vl X C t with
    | none => rw [h1] at h; cases h
    | some y =>
      have ih := sl_vl (k := k) (n := n) h1
      show vl X C (sp t m (sl k n t)) = _
      rw [vs h1 ih]
      show _ = some (if m = 0 then 0 else (m : Rat) * ((vl X C t).getD 0) ^ (m - 1) * dv X C k n t)
      rw [h1]
      rfl
  | .bin o a b, x, h => by
    rw [vl_bin] at h
    cases h1 : vl X C a with
    | none => rw [h1] at h; cases h
    | some y =>
      cases h2 : vl X C b with
      | none => rw [h1, h2] at h; cases h
      | some z =>
        rw [h1, h2] at h
        have ih := sl_vl (k := k) (n := n) h1
        have ih2 := sl_vl (k := k) (n := n) h2
        have e : dv X C k n (.bin o a b) = vop o y z (dv X C k n a) (dv X C k n b) := by
          show vop o ((vl X C a).getD 0) ((vl X C b).getD 0) _ _ = _
          rw [h1, h2]
          rfl
        rw [e]
        cases o with
        | add => exact vj ih ih2
        | sub => exact vt ih ih2
        | mul => exact vj (vp ih h2) (vp h1 ih2)
        | div =>
          have hz : z ≠ 0 := fun e => by
            have h : (if z = 0 then none else some (y / z)) = some x := h
            rw [if_pos e] at h
            cases h
          have hz2 : z ^ 2 ≠ 0 := by
            rw [show (2 : Nat) = 0 + 1 + 1 from rfl, Rat.pow_succ, Rat.pow_succ, Rat.pow_zero, Rat.one_mul]
            intro e
            rcases Rat.mul_eq_zero.mp e with e | e <;> exact hz e
          exact vr (vt (vp ih h2) (vp h1 ih2)) (by rw [vl_pw, h2]; rfl) hz2
/-! ### sizes of slopes -/
def Pb (k : Nat) : Nat → Nat
  | 0 => k
  | h + 1 => 5 * Pb k h + 2
def Qb (k : Nat) : Nat → Nat
  | 0 => k
  | h + 1 => 2 * Qb k h + 6 * Pb k h + k + 20
theorem Pb_mono {k h j : Nat} (l : h ≤ j) : Pb k h ≤ Pb k j := by
  induction l with
  | refl => exact Nat.le_refl _
  | step _ ih => rw [Pb]; omega
theorem Qb_mono {k h j : Nat} (l : h ≤ j) : Qb k h ≤ Qb k j := by
  induction l with
  | refl => exact Nat.le_refl _
  | step _ ih => rw [Qb]; omega
theorem bt_Pb {k j n c : Nat} : ∀ {t : Tr}, t.okT j n c 5 → bt k t ≤ Pb k t.ht
  | .num _, _ => Nat.le_refl _
  | .st _, _ => Nat.le_refl _
  | .cn _, _ => Nat.le_refl _
  | .pw t e, ok => by
    have ih := bt_Pb (k := k) ok.1
    have he : e < 5 := ok.2
    have l : bt k t * (e + 1) ≤ bt k t * 5 := Nat.mul_le_mul_left _ (by omega)
    show bt k t * (e + 1) + 2 ≤ 5 * Pb k t.ht + 2
    omega
  | .bin o a b, ok => by
    have ih := bt_Pb (k := k) ok.1
    have ih2 := bt_Pb (k := k) ok.2
    have m1 : Pb k a.ht ≤ Pb k (max a.ht b.ht) := Pb_mono (Nat.le_max_left _ _)
    have m2 : Pb k b.ht ≤ Pb k (max a.ht b.ht) := Pb_mono (Nat.le_max_right _ _)
    show bt k a + bt k b + 2 ≤ 5 * Pb k (max a.ht b.ht) + 2
    omega
theorem bj (k : Nat) (a b : Tr) : bt k (jn a b) ≤ bt k a + bt k b + 2 := by
  unfold jn
  split
  · omega
  · split
    · omega
    · exact Nat.le_refl _
theorem bk (k : Nat) (a b : Tr) : bt k (tk a b) ≤ bt k a + bt k b + 2 := by
  unfold tk
  split
  · omega
  · exact Nat.le_refl _
theorem bp (k : Nat) (a b : Tr) : bt k (pd a b) ≤ bt k a + bt k b + 2 := by
  unfold pd
  split
  · rename_i e
    rcases e with rfl | rfl
    · show k ≤ k + bt k b + 2; omega
    · show k ≤ bt k a + k + 2; omega
  · split
    · omega
    · split
      · omega
      · exact Nat.le_refl _
theorem br (k : Nat) (a b : Tr) : bt k (ra a b) ≤ bt k a + bt k b + 2 := by
  unfold ra
  split
  · rename_i e; subst e; show k ≤ k + bt k b + 2; omega
  · split
    · omega
    · exact Nat.le_refl _
theorem bs {k m : Nat} {t c : Tr} (hm : m < 5) : bt k (sp t m c) ≤ k + 4 * bt k t + bt k c + 6 := by
  unfold sp
  split
  · show k ≤ _; omega
  · split
    · omega
    · have h1 := bp k (pd (.num m) (pb t m)) c
      have h2 := bp k (.num m) (pb t m)
      have h3 : bt k (.num (m : Rat)) = k := rfl
      have h4 : bt k (pb t m) ≤ 4 * bt k t + 2 := by
        unfold pb
        split
        · omega
        · show bt k t * (m - 1 + 1) + 2 ≤ _
          have : bt k t * (m - 1 + 1) ≤ bt k t * 4 := Nat.mul_le_mul_left _ (by omega)
          omega
      omega
theorem sl_bt {k j n c : Nat} {kk : Bool} {i : Nat} : ∀ {t : Tr}, t.okT j n c 5 → bt k (sl kk i t) ≤ Qb k t.ht
  | .num _, _ => Nat.le_refl _
  | .st _, _ => by unfold sl; split <;> exact Nat.le_refl _
  | .cn _, _ => by unfold sl; split <;> exact Nat.le_refl _
  | .pw t e, ok => by
    have ih := sl_bt (k := k) (kk := kk) (i := i) ok.1
    have h1 := bt_Pb (k := k) ok.1
    have h2 := bs (k := k) (t := t) (c := sl kk i t) (m := e) ok.2
    show bt k (sp t e (sl kk i t)) ≤ 2 * Qb k t.ht + 6 * Pb k t.ht + k + 20
    omega
  | .bin o a b, ok => by
    have ih := sl_bt (k := k) (kk := kk) (i := i) ok.1
    have ih2 := sl_bt (k := k) (kk := kk) (i := i) ok.2
    have h1 := bt_Pb (k := k) ok.1
    have h2 := bt_Pb (k := k) ok.2
    have m1 : Pb k a.ht ≤ Pb k (max a.ht b.ht) := Pb_mono (Nat.le_max_left _ _)
    have m2 : Pb k b.ht ≤ Pb k (max a.ht b.ht) := Pb_mono (Nat.le_max_right _ _)
    have m3 : Qb k a.ht ≤ Qb k (max a.ht b.ht) := Qb_mono (Nat.le_max_left _ _)
    have m4 : Qb k b.ht ≤ Qb k (max a.ht b.ht) := Qb_mono (Nat.le_max_right _ _)
    have j1 := bj k (sl kk i a) (sl kk i b)
    have j2 := bk k (sl kk i a) (sl kk i b)
    have j3 := bp k (sl kk i a) b
    have j4 := bp k a (sl kk i b)
    have j5 := bj k (pd (sl kk i a) b) (pd a (sl kk i b))
    have j6 := bk k (pd (sl kk i a) b) (pd a (sl kk i b))
    have j7 := br k (tk (pd (sl kk i a) b) (pd a (sl kk i b))) (.pw b 2)
    have j8 : bt k (.pw b 2) = bt k b * 3 + 2 := rfl
    show _ ≤ 2 * Qb k (max a.ht b.ht) + 6 * Pb k (max a.ht b.ht) + k + 20
    cases o with
    | add => show bt k (jn _ _) ≤ _; omega
    | sub => show bt k (tk _ _) ≤ _; omega
    | mul => show bt k (jn _ _) ≤ _; omega
    | div => show bt k (ra _ _) ≤ _; omega
theorem oj {k n c m : Nat} {a b : Tr} (h1 : a.okT k n c m) (h2 : b.okT k n c m) : (jn a b).okT k n c m := by
  unfold jn
  split
  · exact h2
  · split
    · exact h1
    · exact ⟨h1, h2⟩
theorem ok_tk {k n c m : Nat} {a b : Tr} (h1 : a.okT k n c m) (h2 : b.okT k n c m) : (tk a b).okT k n c m := by
  unfold tk
  split
  · exact h1
  · exact ⟨h1, h2⟩
theorem op {k n c m : Nat} (hk : 1 ≤ k) {a b : Tr} (h1 : a.okT k n c m) (h2 : b.okT k n c m) : (pd a b).okT k n c m := by
  unfold pd
  split
  · exact sz_zero.mono hk
  · split
    · exact h2
    · split
      · exact h1
      · exact ⟨h1, h2⟩
theorem or {k n c m : Nat} (hk : 1 ≤ k) {a b : Tr} (h1 : a.okT k n c m) (h2 : b.okT k n c m) : (ra a b).okT k n c m := by
  unfold ra
  split
  · exact sz_zero.mono hk
  · split
    · exact h1
    · exact ⟨h1, h2⟩
theorem sl_ok {k n c : Nat} {kk : Bool} {i : Nat} (hk : 5 ≤ k) : ∀ {t : Tr}, t.okT k n c 5 → (sl kk i t).okT k n c 5
  | .num _, _ => sz_zero.mono (by omega)
  | .st _, _ => by unfold sl; split; exact sz_one.mono (by omega); exact sz_zero.mono (by omega)
  | .cn _, _ => by unfold sl; split; exact sz_one.mono (by omega); exact sz_zero.mono (by omega)
  | .pw t e, ok => by
    have ih := sl_ok (kk := kk) (i := i) hk ok.1
    have he : e < 5 := ok.2
    show (sp t e (sl kk i t)).okT k n c 5
    unfold sp
    split
    · exact sz_zero.mono (by omega)
    · split
      · exact ih
      · refine op (by omega) (op (by omega) ?_ ?_) ih
        · refine szq.mono (j := 5) ⟨?_, ?_⟩ hk
          · show sz 5 ((e : Nat) : Int)
            unfold sz; omega
          · show sz 5 1
            unfold sz; decide
        · unfold pb
          split
          · exact ok.1
          · exact ⟨ok.1, by omega⟩
  | .bin o a b, ok => by
    have ih := sl_ok (kk := kk) (i := i) hk ok.1
    have ih2 := sl_ok (kk := kk) (i := i) hk ok.2
    cases o with
    | add => exact oj ih ih2
    | sub => exact ok_tk ih ih2
    | mul => exact oj (op (by omega) ih ok.2) (op (by omega) ok.1 ih2)
    | div => exact or (by omega) (ok_tk (op (by omega) ih ok.2) (op (by omega) ok.1 ih2)) ⟨ok.2, by omega⟩
end
end K04
end
section
set_option Elab.async false
set_option linter.all false
set_option maxRecDepth 100000
set_option maxHeartbeats 1000000
namespace K04
open PySem MP
section
variable {d : Nat} {S : Sto}
/-- how far a growth's numbers may go -/
def gk (k : Nat) : Tr → Nat
  | .pw t m => bt k (.pw t m) + gk k t + 10
  | .bin _ a b => gk k a + gk k b + 4 * (bt k a + bt k b) + 10
  | _ => 1
theorem dop_ok {o : Bo} {x y α β : Rat} {A B a b : Int × Int} {j k l m : Nat} (h1 : Rl x A j) (h2 : Rl y B k) (h3 : Rl α a l) (h4 : Rl β b m) (hy : o = .div → y ≠ 0) : Rl (vop o x y α β) (dop o A B a b) (l + m + 4 * (j + k) + 10) := by
  have n1 := cast_nz h1.nz
  have n2 := cast_nz h2.nz
  have n3 := cast_nz h3.nz
  have n4 := cast_nz h4.nz
  have e1 := h1.eq
  have e2 := h2.eq
  have e3 := h3.eq
  have e4 := h4.eq
  cases o with
  | add =>
    refine ⟨Int.mul_ne_zero h3.nz h4.nz, ?_, ?_, (h3.s2.mul h4.s2).mono (by omega)⟩
    · show ((a.1 * b.2 + 1 * b.1 * a.2 : Int) : Rat) = (α + β) * ((a.2 * b.2 : Int) : Rat)
      push_cast
      grind
    · show sz _ (a.1 * b.2 + 1 * b.1 * a.2)
      rw [Int.one_mul]
      exact ((h3.s1.mul h4.s2).add ((h4.s1.mul h3.s2).mono (by omega))).mono (by omega)
  | sub =>
    refine ⟨Int.mul_ne_zero h3.nz h4.nz, ?_, ?_, (h3.s2.mul h4.s2).mono (by omega)⟩
    · show ((a.1 * b.2 + -1 * b.1 * a.2 : Int) : Rat) = (α - β) * ((a.2 * b.2 : Int) : Rat)
      push_cast
      grind
    · show sz _ (a.1 * b.2 + -1 * b.1 * a.2)
      rw [Int.neg_mul, Int.one_mul]
      exact ((h3.s1.mul h4.s2).add ((h4.s1.neg.mul h3.s2).mono (by omega))).mono (by omega)
  | mul =>
    refine ⟨Int.mul_ne_zero (Int.mul_ne_zero h3.nz h2.nz) (Int.mul_ne_zero h4.nz h1.nz), ?_, ?_, ((h3.s2.mul h2.s2).mul (h4.s2.mul h1.s2)).mono (by omega)⟩
    · show ((a.1 * B.1 * (b.2 * A.2) + 1 * (b.1 * A.1) * (a.2 * B.2) : Int) : Rat) = (α * y + x * β) * ((a.2 * B.2 * (b.2 * A.2) : Int) : Rat)
      push_cast
      rw [e1, e2, e3, e4]
      grind
    · show sz _ (a.1 * B.1 * (b.2 * A.2) + 1 * (b.1 * A.1) * (a.2 * B.2))
      rw [Int.one_mul]
      exact (((h3.s1.mul h2.s1).mul (h4.s2.mul h1.s2)).add (((h4.s1.mul h1.s1).mul (h3.s2.mul h2.s2)).mono (by omega))).mono (by omega)
  | div =>
    have hy := hy rfl
    have hB : B.1 ≠ 0 := fun z => hy (h2.zero.mp z)
    have g0 : sz (l + m + j + k + 1) (a.1 * B.1 * (b.2 * A.2) + -1 * (b.1 * A.1) * (a.2 * B.2)) := by
      rw [Int.neg_mul, Int.one_mul]
      exact (((h3.s1.mul h2.s1).mul (h4.s2.mul h1.s2)).add (((h4.s1.mul h1.s1).neg.mul (h3.s2.mul h2.s2)).mono (by omega))).mono (by omega)
    refine ⟨Int.mul_ne_zero (Int.mul_ne_zero (Int.mul_ne_zero (Int.mul_ne_zero h3.nz h2.nz) (Int.mul_ne_zero h4.nz h1.nz)) hB) hB, ?_, ((g0.mul h2.s2).mul h2.s2).mono (by omega), ((((h3.s2.mul h2.s2).mul (h4.s2.mul h1.s2)).mul h2.s1).mul h2.s1).mono (by omega)⟩
    show (((a.1 * B.1 * (b.2 * A.2) + -1 * (b.1 * A.1) * (a.2 * B.2)) * B.2 * B.2 : Int) : Rat) = ((α * y - x * β) / (y ^ 2)) * ((a.2 * B.2 * (b.2 * A.2) * B.1 * B.1 : Int) : Rat)
    push_cast
    rw [e1, e2, e3, e4, Rat.div_def]
    have i : (y ^ 2)⁻¹ * (y * y) = 1 := by
      have hz2 : y ^ 2 = y * y := by rw [show (2 : Nat) = 0 + 1 + 1 from rfl, Rat.pow_succ, Rat.pow_succ, Rat.pow_zero, Rat.one_mul]
      rw [hz2]
      exact Rat.inv_mul_cancel _ (fun e => by rcases Rat.mul_eq_zero.mp e with e | e <;> exact hy e)
    generalize (y ^ 2)⁻¹ = I at *
    have key : ∀ Z : Rat, Z = (I * (y * y)) * Z := fun Z => by rw [i, Rat.one_mul]
    rw [key (_ * _)]
    grind
/-- the growth stands for the derivative -/
theorem gr_ok {k n c m : Nat} {X C : Nat → Int × Int} {X' C' : Nat → Rat} {kk : Bool} {i : Nat} (hX : ∀ i, i < n → Rl (X' i) (X i) k) (hC : ∀ i, i < c → Rl (C' i) (C i) k) (hm5 : m ≤ 5) : ∀ {t : Tr} {x : Rat}, t.okT k n c m → vl X' C' t = some x → Rl (dv X' C' kk i t) (gr X C kk i t) (gk k t)
  | .num q, _, _, _ => ⟨by show (1 : Int) ≠ 0; decide, by show ((0 : Int) : Rat) = 0 * ((1 : Int) : Rat); rw [Rat.zero_mul]; rfl, by show sz 1 0; unfold sz; decide, by show sz 1 1; unfold sz; decide⟩
  | .st j, _, _, _ => by
    unfold dv gr
    by_cases h : kk = true ∧ j = i
    · rw [if_pos h, if_pos h]
      exact ⟨by decide, by show ((1 : Int) : Rat) = 1 * ((1 : Int) : Rat); rw [Rat.one_mul], by show sz 1 1; unfold sz; decide, by show sz 1 1; unfold sz; decide⟩
    · rw [if_neg h, if_neg h]
      exact ⟨by decide, by show ((0 : Int) : Rat) = 0 * ((1 : Int) : Rat); rw [Rat.zero_mul]; rfl, by show sz 1 0; unfold sz; decide, by show sz 1 1; unfold sz; decide⟩
  | .cn j, _, _, _ => by
    unfold dv gr
    by_cases h : kk = false ∧ j = i
    · rw [if_pos h, if_pos h]
      exact ⟨by decide, by show ((1 : Int) : Rat) = 1 * ((1 : Int) : Rat); rw [Rat.one_mul], by show sz 1 1; unfold sz; decide, by show sz 1 1; unfold sz; decide⟩
    · rw [if_neg h, if_neg h]
      exact ⟨by decide, by show ((0 : Int) : Rat) = 0 * ((1 : Int) : Rat); rw [Rat.zero_mul]; rfl, by show sz 1 0; unfold sz; decide, by show sz 1 1; unfold sz; decide⟩
  | .pw t e, x, ok, h => by
    rw [vl_pw] at h
    cases h1 : vl X' C' t with
    | none => rw [h1] at h; cases h
    | some y =>
      have ih := gr_ok (kk := kk) (i := i) hX hC hm5 ok.1 h1
      have he : e < m := ok.2
      unfold dv gr
      by_cases h0 : e = 0
      · rw [if_pos h0, if_pos h0]
        exact ⟨by decide, by show ((0 : Int) : Rat) = 0 * ((1 : Int) : Rat); rw [Rat.zero_mul]; rfl, by show sz _ 0; exact sz.mono (j := 1) (by unfold sz; decide) (by unfold gk; omega), by show sz _ 1; exact sz.mono (j := 1) (by unfold sz; decide) (by unfold gk; omega)⟩
      · rw [if_neg h0, if_neg h0]
        have lo := lv_ok hX hC (t := .pw t (e - 1)) (m := m) ⟨ok.1, by omega⟩
        rw [vl_pw, h1] at lo
        cases h2 : lv X C (.pw t (e - 1)) with
        | none => rw [h2] at lo; exact lo.elim
        | some p =>
          rw [h2] at lo
          have lo : Rl (y ^ (e - 1)) p (bt k t * (e - 1 + 1) + 2) := lo
          rw [h1]
          show Rl ((e : Rat) * y ^ (e - 1) * dv X' C' kk i t) ((e : Int) * p.1 * (gr X C kk i t).1, p.2 * (gr X C kk i t).2) (bt k t * (e + 1) + 2 + gk k t + 10)
          have e1 := lo.eq
          have e2 := ih.eq
          have le : bt k t * (e - 1 + 1) ≤ bt k t * (e + 1) := Nat.mul_le_mul_left _ (by omega)
          have se : sz 3 (e : Int) := by unfold sz; omega
          refine ⟨Int.mul_ne_zero lo.nz ih.nz, ?_, ((se.mul lo.s1).mul ih.s1).mono (by omega), (lo.s2.mul ih.s2).mono (by omega)⟩
          show (((e : Int) * p.1 * (gr X C kk i t).1 : Int) : Rat) = ((e : Rat) * y ^ (e - 1) * dv X' C' kk i t) * ((p.2 * (gr X C kk i t).2 : Int) : Rat)
          push_cast
          rw [e1, e2]
          grind
  | .bin o a b, x, ok, h => by
    rw [vl_bin] at h
    cases h1 : vl X' C' a with
    | none => rw [h1] at h; cases h
    | some y =>
      cases h2 : vl X' C' b with
      | none => rw [h1, h2] at h; cases h
      | some z =>
        rw [h1, h2] at h
        have ih := gr_ok (kk := kk) (i := i) hX hC hm5 ok.1 h1
        have ih2 := gr_ok (kk := kk) (i := i) hX hC hm5 ok.2 h2
        have lo := lv_ok hX hC ok.1
        have lo2 := lv_ok hX hC ok.2
        rw [h1] at lo
        rw [h2] at lo2
        cases h3 : lv X C a with
        | none => rw [h3] at lo; exact lo.elim
        | some p =>
          cases h4 : lv X C b with
          | none => rw [h4] at lo2; exact lo2.elim
          | some r =>
            rw [h3] at lo
            rw [h4] at lo2
            show Rl (vop o ((vl X' C' a).getD 0) ((vl X' C' b).getD 0) _ _) (dop o ((lv X C a).getD (0, 0)) ((lv X C b).getD (0, 0)) _ _) _
            rw [h1, h2, h3, h4]
            refine dop_ok (o := o) (show Rl y p (bt k a) from lo) (show Rl z r (bt k b) from lo2) ih ih2 fun e => ?_
            subst e
            intro e
            have h : (if z = 0 then none else some (y / z)) = some x := h
            rw [if_pos (show z = 0 from e)] at h
            cases h
theorem gk_ge (k : Nat) : ∀ t : Tr, 1 ≤ gk k t
  | .num _ => Nat.le_refl _
  | .st _ => Nat.le_refl _
  | .cn _ => Nat.le_refl _
  | .pw t m => by unfold gk; omega
  | .bin o a b => by unfold gk; omega
/-- _law_grown -/
theorem r_grown {L k n c m : Nat} {X C : Nat → Int × Int} {xv cv : PV} {kk : Bool} {i : Nat} (hL : L + 728 ≤ 134217728) (hm5 : m ≤ 5) {X' C' : Nat → Rat} (hX : ∀ i, i < n → Rl (X' i) (X i) k) (hC : ∀ i, i < c → Rl (C' i) (C i) k) (ix : ∀ i S, i < n → ixV S xv (.int (i : Nat)) = some (pr (X i).1 (X i).2)) (ic : ∀ i S, i < c → ixV S cv (.int (i : Nat)) = some (pr (C i).1 (C i).2)) :
    ∀ (t : Tr) (e : Nat) (S : Sto) (x : Rat), t.ht + 2 ≤ e → t.okT k n c m → gk k t + bt k t ≤ L → vl X' C' t = some x → callN F e n__law_grown [t.tv, xv, cv, .str (kd kk), .int i] S = .ok (.tup [opp (lv X C t), pr (gr X C kk i t).1 (gr X C kk i t).2]) S := by
  have hv := r_law_value (L := L) (k := k) (m := m) (xv := xv) (cv := cv) hL (by omega) hX hC ix ic
  have opure : ∀ o : Option (Int × Int), (opp o).pure = true := fun o => by cases o <;> rfl
  intro t
  induction t with
  | num q =>
    intro e S x he ok hb h
    obtain ⟨d, rfl⟩ : ∃ d, e = d + 1 := ⟨e - 1, by omega⟩
    exact G_other (.inl rfl) (hv _ d _ (by have : (Tr.num q).ht = 0 := rfl; omega) ok (by omega)) (opure _)
  | st j =>
    intro e S x he ok hb h
    obtain ⟨d, rfl⟩ : ∃ d, e = d + 1 := ⟨e - 1, by omega⟩
    have z := hv (.st j) d ⟨S.cells, false⟩ (by have : (Tr.st j).ht = 0 := rfl; omega) ok (by omega)
    cases kk with
    | false => exact G_other (.inr rfl) z (opure _)
    | true =>
      refine (G_leaf (k := true) (i := (j : Int)) (n := (i : Int)) z (opure _)).trans ?_
      have e1 : (gr X C true i (.st j)) = (if (j : Int) = i then 1 else 0, 1) := by
        unfold gr
        by_cases q : j = i
        · subst q; rw [if_pos ⟨rfl, rfl⟩, if_pos rfl]
        · rw [if_neg (fun w => q w.2), if_neg (fun w => q (by omega))]
      rw [e1]
  | cn j =>
    intro e S x he ok hb h
    obtain ⟨d, rfl⟩ : ∃ d, e = d + 1 := ⟨e - 1, by omega⟩
    have z := hv (.cn j) d ⟨S.cells, false⟩ (by have : (Tr.cn j).ht = 0 := rfl; omega) ok (by omega)
    cases kk with
    | true => exact G_other (.inr rfl) z (opure _)
    | false =>
      refine (G_leaf (k := false) (i := (j : Int)) (n := (i : Int)) z (opure _)).trans ?_
      have e1 : (gr X C false i (.cn j)) = (if (j : Int) = i then 1 else 0, 1) := by
        unfold gr
        by_cases q : j = i
        · subst q; rw [if_pos ⟨rfl, rfl⟩, if_pos rfl]
        · rw [if_neg (fun w => q w.2), if_neg (fun w => q (by omega))]
      rw [e1]
  | pw t e0 iht =>
    intro e S x he ok hb h
    have hh : (Tr.pw t e0).ht = t.ht + 1 := rfl
    obtain ⟨d, rfl⟩ : ∃ d, e = d + 1 := ⟨e - 1, by omega⟩
    have hbt : bt k (.pw t e0) = bt k t * (e0 + 1) + 2 := rfl
    have hgk : gk k (.pw t e0) = bt k (.pw t e0) + gk k t + 10 := rfl
    have l1 : bt k t ≤ bt k t * (e0 + 1) := Nat.le_mul_of_pos_right _ (by omega)
    have hv1 := hv (.pw t e0) d ⟨S.cells, false⟩ (by omega) ok (by omega)
    rw [vl_pw] at h
    cases h1 : vl X' C' t with
    | none => rw [h1] at h; cases h
    | some y =>
      have ih := iht d ⟨S.cells, false⟩ y (by omega) ok.1 (by omega) h1
      have go := gr_ok (kk := kk) (i := i) hX hC hm5 ok.1 h1
      by_cases h0 : e0 = 0
      · subst h0
        exact G_pow0 (kd_or kk) hv1 (opure _) ih
      · have he : e0 < m := ok.2
        have lo := lv_ok hX hC (t := .pw t (e0 - 1)) (m := m) ⟨ok.1, by omega⟩
        have le : bt k t * (e0 - 1 + 1) ≤ bt k t * (e0 + 1) := Nat.mul_le_mul_left _ (by omega)
        have hb2 : bt k (.pw t (e0 - 1)) = bt k t * (e0 - 1 + 1) + 2 := rfl
        have hv2 := hv (.pw t (e0 - 1)) d ⟨S.cells, false⟩ (by have : (Tr.pw t (e0 - 1)).ht = t.ht + 1 := rfl; omega) ⟨ok.1, by omega⟩ (by omega)
        rw [vl_pw, h1] at lo
        cases h2 : lv X C (.pw t (e0 - 1)) with
        | none => rw [h2] at lo; exact lo.elim
        | some p =>
          rw [h2] at lo hv2
          have lo : Rl (y ^ (e0 - 1)) p (bt k t * (e0 - 1 + 1) + 2) := lo
          have se : sz 3 (e0 : Int) := by unfold sz; omega
          have ec : ((e0 - 1 : Nat) : Int) = (e0 : Int) - 1 := by omega
          have hv2 : callN F d n__law_value [.tup [.str "pow", t.tv, .int ((e0 : Int) - 1)], xv, cv] ⟨S.cells, false⟩ = .ok (.tup [.int p.1, .int p.2]) ⟨S.cells, false⟩ := by
            rw [← ec]; exact hv2
          have e1 : gr X C kk i (.pw t e0) = ((e0 : Int) * p.1 * (gr X C kk i t).1, p.2 * (gr X C kk i t).2) := by
            show (if e0 = 0 then (0, 1) else _) = _
            rw [if_neg h0, h2]
            rfl
          rw [e1]
          exact G_pow (kd_or kk) (by omega) hv1 (opure _) ih hv2 (mulOk_of se lo.s1 (by omega)) (mulOk_of (se.mul lo.s1) go.s1 (by omega)) (mulOk_of lo.s2 go.s2 (by omega))
  | bin o a b iha ihb =>
    intro e S x he ok hb h
    have hh : (Tr.bin o a b).ht = max a.ht b.ht + 1 := rfl
    obtain ⟨d, rfl⟩ : ∃ d, e = d + 1 := ⟨e - 1, by omega⟩
    have hbt : bt k (.bin o a b) = bt k a + bt k b + 2 := rfl
    have hgk : gk k (.bin o a b) = gk k a + gk k b + 4 * (bt k a + bt k b) + 10 := rfl
    have hv1 := hv (.bin o a b) d ⟨S.cells, false⟩ (by omega) ok (by omega)
    rw [vl_bin] at h
    cases h1 : vl X' C' a with
    | none => rw [h1] at h; cases h
    | some y =>
      cases h2 : vl X' C' b with
      | none => rw [h1, h2] at h; cases h
      | some z =>
        rw [h1, h2] at h
        have ih := iha d ⟨S.cells, false⟩ y (by omega) ok.1 (by omega) h1
        have ih2 := ihb d ⟨S.cells, false⟩ z (by omega) ok.2 (by omega) h2
        have go := gr_ok (kk := kk) (i := i) hX hC hm5 ok.1 h1
        have go2 := gr_ok (kk := kk) (i := i) hX hC hm5 ok.2 h2
        have lo := lv_ok hX hC ok.1
        have lo2 := lv_ok hX hC ok.2
        rw [h1] at lo
        rw [h2] at lo2
        cases h3 : lv X C a with
        | none => rw [h3] at lo; exact lo.elim
        | some A =>
          cases h4 : lv X C b with
          | none => rw [h4] at lo2; exact lo2.elim
          | some B =>
            rw [h3] at lo ih
            rw [h4] at lo2 ih2
            have lo : Rl y A (bt k a) := lo
            have lo2 : Rl z B (bt k b) := lo2
            have e1 : gr X C kk i (.bin o a b) = dop o A B (gr X C kk i a) (gr X C kk i b) := by
              show dop o ((lv X C a).getD (0, 0)) ((lv X C b).getD (0, 0)) _ _ = _
              rw [h3, h4]
              rfl
            rw [e1]
            generalize gr X C kk i a = ga at *
            generalize gr X C kk i b = gb at *
            have one : ∀ q : Int, mulOk 1 q = true := fun q => mulOk_l (by unfold sz; decide)
            have mone : ∀ q : Int, mulOk (-1) q = true := fun q => mulOk_l (by unfold sz; decide)
            cases o with
            | add => exact G_add (kd_or kk) hv1 (opure _) ih ih2 (mulOk_of go.s1 go2.s2 (by omega)) (one _) (mulOk_of go2.s1 go.s2 (by omega)) (mulOk_of go.s2 go2.s2 (by omega))
            | sub => exact G_sub (kd_or kk) hv1 (opure _) ih ih2 (mulOk_of go.s1 go2.s2 (by omega)) (mone _) (mulOk_of go2.s1.neg go.s2 (by omega)) (mulOk_of go.s2 go2.s2 (by omega))
            | mul => exact G_mul (kd_or kk) hv1 (opure _) ih ih2 (mulOk_of go.s1 lo2.s1 (by omega)) (mulOk_of go.s2 lo2.s2 (by omega)) (mulOk_of go2.s1 lo.s1 (by omega)) (mulOk_of go2.s2 lo.s2 (by omega)) (mulOk_of (go.s1.mul lo2.s1) (go2.s2.mul lo.s2) (by omega)) (one _) (mulOk_of (go2.s1.mul lo.s1) (go.s2.mul lo2.s2) (by omega)) (mulOk_of (go.s2.mul lo2.s2) (go2.s2.mul lo.s2) (by omega))
            | div =>
              have g0 : sz (gk k a + gk k b + bt k a + bt k b + 1) (ga.1 * B.1 * (gb.2 * A.2) + -1 * (gb.1 * A.1) * (ga.2 * B.2)) := by
                rw [Int.neg_mul, Int.one_mul]
                exact (((go.s1.mul lo2.s1).mul (go2.s2.mul lo.s2)).add (((go2.s1.mul lo.s1).neg.mul (go.s2.mul lo2.s2)).mono (by omega))).mono (by omega)
              have g1 := (go.s2.mul lo2.s2).mul (go2.s2.mul lo.s2)
              exact G_div (kd_or kk) hv1 (opure _) ih ih2 (mulOk_of go.s1 lo2.s1 (by omega)) (mulOk_of go.s2 lo2.s2 (by omega)) (mulOk_of go2.s1 lo.s1 (by omega)) (mulOk_of go2.s2 lo.s2 (by omega)) (mulOk_of (go.s1.mul lo2.s1) (go2.s2.mul lo.s2) (by omega)) (mone _) (mulOk_of (go2.s1.mul lo.s1).neg (go.s2.mul lo2.s2) (by omega)) (mulOk_of (go.s2.mul lo2.s2) (go2.s2.mul lo.s2) (by omega)) rfl rfl (mulOk_of g0 lo2.s2 (by omega)) (mulOk_of (g0.mul lo2.s2) lo2.s2 (by omega)) (mulOk_of g1 lo2.s1 (by omega)) (mulOk_of (g1.mul lo2.s1) lo2.s1 (by omega))
def gP (k : Nat) : Nat → Nat
  | 0 => 1
  | h + 1 => 2 * gP k h + 8 * Pb k h + 12
theorem gP_mono {k h j : Nat} (l : h ≤ j) : gP k h ≤ gP k j := by
  induction l with
  | refl => exact Nat.le_refl _
  | step _ ih => rw [gP]; omega
theorem gk_gP {k j n c : Nat} : ∀ {t : Tr}, t.okT j n c 5 → gk k t ≤ gP k t.ht
  | .num _, _ => Nat.le_refl _
  | .st _, _ => Nat.le_refl _
  | .cn _, _ => Nat.le_refl _
  | .pw t e, ok => by
    have ih := gk_gP (k := k) ok.1
    have h1 := bt_Pb (k := k) ok.1
    have he : e < 5 := ok.2
    have l : bt k t * (e + 1) ≤ bt k t * 5 := Nat.mul_le_mul_left _ (by omega)
    show bt k t * (e + 1) + 2 + gk k t + 10 ≤ 2 * gP k t.ht + 8 * Pb k t.ht + 12
    omega
  | .bin o a b, ok => by
    have ih := gk_gP (k := k) ok.1
    have ih2 := gk_gP (k := k) ok.2
    have h1 := bt_Pb (k := k) ok.1
    have h2 := bt_Pb (k := k) ok.2
    have m1 : Pb k a.ht ≤ Pb k (max a.ht b.ht) := Pb_mono (Nat.le_max_left _ _)
    have m2 : Pb k b.ht ≤ Pb k (max a.ht b.ht) := Pb_mono (Nat.le_max_right _ _)
    have m3 : gP k a.ht ≤ gP k (max a.ht b.ht) := gP_mono (Nat.le_max_left _ _)
    have m4 : gP k b.ht ≤ gP k (max a.ht b.ht) := gP_mono (Nat.le_max_right _ _)
    show gk k a + gk k b + 4 * (bt k a + bt k b) + 10 ≤ 2 * gP k (max a.ht b.ht) + 8 * Pb k (max a.ht b.ht) + 12
    omega
end
end K04
end
section
set_option Elab.async false
set_option linter.all false
set_option maxRecDepth 100000
set_option maxHeartbeats 1000000
namespace K04
open PySem MP
theorem cut4a {α : Type} {a b c e : α} : cut [a, b, c, e] none (some 2) = [a, b] := rfl
theorem cut4b {α : Type} {a b c e : α} : cut [a, b, c, e] (some 2) none = [c, e] := rfl
theorem eqV_bl {S : Sto} {a b : Bool} : eqV S (.bl a) (.bl b) = some (a == b) := by
  unfold eqV
  simp only [toDS, PV.toD]
  have z : ∀ b : Bool, shaped (.bool b) = true := fun _ => rfl
  rw [z, z]
  show some ((PyData.bool a).eqv (.bool b)) = _
  congr 1
abbrev V (sc tr xs cs du : PV) (o6 o7 o8 o9 o10 o11 : Option PV) : MP.Env := [some sc, some (.ref 0), some tr, some xs, some cs, some du, o6, o7, o8, o9, o10, o11, none, none, none, none, none]
section
variable {C : Nat → List PV → Sto → MP.R PV} {S : Sto} {sc tr xs cs du kv : PV} {o6 o7 o8 o9 o10 o11 : Option PV} {most j : Int} {p : Bool}
theorem many_step (hk : (kv = .str "state" ∧ C n_fits [tr, .int j, .int 2] S = .ok (.bl p) S) ∨ kv = .str "const" ∧ C n_fits [tr, .int 2, .int j] S = .ok (.bl p) S) (hp : p = decide (most ≤ j)) :
    xss C 0 bk_law_0 (V sc tr xs cs du (some kv) (some (.int most)) (some (.int j)) o9 o10 o11) S = .next (V sc tr xs cs du (some kv) (some (.int most)) (some (.int j)) o9 (some (.bl p)) o11) S := by
  unfold V
  rcases hk with ⟨rfl, h⟩ | ⟨rfl, h⟩
  · simp [bk_law_0, bd_ok, bd_exc, st_ok, st_exc, xss_cons, xss_nil, seq_next, seq_ret, seq_brk, seq_cont, seq_exc, eqV_int, xst, ev, evT, evs, evo, evc, evi, itemAt, MP.placeOf, bindT, bindTs, unslot, hold, unhold, subR, freeze, ix_tup, ix_lst, ix_r, cm_eq, cm_ne, cm_lt, cm_le, cm_gt, cm_ge, cm_isn, cm_nisn, cm_isb, cm_inn, cm_nin, op_ad, op_sb, op_ml, op_dv, op_md, op_pw, op_sl, op_as, op_at, op_mt, op_al, bi_abs, bi_int, bi_intb, bi_ints, bi_lent, bi_lenl, bi_lenr, bi_lens, bi_listt, bi_listl, bi_tupt, bi_tupl, bi_tupr, bi_gcd, bi_max, bi_min, bi_str, bi_sum, bi_all, bi_any, tr_non, tr_bl, tr_int, tr_tup, tr_lst, ty_nt, ty_tt, ty_ti, ty_ii, ty_it, ty_is, sl_tup, sl_lst, sq_tup, sq_lst, ls_lst, th_lst, wk_tup, wk_lst, opt_some, eqV_non, es_num_num, es_num_state, es_num_const, es_num_pow, es_num_add, es_num_sub, es_num_mul, es_num_div, es_state_num, es_state_state, es_state_const, es_state_pow, es_state_add, es_state_sub, es_state_mul, es_state_div, es_const_num, es_const_state, es_const_const, es_const_pow, es_const_add, es_const_sub, es_const_mul, es_const_div, es_pow_num, es_pow_state, es_pow_const, es_pow_pow, es_pow_add, es_pow_sub, es_pow_mul, es_pow_div, es_add_num, es_add_state, es_add_const, es_add_pow, es_add_add, es_add_sub, es_add_mul, es_add_div, es_sub_num, es_sub_state, es_sub_const, es_sub_pow, es_sub_add, es_sub_sub, es_sub_mul, es_sub_div, es_mul_num, es_mul_state, es_mul_const, es_mul_pow, es_mul_add, es_mul_sub, es_mul_mul, es_mul_div, es_div_num, es_div_state, es_div_const, es_div_pow, es_div_add, es_div_sub, es_div_mul, es_div_div, ip_num, ip_state, ip_const, ip_pow, ip_add, ip_sub, ip_mul, ip_div, il_num, il_state, il_const, il_pow, il_add, il_sub, il_mul, il_div, it_num, it_state, it_const, it_pow, it_add, it_sub, it_mul, it_div, h, eqV_bl, ← hp]
  · simp [bk_law_0, bd_ok, bd_exc, st_ok, st_exc, xss_cons, xss_nil, seq_next, seq_ret, seq_brk, seq_cont, seq_exc, eqV_int, xst, ev, evT, evs, evo, evc, evi, itemAt, MP.placeOf, bindT, bindTs, unslot, hold, unhold, subR, freeze, ix_tup, ix_lst, ix_r, cm_eq, cm_ne, cm_lt, cm_le, cm_gt, cm_ge, cm_isn, cm_nisn, cm_isb, cm_inn, cm_nin, op_ad, op_sb, op_ml, op_dv, op_md, op_pw, op_sl, op_as, op_at, op_mt, op_al, bi_abs, bi_int, bi_intb, bi_ints, bi_lent, bi_lenl, bi_lenr, bi_lens, bi_listt, bi_listl, bi_tupt, bi_tupl, bi_tupr, bi_gcd, bi_max, bi_min, bi_str, bi_sum, bi_all, bi_any, tr_non, tr_bl, tr_int, tr_tup, tr_lst, ty_nt, ty_tt, ty_ti, ty_ii, ty_it, ty_is, sl_tup, sl_lst, sq_tup, sq_lst, ls_lst, th_lst, wk_tup, wk_lst, opt_some, eqV_non, es_num_num, es_num_state, es_num_const, es_num_pow, es_num_add, es_num_sub, es_num_mul, es_num_div, es_state_num, es_state_state, es_state_const, es_state_pow, es_state_add, es_state_sub, es_state_mul, es_state_div, es_const_num, es_const_state, es_const_const, es_const_pow, es_const_add, es_const_sub, es_const_mul, es_const_div, es_pow_num, es_pow_state, es_pow_const, es_pow_pow, es_pow_add, es_pow_sub, es_pow_mul, es_pow_div, es_add_num, es_add_state, es_add_const, es_add_pow, es_add_add, es_add_sub, es_add_mul, es_add_div, es_sub_num, es_sub_state, es_sub_const, es_sub_pow, es_sub_add, es_sub_sub, es_sub_mul, es_sub_div, es_mul_num, es_mul_state, es_mul_const, es_mul_pow, es_mul_add, es_mul_sub, es_mul_mul, es_mul_div, es_div_num, es_div_state, es_div_const, es_div_pow, es_div_add, es_div_sub, es_div_mul, es_div_div, ip_num, ip_state, ip_const, ip_pow, ip_add, ip_sub, ip_mul, ip_div, il_num, il_state, il_const, il_pow, il_add, il_sub, il_mul, il_div, it_num, it_state, it_const, it_pow, it_add, it_sub, it_mul, it_div, h, eqV_bl, ← hp]
theorem index_step {y t h g : PV} (h1 : C n_slope [tr, kv, .int j] S = .ok y S) (h2 : C n__law_slope [tr, kv, .int j] S = .ok y S) (he : eqV S y y = some true) (hd : du = .non ∨ (¬ du = .non) ∧ C n__law_told [y, xs, cs] S = .ok t S ∧ C n__law_grown [tr, xs, cs, kv, .int j] S = .ok (.tup [h, g]) S ∧ C n__law_agrees [t, g] S = .ok (.bl true) S) :
    xss C 0 bk_law_1 (V sc tr xs cs du (some kv) o7 o8 (some (.int j)) o10 o11) S = .next (V sc tr xs cs du (some kv) o7 o8 (some (.int j)) o10 (some y)) S := by
  unfold V
  rcases hd with rfl | ⟨hn, h3, h4, h5⟩
  · simp [bk_law_1, bd_ok, bd_exc, st_ok, st_exc, xss_cons, xss_nil, seq_next, seq_ret, seq_brk, seq_cont, seq_exc, eqV_int, xst, ev, evT, evs, evo, evc, evi, itemAt, MP.placeOf, bindT, bindTs, unslot, hold, unhold, subR, freeze, ix_tup, ix_lst, ix_r, cm_eq, cm_ne, cm_lt, cm_le, cm_gt, cm_ge, cm_isn, cm_nisn, cm_isb, cm_inn, cm_nin, op_ad, op_sb, op_ml, op_dv, op_md, op_pw, op_sl, op_as, op_at, op_mt, op_al, bi_abs, bi_int, bi_intb, bi_ints, bi_lent, bi_lenl, bi_lenr, bi_lens, bi_listt, bi_listl, bi_tupt, bi_tupl, bi_tupr, bi_gcd, bi_max, bi_min, bi_str, bi_sum, bi_all, bi_any, tr_non, tr_bl, tr_int, tr_tup, tr_lst, ty_nt, ty_tt, ty_ti, ty_ii, ty_it, ty_is, sl_tup, sl_lst, sq_tup, sq_lst, ls_lst, th_lst, wk_tup, wk_lst, opt_some, eqV_non, h1, h2, he]
  · simp [bk_law_1, bd_ok, bd_exc, st_ok, st_exc, xss_cons, xss_nil, seq_next, seq_ret, seq_brk, seq_cont, seq_exc, eqV_int, xst, ev, evT, evs, evo, evc, evi, itemAt, MP.placeOf, bindT, bindTs, unslot, hold, unhold, subR, freeze, ix_tup, ix_lst, ix_r, cm_eq, cm_ne, cm_lt, cm_le, cm_gt, cm_ge, cm_isn, cm_nisn, cm_isb, cm_inn, cm_nin, op_ad, op_sb, op_ml, op_dv, op_md, op_pw, op_sl, op_as, op_at, op_mt, op_al, bi_abs, bi_int, bi_intb, bi_ints, bi_lent, bi_lenl, bi_lenr, bi_lens, bi_listt, bi_listl, bi_tupt, bi_tupl, bi_tupr, bi_gcd, bi_max, bi_min, bi_str, bi_sum, bi_all, bi_any, tr_non, tr_bl, tr_int, tr_tup, tr_lst, ty_nt, ty_tt, ty_ti, ty_ii, ty_it, ty_is, sl_tup, sl_lst, sq_tup, sq_lst, ls_lst, th_lst, wk_tup, wk_lst, opt_some, eqV_non, h1, h2, he, hn, h3, h4, h5]
theorem kind_step (hm : C n__law_most [tr, kv] S = .ok (.int most) S) (h0 : ∀ j : Nat, j < 3 → ∃ p, ((kv = .str "state" ∧ C n_fits [tr, .int (j : Int), .int 2] S = .ok (.bl p) S) ∨ kv = .str "const" ∧ C n_fits [tr, .int 2, .int (j : Int)] S = .ok (.bl p) S) ∧ p = decide (most ≤ j))
    (h1 : ∀ j : Nat, j < 2 → ∃ y t h g, C n_slope [tr, kv, .int (j : Int)] S = .ok y S ∧ C n__law_slope [tr, kv, .int (j : Int)] S = .ok y S ∧ eqV S y y = some true ∧ (du = .non ∨ (¬ du = .non) ∧ C n__law_told [y, xs, cs] S = .ok t S ∧ C n__law_grown [tr, xs, cs, kv, .int (j : Int)] S = .ok (.tup [h, g]) S ∧ C n__law_agrees [t, g] S = .ok (.bl true) S)) :
    ∃ o7' o8' o9' o10' o11', xss C 0 bk_law_2 (V sc tr xs cs du (some kv) o7 o8 o9 o10 o11) S = .next (V sc tr xs cs du (some kv) o7' o8' o9' o10' o11') S := by
  obtain ⟨σ1, S1, lp1, o8', o10', hσ1, hS1⟩ := for_rng (C := C) (b := 0) (t := .name 8) (e := .cst (.int 3)) (p := bk_law_0) (n := 3) (P := fun i σ S' => ∃ o8 o10, σ = V sc tr xs cs du (some kv) (some (.int most)) o8 o9 o10 o11 ∧ S' = S)
    (σ := V sc tr xs cs du (some kv) (some (.int most)) o8 o9 o10 o11) (S := S) (by rw [ev]; rfl) (by omega) ⟨_, _, rfl, rfl⟩ (fun j σ S' hj ⟨o8, o10, e1, e2⟩ => by
      subst e1; subst e2
      obtain ⟨p, hk, hp⟩ := h0 j hj
      exact ⟨_, _, _, rfl, many_step hk hp, _, _, rfl, rfl⟩)
  obtain ⟨σ2, S2, lp2, o9', o11', hσ2, hS2⟩ := for_rng (C := C) (b := 0) (t := .name 9) (e := .cst (.int 2)) (p := bk_law_1) (n := 2) (P := fun i σ S' => ∃ o9 o11, σ = V sc tr xs cs du (some kv) (some (.int most)) o8' o9 o10' o11 ∧ S' = S)
    (σ := V sc tr xs cs du (some kv) (some (.int most)) o8' o9 o10' o11) (S := S) (by rw [ev]; rfl) (by omega) ⟨_, _, rfl, rfl⟩ (fun j σ S' hj ⟨o9, o11, e1, e2⟩ => by
      subst e1; subst e2
      obtain ⟨y, t, h, g, a1, a2, a3, a4⟩ := h1 j hj
      exact ⟨_, _, _, rfl, index_step a1 a2 a3 a4, _, _, rfl, rfl⟩)
  rw [hσ1, hS1] at lp1
  rw [hσ2, hS2] at lp2
  refine ⟨some (.int most), o8', o9', o10', o11', ?_⟩
  unfold bk_law_2
  refine (xss_step (σ' := V sc tr xs cs du (some kv) (some (.int most)) o8 o9 o10 o11) (S' := S) (by unfold V; simp [bd_ok, bd_exc, st_ok, st_exc, xss_cons, xss_nil, seq_next, seq_ret, seq_brk, seq_cont, seq_exc, eqV_int, xst, ev, evT, evs, evo, evc, evi, itemAt, MP.placeOf, bindT, bindTs, unslot, hold, unhold, subR, freeze, ix_tup, ix_lst, ix_r, cm_eq, cm_ne, cm_lt, cm_le, cm_gt, cm_ge, cm_isn, cm_nisn, cm_isb, cm_inn, cm_nin, op_ad, op_sb, op_ml, op_dv, op_md, op_pw, op_sl, op_as, op_at, op_mt, op_al, bi_abs, bi_int, bi_intb, bi_ints, bi_lent, bi_lenl, bi_lenr, bi_lens, bi_listt, bi_listl, bi_tupt, bi_tupl, bi_tupr, bi_gcd, bi_max, bi_min, bi_str, bi_sum, bi_all, bi_any, tr_non, tr_bl, tr_int, tr_tup, tr_lst, ty_nt, ty_tt, ty_ti, ty_ii, ty_it, ty_is, sl_tup, sl_lst, sq_tup, sq_lst, ls_lst, th_lst, wk_tup, wk_lst, opt_some, eqV_non, hm])).trans ((xss_step lp1).trans ((xss_step lp2).trans xss_nil))
end
/-- what replaced gives, by values -/
theorem rp_vl {k : Nat} {X C : Nat → Rat} {Y Z : Nat → Tr} {A B : Nat → Rat} (hY : ∀ i, i < 2 → vl X C (Y i) = some (A i)) (hZ : ∀ i, i < 2 → vl X C (Z i) = some (B i)) : ∀ {t : Tr}, t.okT k 2 2 5 → vl X C (rp Y Z t) = vl A B t
  | .num _, _ => rfl
  | .st i, ok => hY i ok
  | .cn i, ok => hZ i ok
  | .pw t e, ok => by
    have ih := rp_vl hY hZ ok.1
    show vl X C (.pw (rp Y Z t) e) = _
    rw [vl_pw, vl_pw, ih]
  | .bin o a b, ok => by
    have ih := rp_vl hY hZ ok.1
    have ih2 := rp_vl hY hZ ok.2
    show vl X C (.bin o (rp Y Z a) (rp Y Z b)) = _
    rw [vl_bin, vl_bin, ih, ih2]
theorem rp_ok {Y Z : Nat → Tr} (hY : ∀ i, i < 2 → (Y i).okT 5 2 2 5 ∧ (Y i).ht ≤ 1) (hZ : ∀ i, i < 2 → (Z i).okT 5 2 2 5 ∧ (Z i).ht ≤ 1) : ∀ {t : Tr}, t.okT 5 2 2 5 → (rp Y Z t).okT 5 2 2 5 ∧ (rp Y Z t).ht ≤ t.ht + 1
  | .num _, ok => ⟨ok, Nat.zero_le _⟩
  | .st i, ok => ⟨(hY i ok).1, by have := (hY i ok).2; show (Y i).ht ≤ 0 + 1; omega⟩
  | .cn i, ok => ⟨(hZ i ok).1, by have := (hZ i ok).2; show (Z i).ht ≤ 0 + 1; omega⟩
  | .pw t e, ok => by
    have ih := rp_ok hY hZ ok.1
    exact ⟨⟨ih.1, ok.2⟩, by show (rp Y Z t).ht + 1 ≤ t.ht + 1 + 1; omega⟩
  | .bin o a b, ok => by
    have ih := rp_ok hY hZ ok.1
    have ih2 := rp_ok hY hZ ok.2
    exact ⟨⟨ih.1, ih2.1⟩, by show max (rp Y Z a).ht (rp Y Z b).ht + 1 ≤ max a.ht b.ht + 1 + 1; omega⟩
theorem size_pos : ∀ t : Tr, 1 ≤ sizeT t
  | .num _ => Int.le_refl _
  | .st _ => Int.le_refl _
  | .cn _ => Int.le_refl _
  | .pw t m => by have := size_pos t; show 1 ≤ 1 + sizeT t; omega
  | .bin o a b => by have := size_pos a; have := size_pos b; show 1 ≤ 1 + sizeT a + sizeT b; omega
theorem size_rp {Y Z : Nat → Tr} : ∀ t : Tr, sizeT t ≤ sizeT (rp Y Z t)
  | .num _ => Int.le_refl _
  | .st i => size_pos (Y i)
  | .cn i => size_pos (Z i)
  | .pw t m => by have := size_rp (Y := Y) (Z := Z) t; show 1 + sizeT t ≤ 1 + sizeT (rp Y Z t); omega
  | .bin o a b => by
    have := size_rp (Y := Y) (Z := Z) a
    have := size_rp (Y := Y) (Z := Z) b
    show 1 + sizeT a + sizeT b ≤ 1 + sizeT (rp Y Z a) + sizeT (rp Y Z b)
    omega
/-- four trees, drawn -/
theorem four {ns : List Int} {d : Nat} {σ : MP.Env} {u i w : Int} (hu : 0 ≤ u) (hi : 0 ≤ i) (hs : ∀ x, (bindT (.name 13) x (wipe σ [13])).bind (fun σ1 => σ1[1]?) = some (some (.ref 0))) : ∃ (t0 t1 t2 t3 : Tr) (u' i' w' : Int), ev (callN F (d + 20)) 0 (.lc (.name 13) [13] (.rng1 (.cst (.int 4))) .none (.call n__law_tree (.cons (.var 1) (.cons (.cst (.int 1)) .nil)))) σ (G ns u i w []) = .ok (.lst [t0.tv, t1.tv, t2.tv, t3.tv]) (G ns u' i' w' []) ∧
    (∀ t, t = t0 ∨ t = t1 ∨ t = t2 ∨ t = t3 → t.okT 5 2 2 5 ∧ t.ht ≤ 1) := by
  obtain ⟨t0, u0, i0, w0, e0, a0, b0, p0, q0⟩ := l_tree (ns := ns) 1 (d + 20) u i w [] (by omega) hu hi
  obtain ⟨t1, u1, i1, w1, e1, a1, b1, p1, q1⟩ := l_tree (ns := ns) 1 (d + 20) u0 i0 w0 [] (by omega) p0 q0
  obtain ⟨t2, u2, i2, w2, e2, a2, b2, p2, q2⟩ := l_tree (ns := ns) 1 (d + 20) u1 i1 w1 [] (by omega) p1 q1
  obtain ⟨t3, u3, i3, w3, e3, a3, b3, p3, q3⟩ := l_tree (ns := ns) 1 (d + 20) u2 i2 w2 [] (by omega) p2 q2
  refine ⟨t0, t1, t2, t3, u3, i3, w3, ?_, fun t h => ?_⟩
  · have el : ∀ (x : PV) (σ1 : MP.Env) (T : Sto) (r : MP.R PV), bindT (.name 13) x (wipe σ [13]) = some σ1 → callN F (d + 20) n__law_tree [.ref 0, .int 1] T = r → ev (callN F (d + 20)) 0 (.call n__law_tree (.cons (.var 1) (.cons (.cst (.int 1)) .nil))) σ1 T = r := fun x σ1 T r h1 h2 => by
      have z := hs x
      rw [h1] at z
      have z : σ1[1]? = some (some (.ref 0)) := z
      rw [ev, evs, ev, z]
      simp only [bd_ok, evs, ev]
      exact h2
    have bn : ∀ x, bindT (.name 13) x (wipe σ [13]) = some ((wipe σ [13]).set 13 (some x)) := fun x => by rw [bindT]
    refine ev_lc (w := (rngL 0 4, [])) (S1 := G ns u i w []) (evi_rng1 (n := 4) (by rw [ev]) (by decide)) ?_
    show lcLoop (fun S => stands S []) (fun x => bindT (.name 13) x (wipe σ [13])) (evc (callN F (d + 20)) 0 .none) (ev (callN F (d + 20)) 0 _) [.int (0 + (0 : Nat)), .int (0 + (1 : Nat)), .int (0 + (2 : Nat)), .int (0 + (3 : Nat))] [] (G ns u i w []) = _
    have stn : ∀ S, stands S [] = true := fun _ => rfl
    have lt : ∀ n : Nat, n < 4 → n < lenMax := fun n h => Nat.lt_trans h (by decide)
    unfold lcLoop
    rw [stn, if_pos rfl]
    simp only [bn, evc_none, bd_ok]
    rw [el _ _ _ _ (bn _) e0]
    simp only [bd_ok]
    rw [if_pos (lt _ (by simp))]
    unfold lcLoop
    rw [stn, if_pos rfl]
    simp only [bn, evc_none, bd_ok]
    rw [el _ _ _ _ (bn _) e1]
    simp only [bd_ok]
    rw [if_pos (lt _ (by simp))]
    unfold lcLoop
    rw [stn, if_pos rfl]
    simp only [bn, evc_none, bd_ok]
    rw [el _ _ _ _ (bn _) e2]
    simp only [bd_ok]
    rw [if_pos (lt _ (by simp))]
    unfold lcLoop
    rw [stn, if_pos rfl]
    simp only [bn, evc_none, bd_ok]
    rw [el _ _ _ _ (bn _) e3]
    simp only [bd_ok]
    rw [if_pos (lt _ (by simp))]
    unfold lcLoop
    rw [stn, if_pos rfl]
    rfl
  · rcases h with rfl | rfl | rfl | rfl
    · exact ⟨a0, b0⟩
    · exact ⟨a1, b1⟩
    · exact ⟨a2, b2⟩
    · exact ⟨a3, b3⟩
/-- what is drawn first -/
theorem first {ns : List Int} {d : Nat} : ∃ (t : Tr) (x0 x1 c0 c1 : Rat) (u i w : Int), t.okT 5 2 2 5 ∧ t.ht ≤ 3 ∧ szq 5 x0 ∧ szq 5 x1 ∧ szq 5 c0 ∧ szq 5 c1 ∧ 0 ≤ u ∧ 0 ≤ i ∧ ∀ ss, xss (callN F (d + 20)) 0 (.cons st_law_0 (.cons st_law_1 (.cons st_law_2 (.cons st_law_3 ss)))) ([PV.lst (ns.map .int)].map some ++ List.replicate (17 - 1) none) ⟨[], false⟩ =
    xss (callN F (d + 20)) 0 ss [some (.lst (ns.map .int)), some (.ref 0), some t.tv, some (.lst [fr x0, fr x1]), some (.lst [fr c0, fr c1]), none, none, none, none, none, none, none, none, none, none, none, none] (G ns u i w []) := by
  have s0 := c_state (d := d + 19) (ns := ns)
  obtain ⟨r, u1, i1, w1, e1, p1, p2, p3, p4⟩ := c_draw (d := d + 17) (ns := ns) (a := 0) (i := 0) (c := 1 + (ns.length : Int)) (m := 3) (tl := []) (by omega) (by omega) (by decide)
  obtain ⟨m, rfl⟩ := Int.eq_ofNat_of_zero_le p1
  obtain ⟨t, u2, i2, w2, e2, ok, hh, p5, p6⟩ := l_tree (ns := ns) (1 + m) (d + 20) u1 i1 w1 [] (by omega) p3 p4
  have e2 : callN F (d + 20) n__law_tree [.ref 0, .int (1 + (m : Int))] (G ns u1 i1 w1 []) = .ok t.tv (G ns u2 i2 w2 []) := by
    rw [← e2]
    congr 3
  obtain ⟨x0, u3, i3, w3, e3, z0, p7, p8⟩ := l_pair (d := d + 16) (ns := ns) (w := w2) (tl := []) p5 p6
  obtain ⟨x1, u4, i4, w4, e4, z1, p9, p10⟩ := l_pair (d := d + 16) (ns := ns) (w := w3) (tl := []) p7 p8
  obtain ⟨c0, u5, i5, w5, e5, z2, p11, p12⟩ := l_pair (d := d + 16) (ns := ns) (w := w4) (tl := []) p9 p10
  obtain ⟨r2, u6, i6, w6, e6, p13, p14, p15, p16⟩ := c_draw (d := d + 17) (ns := ns) (a := u5) (i := i5) (c := w5) (m := 3) (tl := []) p11 p12 (by decide)
  obtain ⟨c1, u7, i7, w7, e7, z3, p17, p18⟩ := l_pair (d := d + 16) (ns := ns) (w := w6) (tl := []) p15 p16
  by_cases h0 : r2 = 0
  · subst h0
    refine ⟨t, x0, x1, c0, 0, u6, i6, w6, ok, by omega, z0, z1, z2, sz_zero.mono (by decide), p15, p16, fun ss => ?_⟩
    rw [← fr_zero]
    simp [st_law_0, st_law_1, st_law_2, st_law_3, bd_ok, bd_exc, st_ok, st_exc, xss_cons, xss_nil, seq_next, seq_ret, seq_brk, seq_cont, seq_exc, eqV_int, xst, ev, evT, evs, evo, evc, evi, itemAt, MP.placeOf, bindT, bindTs, unslot, hold, unhold, subR, freeze, ix_tup, ix_lst, ix_r, cm_eq, cm_ne, cm_lt, cm_le, cm_gt, cm_ge, cm_isn, cm_nisn, cm_isb, cm_inn, cm_nin, op_ad, op_sb, op_ml, op_dv, op_md, op_pw, op_sl, op_as, op_at, op_mt, op_al, bi_abs, bi_int, bi_intb, bi_ints, bi_lent, bi_lenl, bi_lenr, bi_lens, bi_listt, bi_listl, bi_tupt, bi_tupl, bi_tupr, bi_gcd, bi_max, bi_min, bi_str, bi_sum, bi_all, bi_any, tr_non, tr_bl, tr_int, tr_tup, tr_lst, ty_nt, ty_tt, ty_ti, ty_ii, ty_it, ty_is, sl_tup, sl_lst, sq_tup, sq_lst, ls_lst, th_lst, wk_tup, wk_lst, opt_some, eqV_non, s0, e1, e2, e3, e4, e5, e6]
  · refine ⟨t, x0, x1, c0, c1, u7, i7, w7, ok, by omega, z0, z1, z2, z3, p17, p18, fun ss => ?_⟩
    simp [st_law_0, st_law_1, st_law_2, st_law_3, bd_ok, bd_exc, st_ok, st_exc, xss_cons, xss_nil, seq_next, seq_ret, seq_brk, seq_cont, seq_exc, eqV_int, xst, ev, evT, evs, evo, evc, evi, itemAt, MP.placeOf, bindT, bindTs, unslot, hold, unhold, subR, freeze, ix_tup, ix_lst, ix_r, cm_eq, cm_ne, cm_lt, cm_le, cm_gt, cm_ge, cm_isn, cm_nisn, cm_isb, cm_inn, cm_nin, op_ad, op_sb, op_ml, op_dv, op_md, op_pw, op_sl, op_as, op_at, op_mt, op_al, bi_abs, bi_int, bi_intb, bi_ints, bi_lent, bi_lenl, bi_lenr, bi_lens, bi_listt, bi_listl, bi_tupt, bi_tupl, bi_tupr, bi_gcd, bi_max, bi_min, bi_str, bi_sum, bi_all, bi_any, tr_non, tr_bl, tr_int, tr_tup, tr_lst, ty_nt, ty_tt, ty_ti, ty_ii, ty_it, ty_is, sl_tup, sl_lst, sq_tup, sq_lst, ls_lst, th_lst, wk_tup, wk_lst, opt_some, eqV_non, s0, e1, e2, e3, e4, e5, e6, e7, h0]
abbrev two {α : Type} (a b : α) : Nat → α := fun i => if i = 0 then a else b
theorem two_ix {a b : PV} {f : Nat → PV} (h0 : f 0 = a) (h1 : f 1 = b) : ∀ i S, i < 2 → ixV S (.lst [a, b]) (.int (i : Nat)) = some (f i) := by
  intro i S hi
  rw [ix_lst]
  have : i = 0 ∨ i = 1 := by omega
  rcases this with rfl | rfl
  · rw [h0]; rfl
  · rw [h1]; rfl
theorem two_all {α : Type} {P : α → Prop} {a b : α} (h1 : P a) (h2 : P b) : ∀ i, i < 2 → P (two a b i) := by
  intro i hi
  have : i = 0 ∨ i = 1 := by omega
  rcases this with rfl | rfl
  · exact h1
  · exact h2
abbrev nd (q : Rat) : Int × Int := (q.num, (q.den : Int))
theorem opp_non {o : Option (Int × Int)} : opp o = .non ↔ o = none := by
  cases o with
  | none => exact ⟨fun _ => rfl, fun _ => rfl⟩
  | some p => exact ⟨(fun h => nomatch h), (fun h => nomatch h)⟩
theorem main {ns : List Int} {d : Nat} : ∃ S', callN F (d + 21) n_law [.lst (ns.map .int)] ⟨[], false⟩ = .ok (.bl true) S' := by
  rw [callN_of (fd := ⟨1, 17, b_law⟩) rfl rfl]
  obtain ⟨t, x0, x1, c0, c1, u, i, w, ok, hh, z0, z1, z2, z3, hu, hi, pre⟩ := first (ns := ns) (d := d)
  generalize hsc : PV.lst (ns.map .int) = sc at *
  -- the values
  have hX : ∀ i, i < 2 → Rl (two x0 x1 i) (two (nd x0) (nd x1) i) 5 := fun i hi => by
    have : i = 0 ∨ i = 1 := by omega
    rcases this with rfl | rfl
    · exact Rl.fr x0 z0
    · exact Rl.fr x1 z1
  have hC : ∀ i, i < 2 → Rl (two c0 c1 i) (two (nd c0) (nd c1) i) 5 := fun i hi => by
    have : i = 0 ∨ i = 1 := by omega
    rcases this with rfl | rfl
    · exact Rl.fr c0 z2
    · exact Rl.fr c1 z3
  have sX : ∀ i, i < 2 → szq 5 (two x0 x1 i) := two_all z0 z1
  have sC : ∀ i, i < 2 → szq 5 (two c0 c1 i) := two_all z2 z3
  have ix : ∀ i S, i < 2 → ixV S (.lst [fr x0, fr x1]) (.int (i : Nat)) = some (fr (two x0 x1 i)) := two_ix (f := fun i => fr (two x0 x1 i)) rfl rfl
  have ic : ∀ i S, i < 2 → ixV S (.lst [fr c0, fr c1]) (.int (i : Nat)) = some (fr (two c0 c1 i)) := two_ix (f := fun i => fr (two c0 c1 i)) rfl rfl
  have ix' : ∀ i S, i < 2 → ixV S (.lst [fr x0, fr x1]) (.int (i : Nat)) = some (pr (two (nd x0) (nd x1) i).1 (two (nd x0) (nd x1) i).2) := two_ix (f := fun i => pr (two (nd x0) (nd x1) i).1 (two (nd x0) (nd x1) i).2) rfl rfl
  have ic' : ∀ i S, i < 2 → ixV S (.lst [fr c0, fr c1]) (.int (i : Nat)) = some (pr (two (nd c0) (nd c1) i).1 (two (nd c0) (nd c1) i).2) := two_ix (f := fun i => pr (two (nd c0) (nd c1) i).1 (two (nd c0) (nd c1) i).2) rfl rfl
  have hL : 100000 + 728 ≤ 134217728 := by decide
  have val := r_value (L := 100000) (k := 5) (n := 2) (c := 2) (m := 5) (xv := .lst [fr x0, fr x1]) (cv := .lst [fr c0, fr c1]) hL (by decide) sX sC ix ic
  have lval := r_law_value (L := 100000) (k := 5) (n := 2) (c := 2) (m := 5) (xv := .lst [fr x0, fr x1]) (cv := .lst [fr c0, fr c1]) hL (by decide) hX hC ix' ic'
  have bP : ∀ {s : Tr} {h : Nat}, s.okT 5 2 2 5 → s.ht ≤ h → h ≤ 4 → bt 5 s ≤ 3437 := fun {s h} o l1 l2 => Nat.le_trans (bt_Pb o) (Nat.le_trans (Pb_mono (Nat.le_trans l1 l2)) (by decide))
  have bt1 := bP ok hh (by omega)
  have due := lval t (d + 20) (G ns u i w []) (by omega) ok (by omega)
  have rel := lv_ok hX hC ok
  have vsz : ∀ q, vl (two x0 x1) (two c0 c1) t = some q → szq 3437 q := fun q h => (vl_sz sX sC ok h).mono bt1
  have told := r_told (d := d + 19) (S := G ns u i w []) (val t (d + 19) (by omega) ok (by omega))
  have agree := r_agrees (d := d + 18) (S := G ns u i w []) (w := lv (two (nd x0) (nd x1)) (two (nd c0) (nd c1)) t) (k := 3437) vsz (LR_of bt1 rel) (by decide)
  have sz1 := r_size t (d + 20) (G ns u i w []) (by omega)
  have sz2 := r_law_size t (d + 20) (G ns u i w []) (by omega)
  generalize hdu : lv (two (nd x0) (nd x1)) (two (nd c0) (nd c1)) t = du at *
  -- the kinds
  have kinds : ∀ (k : Bool) (o6 o7 o8 o9 o10 o11 : Option PV), ∃ o7' o8' o9' o10' o11', xss (callN F (d + 20)) 0 bk_law_2 (V sc t.tv (.lst [fr x0, fr x1]) (.lst [fr c0, fr c1]) (opp du) (some (.str (kd k))) o7 o8 o9 o10 o11) (G ns u i w []) = .next (V sc t.tv (.lst [fr x0, fr x1]) (.lst [fr c0, fr c1]) (opp du) (some (.str (kd k))) o7' o8' o9' o10' o11') (G ns u i w []) := fun k o6 o7 o8 o9 o10 o11 => by
    refine kind_step (r_most (k := k) t (d + 20) _ (by omega)) (fun j hj => ?_) fun j hj => ?_
    · cases k with
      | true => exact ⟨_, .inl ⟨rfl, r_fits (n := (j : Int)) (c := 2) t (d + 20) _ (by omega)⟩, (fits_st (c := 0) ok (by decide)).trans (decide_eq_decide.mpr (by omega))⟩
      | false => exact ⟨_, .inr ⟨rfl, r_fits (n := 2) (c := (j : Int)) t (d + 20) _ (by omega)⟩, (fits_cn (c := 0) ok (by decide)).trans (decide_eq_decide.mpr (by omega))⟩
    · have hs := sl_ht k j t
      have oks := sl_ok (kk := k) (i := j) (Nat.le_refl 5) ok
      have bs : bt 5 (sl k j t) ≤ 1481 := Nat.le_trans (sl_bt ok) (Nat.le_trans (Qb_mono hh) (by decide))
      have gs : gk 5 t ≤ 1780 := Nat.le_trans (gk_gP ok) (Nat.le_trans (gP_mono hh) (by decide))
      have t1 := r_told (d := d + 19) (S := G ns u i w []) (val (sl k j t) (d + 19) (by omega) oks (by omega))
      refine ⟨(sl k j t).tv, oq (vl (two x0 x1) (two c0 c1) (sl k j t)), opp du, pr (gr (two (nd x0) (nd x1)) (two (nd c0) (nd c1)) k j t).1 (gr (two (nd x0) (nd x1)) (two (nd c0) (nd c1)) k j t).2, r_slope t (d + 20) _ (by omega) (by omega), r_law_slope t (d + 20) _ (by omega) (by omega), ?_, ?_⟩
      · rw [eqT (by omega) (by omega), decide_eq_true rfl]
      · cases hd : du with
        | none => exact .inl rfl
        | some p =>
          right
          cases hv : vl (two x0 x1) (two c0 c1) t with
          | none => rw [hd, hv] at rel; exact rel.elim
          | some q =>
            have g1 := r_grown (L := 100000) (k := 5) (m := 5) (xv := .lst [fr x0, fr x1]) (cv := .lst [fr c0, fr c1]) (kk := k) (i := j) hL (by decide) hX hC ix' ic' t (d + 20) (G ns u i w []) q (by omega) ok (by omega) hv
            rw [hdu, hd] at g1
            refine ⟨(fun h => nomatch h), t1, g1, ?_⟩
            have go := gr_ok (kk := k) (i := j) hX hC (by decide) ok hv
            rw [sl_vl hv]
            exact r_agrees (d := d + 18) (t := some (dv (two x0 x1) (two c0 c1) k j t)) (w := some (gr (two (nd x0) (nd x1)) (two (nd c0) (nd c1)) k j t)) (j := 1481) (k := 1780) (fun q h => by
              cases h
              exact (vl_sz sX sC oks (sl_vl hv)).mono bs) (go.mono gs) (by decide)
  obtain ⟨f7, f8, f9, f10, f11, l1⟩ := kinds true none none none none none none
  obtain ⟨h7, h8, h9, h10, h11, l2⟩ := kinds false none f7 f8 f9 f10 f11
  -- the others
  obtain ⟨t0, t1, t2, t3, u', i', w', four1, foks⟩ := four (ns := ns) (d := d) (σ := V sc t.tv (.lst [fr x0, fr x1]) (.lst [fr c0, fr c1]) (opp du) (some (.str (kd false))) h7 h8 h9 h10 h11) (w := w) hu hi (fun x => rfl)
  have f0 := foks t0 (.inl rfl)
  have f1 := foks t1 (.inr (.inl rfl))
  have f2 := foks t2 (.inr (.inr (.inl rfl)))
  have f3 := foks t3 (.inr (.inr (.inr rfl)))
  have rep := r_replaced (k := 5) (m := 5) (n := 2) (c := 2) (X := two t0 t1) (C := two t2 t3) (xv := .lst [t0.tv, t1.tv]) (cv := .lst [t2.tv, t3.tv]) (two_ix (f := fun i => (two t0 t1 i).tv) rfl rfl) (two_ix (f := fun i => (two t2 t3 i).tv) rfl rfl) t (d + 20) (G ns u' i' w' []) (by omega) ok
  obtain ⟨okR, hR⟩ := rp_ok (Y := two t0 t1) (Z := two t2 t3) (two_all (P := fun (t : Tr) => t.okT 5 2 2 5 ∧ t.ht ≤ 1) f0 f1) (two_all (P := fun (t : Tr) => t.okT 5 2 2 5 ∧ t.ht ≤ 1) f2 f3) ok
  have szb := r_size (rp (two t0 t1) (two t2 t3) t) (d + 20) (G ns u' i' w' []) (by omega)
  have szt := r_size t (d + 20) (G ns u' i' w' []) (by omega)
  have toldb := r_told (d := d + 19) (S := G ns u' i' w' []) (val (rp (two t0 t1) (two t2 t3) t) (d + 19) (by omega) okR (Nat.le_trans (bP okR hR (by omega)) (by decide)))
  let W (s : Tr) : Option (Int × Int) := lv (two (nd x0) (nd x1)) (two (nd c0) (nd c1)) s
  have hW : ∀ s, s = t0 ∨ s = t1 ∨ s = t2 ∨ s = t3 → callN F (d + 20) n__law_value [s.tv, .lst [fr x0, fr x1], .lst [fr c0, fr c1]] (G ns u' i' w' []) = .ok (opp (W s)) (G ns u' i' w' []) := fun s hs =>
    lval s (d + 20) _ (by have := (foks s hs).2; omega) (foks s hs).1 (Nat.le_trans (bP (foks s hs).1 (foks s hs).2 (by omega)) (by decide))
  have vals : ev (callN F (d + 20)) 0 (.lc (.name 15) [15] (.seq (.var 12)) .none (.call n__law_value (.cons (.var 15) (.cons (.var 3) (.cons (.var 4) .nil))))) [some sc, some (.ref 0), some t.tv, some (.lst [fr x0, fr x1]), some (.lst [fr c0, fr c1]), some (opp du), some (.str (kd false)), h7, h8, h9, h10, h11, some (.lst [t0.tv, t1.tv, t2.tv, t3.tv]), none, none, none, none] (G ns u' i' w' []) =
      .ok (.lst [opp (W t0), opp (W t1), opp (W t2), opp (W t3)]) (G ns u' i' w' []) := by
    refine ev_lc (w := ([t0.tv, t1.tv, t2.tv, t3.tv], [])) (S1 := G ns u' i' w' []) (by simp [bd_ok, bd_exc, st_ok, st_exc, xss_cons, xss_nil, seq_next, seq_ret, seq_brk, seq_cont, seq_exc, eqV_int, xst, ev, evT, evs, evo, evc, evi, itemAt, MP.placeOf, bindT, bindTs, unslot, hold, unhold, subR, freeze, ix_tup, ix_lst, ix_r, cm_eq, cm_ne, cm_lt, cm_le, cm_gt, cm_ge, cm_isn, cm_nisn, cm_isb, cm_inn, cm_nin, op_ad, op_sb, op_ml, op_dv, op_md, op_pw, op_sl, op_as, op_at, op_mt, op_al, bi_abs, bi_int, bi_intb, bi_ints, bi_lent, bi_lenl, bi_lenr, bi_lens, bi_listt, bi_listl, bi_tupt, bi_tupl, bi_tupr, bi_gcd, bi_max, bi_min, bi_str, bi_sum, bi_all, bi_any, tr_non, tr_bl, tr_int, tr_tup, tr_lst, ty_nt, ty_tt, ty_ti, ty_ii, ty_it, ty_is, sl_tup, sl_lst, sq_tup, sq_lst, ls_lst, th_lst, wk_tup, wk_lst, opt_some, eqV_non]) ?_
    exact lcLoop_map (g := fun S => stands S []) (S := G ns u' i' w' []) rfl Tr.tv (fun s => opp (W s)) [t0, t1, t2, t3] [] (by show 4 ≤ lenMax; decide) fun s hs => by
      refine ⟨_, rfl, evc_none, ?_⟩
      have h := hW s (by simpa using hs)
      simp [bd_ok, bd_exc, st_ok, st_exc, xss_cons, xss_nil, seq_next, seq_ret, seq_brk, seq_cont, seq_exc, eqV_int, xst, ev, evT, evs, evo, evc, evi, itemAt, MP.placeOf, bindT, bindTs, unslot, hold, unhold, subR, freeze, ix_tup, ix_lst, ix_r, cm_eq, cm_ne, cm_lt, cm_le, cm_gt, cm_ge, cm_isn, cm_nisn, cm_isb, cm_inn, cm_nin, op_ad, op_sb, op_ml, op_dv, op_md, op_pw, op_sl, op_as, op_at, op_mt, op_al, bi_abs, bi_int, bi_intb, bi_ints, bi_lent, bi_lenl, bi_lenr, bi_lens, bi_listt, bi_listl, bi_tupt, bi_tupl, bi_tupr, bi_gcd, bi_max, bi_min, bi_str, bi_sum, bi_all, bi_any, tr_non, tr_bl, tr_int, tr_tup, tr_lst, ty_nt, ty_tt, ty_ti, ty_ii, ty_it, ty_is, sl_tup, sl_lst, sq_tup, sq_lst, ls_lst, th_lst, wk_tup, wk_lst, opt_some, eqV_non, wipe, h]
  -- the run
  unfold runF
  have R : ∃ S', xss (callN F (d + 20)) 0 b_law ([sc].map some ++ List.replicate (17 - 1) none) ⟨[], false⟩ = .ret (.bl true) S' := by
    unfold b_law
    rw [pre]
    rw [xss_step (σ' := V sc t.tv (.lst [fr x0, fr x1]) (.lst [fr c0, fr c1]) (opp du) none none none none none none) (S' := G ns u i w []) (by simp [st_law_4, bd_ok, bd_exc, st_ok, st_exc, xss_cons, xss_nil, seq_next, seq_ret, seq_brk, seq_cont, seq_exc, eqV_int, xst, ev, evT, evs, evo, evc, evi, itemAt, MP.placeOf, bindT, bindTs, unslot, hold, unhold, subR, freeze, ix_tup, ix_lst, ix_r, cm_eq, cm_ne, cm_lt, cm_le, cm_gt, cm_ge, cm_isn, cm_nisn, cm_isb, cm_inn, cm_nin, op_ad, op_sb, op_ml, op_dv, op_md, op_pw, op_sl, op_as, op_at, op_mt, op_al, bi_abs, bi_int, bi_intb, bi_ints, bi_lent, bi_lenl, bi_lenr, bi_lens, bi_listt, bi_listl, bi_tupt, bi_tupl, bi_tupr, bi_gcd, bi_max, bi_min, bi_str, bi_sum, bi_all, bi_any, tr_non, tr_bl, tr_int, tr_tup, tr_lst, ty_nt, ty_tt, ty_ti, ty_ii, ty_it, ty_is, sl_tup, sl_lst, sq_tup, sq_lst, ls_lst, th_lst, wk_tup, wk_lst, opt_some, eqV_non, due])]
    rw [xss_step (σ' := V sc t.tv (.lst [fr x0, fr x1]) (.lst [fr c0, fr c1]) (opp du) none none none none none none) (S' := G ns u i w []) (by
      simp [st_law_5, V, bd_ok, bd_exc, st_ok, st_exc, xss_cons, xss_nil, seq_next, seq_ret, seq_brk, seq_cont, seq_exc, eqV_int, xst, ev, evT, evs, evo, evc, evi, itemAt, MP.placeOf, bindT, bindTs, unslot, hold, unhold, subR, freeze, ix_tup, ix_lst, ix_r, cm_eq, cm_ne, cm_lt, cm_le, cm_gt, cm_ge, cm_isn, cm_nisn, cm_isb, cm_inn, cm_nin, op_ad, op_sb, op_ml, op_dv, op_md, op_pw, op_sl, op_as, op_at, op_mt, op_al, bi_abs, bi_int, bi_intb, bi_ints, bi_lent, bi_lenl, bi_lenr, bi_lens, bi_listt, bi_listl, bi_tupt, bi_tupl, bi_tupr, bi_gcd, bi_max, bi_min, bi_str, bi_sum, bi_all, bi_any, tr_non, tr_bl, tr_int, tr_tup, tr_lst, ty_nt, ty_tt, ty_ti, ty_ii, ty_it, ty_is, sl_tup, sl_lst, sq_tup, sq_lst, ls_lst, th_lst, wk_tup, wk_lst, opt_some, eqV_non, told, agree, sz1, sz2])]
    rw [xss_step (σ' := V sc t.tv (.lst [fr x0, fr x1]) (.lst [fr c0, fr c1]) (opp du) (some (.str (kd false))) h7 h8 h9 h10 h11) (S' := G ns u i w []) (by
      unfold st_law_6
      rw [xst_for (w := ([.str "state", .str "const"], [])) (S1 := G ns u i w []) (by simp [bd_ok, bd_exc, st_ok, st_exc, xss_cons, xss_nil, seq_next, seq_ret, seq_brk, seq_cont, seq_exc, eqV_int, xst, ev, evT, evs, evo, evc, evi, itemAt, MP.placeOf, bindT, bindTs, unslot, hold, unhold, subR, freeze, ix_tup, ix_lst, ix_r, cm_eq, cm_ne, cm_lt, cm_le, cm_gt, cm_ge, cm_isn, cm_nisn, cm_isb, cm_inn, cm_nin, op_ad, op_sb, op_ml, op_dv, op_md, op_pw, op_sl, op_as, op_at, op_mt, op_al, bi_abs, bi_int, bi_intb, bi_ints, bi_lent, bi_lenl, bi_lenr, bi_lens, bi_listt, bi_listl, bi_tupt, bi_tupl, bi_tupr, bi_gcd, bi_max, bi_min, bi_str, bi_sum, bi_all, bi_any, tr_non, tr_bl, tr_int, tr_tup, tr_lst, ty_nt, ty_tt, ty_ti, ty_ii, ty_it, ty_is, sl_tup, sl_lst, sq_tup, sq_lst, ls_lst, th_lst, wk_tup, wk_lst, opt_some, eqV_non])]
      have stn : ∀ S, stands S [] = true := fun _ => rfl
      unfold forLoop
      rw [stn, if_pos rfl]
      have bn : ∀ (k : Bool) (o6 o7 o8 o9 o10 o11 : Option PV), bindT (.name 6) (.str (kd k)) (V sc t.tv (.lst [fr x0, fr x1]) (.lst [fr c0, fr c1]) (opp du) o6 o7 o8 o9 o10 o11) = some (V sc t.tv (.lst [fr x0, fr x1]) (.lst [fr c0, fr c1]) (opp du) (some (.str (kd k))) o7 o8 o9 o10 o11) := fun k o6 o7 o8 o9 o10 o11 => by rw [bindT]; rfl
      have b1 := bn true none none none none none none
      have b2 := bn false (some (.str (kd true))) f7 f8 f9 f10 f11
      rw [show PV.str "state" = .str (kd true) from rfl, b1]
      simp only
      rw [l1]
      simp only
      unfold forLoop
      rw [stn, if_pos rfl, show PV.str "const" = .str (kd false) from rfl, b2]
      simp only
      rw [l2]
      simp only
      unfold forLoop
      rw [stn, if_pos rfl])]
    have p9 : callN F (d + 20) n_fits [.tup [.str "pow", t.tv, .int 9], .int 2, .int 2] (G ns u i w []) = .ok (.bl false) (G ns u i w []) := f_pow0 (d := d + 19) (by omega)
    have pm : callN F (d + 20) n_fits [.tup [.str "state", .int (-1)], .int 2, .int 2] (G ns u i w []) = .ok (.bl false) (G ns u i w []) := f_st (d := d + 19)
    have png : callN F (d + 20) n_fits [.tup [.str "neg", t.tv], .int 2, .int 2] (G ns u i w []) = .ok (.bl false) (G ns u i w []) := by
      rw [callN_of (fd := ⟨3, 4, b_fits⟩) rfl rfl]
      refine run_ret ?_ rfl
      have n1 : ∀ S, inSeq S (.str "neg") (.tup [.str "add", .str "sub", .str "mul", .str "div"]) = some false := fun S => in_tS rfl (by decide +kernel)
      have n2 : ∀ S, eqV S (.str "neg") (.str "pow") = some false := fun S => eqV_str (by decide +kernel) (by decide +kernel) (by decide +kernel)
      have n3 : ∀ S, eqV S (.str "neg") (.str "state") = some false := fun S => eqV_str (by decide +kernel) (by decide +kernel) (by decide +kernel)
      have n4 : ∀ S, eqV S (.str "neg") (.str "const") = some false := fun S => eqV_str (by decide +kernel) (by decide +kernel) (by decide +kernel)
      have n5 : ∀ S, eqV S (.str "neg") (.str "num") = some false := fun S => eqV_str (by decide +kernel) (by decide +kernel) (by decide +kernel)
      simp [st_fits_0, st_fits_1, st_fits_2, st_fits_3, st_fits_4, st_fits_5, b_fits, bd_ok, bd_exc, st_ok, st_exc, xss_cons, xss_nil, seq_next, seq_ret, seq_brk, seq_cont, seq_exc, eqV_int, xst, ev, evT, evs, evo, evc, evi, itemAt, MP.placeOf, bindT, bindTs, unslot, hold, unhold, subR, freeze, ix_tup, ix_lst, ix_r, cm_eq, cm_ne, cm_lt, cm_le, cm_gt, cm_ge, cm_isn, cm_nisn, cm_isb, cm_inn, cm_nin, op_ad, op_sb, op_ml, op_dv, op_md, op_pw, op_sl, op_as, op_at, op_mt, op_al, bi_abs, bi_int, bi_intb, bi_ints, bi_lent, bi_lenl, bi_lenr, bi_lens, bi_listt, bi_listl, bi_tupt, bi_tupl, bi_tupr, bi_gcd, bi_max, bi_min, bi_str, bi_sum, bi_all, bi_any, tr_non, tr_bl, tr_int, tr_tup, tr_lst, ty_nt, ty_tt, ty_ti, ty_ii, ty_it, ty_is, sl_tup, sl_lst, sq_tup, sq_lst, ls_lst, th_lst, wk_tup, wk_lst, opt_some, eqV_non, n1, n2, n3, n4, n5]
    rw [xss_step (σ' := V sc t.tv (.lst [fr x0, fr x1]) (.lst [fr c0, fr c1]) (opp du) (some (.str (kd false))) h7 h8 h9 h10 h11) (S' := G ns u i w []) (by
      simp [st_law_7, V, bd_ok, bd_exc, st_ok, st_exc, xss_cons, xss_nil, seq_next, seq_ret, seq_brk, seq_cont, seq_exc, eqV_int, xst, ev, evT, evs, evo, evc, evi, itemAt, MP.placeOf, bindT, bindTs, unslot, hold, unhold, subR, freeze, ix_tup, ix_lst, ix_r, cm_eq, cm_ne, cm_lt, cm_le, cm_gt, cm_ge, cm_isn, cm_nisn, cm_isb, cm_inn, cm_nin, op_ad, op_sb, op_ml, op_dv, op_md, op_pw, op_sl, op_as, op_at, op_mt, op_al, bi_abs, bi_int, bi_intb, bi_ints, bi_lent, bi_lenl, bi_lenr, bi_lens, bi_listt, bi_listl, bi_tupt, bi_tupl, bi_tupr, bi_gcd, bi_max, bi_min, bi_str, bi_sum, bi_all, bi_any, tr_non, tr_bl, tr_int, tr_tup, tr_lst, ty_nt, ty_tt, ty_ti, ty_ii, ty_it, ty_is, sl_tup, sl_lst, sq_tup, sq_lst, ls_lst, th_lst, wk_tup, wk_lst, opt_some, eqV_non, p9, pm, png])]
    rw [xss_step (σ' := [some sc, some (.ref 0), some t.tv, some (.lst [fr x0, fr x1]), some (.lst [fr c0, fr c1]), some (opp du), some (.str (kd false)), h7, h8, h9, h10, h11, some (.lst [t0.tv, t1.tv, t2.tv, t3.tv]), none, none, none, none]) (S' := G ns u' i' w' []) (by
      unfold st_law_8
      rw [xst, show (E.lc (.name 13) [13] (.rng1 (.cst (.int 4))) .none (.call 22 (.cons (.var 1) (.cons (.cst (.int 1)) .nil)))) = .lc (.name 13) [13] (.rng1 (.cst (.int 4))) .none (.call n__law_tree (.cons (.var 1) (.cons (.cst (.int 1)) .nil))) from rfl, four1]
      simp [V, bd_ok, bd_exc, st_ok, st_exc, xss_cons, xss_nil, seq_next, seq_ret, seq_brk, seq_cont, seq_exc, eqV_int, xst, ev, evT, evs, evo, evc, evi, itemAt, MP.placeOf, bindT, bindTs, unslot, hold, unhold, subR, freeze, ix_tup, ix_lst, ix_r, cm_eq, cm_ne, cm_lt, cm_le, cm_gt, cm_ge, cm_isn, cm_nisn, cm_isb, cm_inn, cm_nin, op_ad, op_sb, op_ml, op_dv, op_md, op_pw, op_sl, op_as, op_at, op_mt, op_al, bi_abs, bi_int, bi_intb, bi_ints, bi_lent, bi_lenl, bi_lenr, bi_lens, bi_listt, bi_listl, bi_tupt, bi_tupl, bi_tupr, bi_gcd, bi_max, bi_min, bi_str, bi_sum, bi_all, bi_any, tr_non, tr_bl, tr_int, tr_tup, tr_lst, ty_nt, ty_tt, ty_ti, ty_ii, ty_it, ty_is, sl_tup, sl_lst, sq_tup, sq_lst, ls_lst, th_lst, wk_tup, wk_lst, opt_some, eqV_non])]
    rw [xss_step (σ' := [some sc, some (.ref 0), some t.tv, some (.lst [fr x0, fr x1]), some (.lst [fr c0, fr c1]), some (opp du), some (.str (kd false)), h7, h8, h9, h10, h11, some (.lst [t0.tv, t1.tv, t2.tv, t3.tv]), none, some (.lst [opp (W t0), opp (W t1), opp (W t2), opp (W t3)]), none, none]) (S' := G ns u' i' w' []) (by
      unfold st_law_9
      rw [xst, show (E.lc (.name 15) [15] (.seq (.var 12)) .none (.call 23 (.cons (.var 15) (.cons (.var 3) (.cons (.var 4) .nil))))) = .lc (.name 15) [15] (.seq (.var 12)) .none (.call n__law_value (.cons (.var 15) (.cons (.var 3) (.cons (.var 4) .nil)))) from rfl, vals]
      simp [bd_ok, bd_exc, st_ok, st_exc, xss_cons, xss_nil, seq_next, seq_ret, seq_brk, seq_cont, seq_exc, eqV_int, xst, ev, evT, evs, evo, evc, evi, itemAt, MP.placeOf, bindT, bindTs, unslot, hold, unhold, subR, freeze, ix_tup, ix_lst, ix_r, cm_eq, cm_ne, cm_lt, cm_le, cm_gt, cm_ge, cm_isn, cm_nisn, cm_isb, cm_inn, cm_nin, op_ad, op_sb, op_ml, op_dv, op_md, op_pw, op_sl, op_as, op_at, op_mt, op_al, bi_abs, bi_int, bi_intb, bi_ints, bi_lent, bi_lenl, bi_lenr, bi_lens, bi_listt, bi_listl, bi_tupt, bi_tupl, bi_tupr, bi_gcd, bi_max, bi_min, bi_str, bi_sum, bi_all, bi_any, tr_non, tr_bl, tr_int, tr_tup, tr_lst, ty_nt, ty_tt, ty_ti, ty_ii, ty_it, ty_is, sl_tup, sl_lst, sq_tup, sq_lst, ls_lst, th_lst, wk_tup, wk_lst, opt_some, eqV_non])]
    rw [xss_step (σ' := [some sc, some (.ref 0), some t.tv, some (.lst [fr x0, fr x1]), some (.lst [fr c0, fr c1]), some (opp du), some (.str (kd false)), h7, h8, h9, h10, h11, some (.lst [t0.tv, t1.tv, t2.tv, t3.tv]), none, some (.lst [opp (W t0), opp (W t1), opp (W t2), opp (W t3)]), none, some (rp (two t0 t1) (two t2 t3) t).tv]) (S' := G ns u' i' w' []) (by
      simp [st_law_10, bd_ok, bd_exc, st_ok, st_exc, xss_cons, xss_nil, seq_next, seq_ret, seq_brk, seq_cont, seq_exc, eqV_int, xst, ev, evT, evs, evo, evc, evi, itemAt, MP.placeOf, bindT, bindTs, unslot, hold, unhold, subR, freeze, ix_tup, ix_lst, ix_r, cm_eq, cm_ne, cm_lt, cm_le, cm_gt, cm_ge, cm_isn, cm_nisn, cm_isb, cm_inn, cm_nin, op_ad, op_sb, op_ml, op_dv, op_md, op_pw, op_sl, op_as, op_at, op_mt, op_al, bi_abs, bi_int, bi_intb, bi_ints, bi_lent, bi_lenl, bi_lenr, bi_lens, bi_listt, bi_listl, bi_tupt, bi_tupl, bi_tupr, bi_gcd, bi_max, bi_min, bi_str, bi_sum, bi_all, bi_any, tr_non, tr_bl, tr_int, tr_tup, tr_lst, ty_nt, ty_tt, ty_ti, ty_ii, ty_it, ty_is, sl_tup, sl_lst, sq_tup, sq_lst, ls_lst, th_lst, wk_tup, wk_lst, opt_some, eqV_non, cut4a, cut4b, rep])]
    have stdW : ∀ s, (opp (W s)).std = true ∧ (opp (W s)).dp ≤ 1 := fun s => by
      cases W s with
      | none => exact ⟨rfl, Nat.zero_le _⟩
      | some p => exact ⟨rfl, Nat.le_refl _⟩
    have inn := inSeq_std (S := G ns u' i' w' []) (x := .non) (xs := [opp (W t0), opp (W t1), opp (W t2), opp (W t3)]) rfl (by simp [PV.stds, stdW]) (by decide) (by
      have a := (stdW t0).2
      have b := (stdW t1).2
      have c := (stdW t2).2
      have e := (stdW t3).2
      simp only [PV.dps]
      omega)
    by_cases hn : W t0 = none ∨ W t1 = none ∨ W t2 = none ∨ W t3 = none
    · have any : ([opp (W t0), opp (W t1), opp (W t2), opp (W t3)].any fun z => decide (z = .non)) = true := by
        rcases hn with h | h | h | h <;> simp [h, opp]
      rw [any] at inn
      refine ⟨G ns u' i' w' [], ?_⟩
      have ge : sizeT t ≤ sizeT (rp (two t0 t1) (two t2 t3) t) := size_rp t
      simp [st_law_11, bd_ok, bd_exc, st_ok, st_exc, xss_cons, xss_nil, seq_next, seq_ret, seq_brk, seq_cont, seq_exc, eqV_int, xst, ev, evT, evs, evo, evc, evi, itemAt, MP.placeOf, bindT, bindTs, unslot, hold, unhold, subR, freeze, ix_tup, ix_lst, ix_r, cm_eq, cm_ne, cm_lt, cm_le, cm_gt, cm_ge, cm_isn, cm_nisn, cm_isb, cm_inn, cm_nin, op_ad, op_sb, op_ml, op_dv, op_md, op_pw, op_sl, op_as, op_at, op_mt, op_al, bi_abs, bi_int, bi_intb, bi_ints, bi_lent, bi_lenl, bi_lenr, bi_lens, bi_listt, bi_listl, bi_tupt, bi_tupl, bi_tupr, bi_gcd, bi_max, bi_min, bi_str, bi_sum, bi_all, bi_any, tr_non, tr_bl, tr_int, tr_tup, tr_lst, ty_nt, ty_tt, ty_ti, ty_ii, ty_it, ty_is, sl_tup, sl_lst, sq_tup, sq_lst, ls_lst, th_lst, wk_tup, wk_lst, opt_some, eqV_non, inn, szb, szt, ge]
    · have any : ([opp (W t0), opp (W t1), opp (W t2), opp (W t3)].any fun z => decide (z = .non)) = false := by
        have a0 : ¬ opp (W t0) = .non := fun h => hn (.inl (opp_non.mp h))
        have a1 : ¬ opp (W t1) = .non := fun h => hn (.inr (.inl (opp_non.mp h)))
        have a2 : ¬ opp (W t2) = .non := fun h => hn (.inr (.inr (.inl (opp_non.mp h))))
        have a3 : ¬ opp (W t3) = .non := fun h => hn (.inr (.inr (.inr (opp_non.mp h))))
        simp [a0, a1, a2, a3]
      rw [any] at inn
      have get : ∀ s, s = t0 ∨ s = t1 ∨ s = t2 ∨ s = t3 → ∃ p q, W s = some p ∧ vl (two x0 x1) (two c0 c1) s = some q ∧ Rl q p 27 := fun s hs => by
        have rl := lv_ok hX hC (foks s hs).1
        have b27 : bt 5 s ≤ 27 := Nat.le_trans (bt_Pb (foks s hs).1) (Nat.le_trans (Pb_mono (foks s hs).2) (by decide))
        cases hw : lv (two (nd x0) (nd x1)) (two (nd c0) (nd c1)) s with
        | none =>
          exfalso
          apply hn
          rcases hs with rfl | rfl | rfl | rfl
          · exact .inl hw
          · exact .inr (.inl hw)
          · exact .inr (.inr (.inl hw))
          · exact .inr (.inr (.inr hw))
        | some p =>
          cases hv : vl (two x0 x1) (two c0 c1) s with
          | none => rw [hw, hv] at rl; exact rl.elim
          | some q =>
            rw [hw, hv] at rl
            exact ⟨p, q, hw, rfl, Rl.mono rl b27⟩
      obtain ⟨p0, q0, a0, b0, r0⟩ := get t0 (.inl rfl)
      obtain ⟨p1, q1, a1, b1, r1⟩ := get t1 (.inr (.inl rfl))
      obtain ⟨p2, q2, a2, b2, r2⟩ := get t2 (.inr (.inr (.inl rfl)))
      obtain ⟨p3, q3, a3, b3, r3⟩ := get t3 (.inr (.inr (.inr rfl)))
      have ok27 : t.okT 27 2 2 5 := okT_mono (by decide) (Nat.le_refl _) (Nat.le_refl _) (Nat.le_refl _) ok
      have hX2 : ∀ i, i < 2 → Rl (two q0 q1 i) (two p0 p1 i) 27 := fun i hi => by
        have : i = 0 ∨ i = 1 := by omega
        rcases this with rfl | rfl
        · exact r0
        · exact r1
      have hC2 : ∀ i, i < 2 → Rl (two q2 q3 i) (two p2 p3 i) 27 := fun i hi => by
        have : i = 0 ∨ i = 1 := by omega
        rcases this with rfl | rfl
        · exact r2
        · exact r3
      have b27 : bt 27 t ≤ 3437 := Nat.le_trans (bt_Pb ok) (Nat.le_trans (Pb_mono hh) (by decide))
      have lval2 := r_law_value (L := 100000) (k := 27) (n := 2) (c := 2) (m := 5) (xv := .lst [pr p0.1 p0.2, pr p1.1 p1.2]) (cv := .lst [pr p2.1 p2.2, pr p3.1 p3.2]) hL (by decide) hX2 hC2 (two_ix (f := fun i => pr (two p0 p1 i).1 (two p0 p1 i).2) rfl rfl) (two_ix (f := fun i => pr (two p2 p3 i).1 (two p2 p3 i).2) rfl rfl) t (d + 20) (G ns u' i' w' []) (by omega) ok27 (by omega)
      have rel2 := lv_ok hX2 hC2 ok27
      have eqv : vl (two x0 x1) (two c0 c1) (rp (two t0 t1) (two t2 t3) t) = vl (two q0 q1) (two q2 q3) t := rp_vl (k := 5) (fun i hi => by
        have : i = 0 ∨ i = 1 := by omega
        rcases this with rfl | rfl
        · exact b0
        · exact b1) (fun i hi => by
        have : i = 0 ∨ i = 1 := by omega
        rcases this with rfl | rfl
        · exact b2
        · exact b3) ok
      have agree2 := r_agrees (d := d + 18) (S := G ns u' i' w' []) (t := vl (two x0 x1) (two c0 c1) (rp (two t0 t1) (two t2 t3) t)) (w := lv (two p0 p1) (two p2 p3) t) (j := 3437) (k := 3437) (fun q h => (vl_sz sX sC okR h).mono (bP okR hR (by omega))) (by rw [eqv]; exact LR_of b27 rel2) (by decide)
      rw [a0, a1, a2, a3] at inn
      rw [a0, a1, a2, a3]
      refine ⟨G ns u' i' w' [], ?_⟩
      have e0 : ∀ p : Int × Int, opp (some p) = pr p.1 p.2 := fun _ => rfl
      simp only [e0] at inn ⊢
      simp [st_law_11, st_law_12, bd_ok, bd_exc, st_ok, st_exc, xss_cons, xss_nil, seq_next, seq_ret, seq_brk, seq_cont, seq_exc, eqV_int, xst, ev, evT, evs, evo, evc, evi, itemAt, MP.placeOf, bindT, bindTs, unslot, hold, unhold, subR, freeze, ix_tup, ix_lst, ix_r, cm_eq, cm_ne, cm_lt, cm_le, cm_gt, cm_ge, cm_isn, cm_nisn, cm_isb, cm_inn, cm_nin, op_ad, op_sb, op_ml, op_dv, op_md, op_pw, op_sl, op_as, op_at, op_mt, op_al, bi_abs, bi_int, bi_intb, bi_ints, bi_lent, bi_lenl, bi_lenr, bi_lens, bi_listt, bi_listl, bi_tupt, bi_tupl, bi_tupr, bi_gcd, bi_max, bi_min, bi_str, bi_sum, bi_all, bi_any, tr_non, tr_bl, tr_int, tr_tup, tr_lst, ty_nt, ty_tt, ty_ti, ty_ii, ty_it, ty_is, sl_tup, sl_lst, sq_tup, sq_lst, ls_lst, th_lst, wk_tup, wk_lst, opt_some, eqV_non, inn, toldb, cut4a, cut4b, lval2, agree2]
  obtain ⟨S', hS'⟩ := R
  exact run_main (fd := ⟨1, 17, b_law⟩) (args := [sc]) (S := ⟨[], false⟩) hS'
abbrev depth : Nat := 40
theorem main_all (ns : List Int) (_ : ns.length ≤ 63) : ∃ S', callN F depth lawNo [.lst (ns.map .int)] ⟨[], false⟩ = .ok (.bl true) S' := main (d := 19)
end K04
end
set_option Elab.async false
set_option linter.all false
set_option maxRecDepth 100000
set_option maxHeartbeats 4000000
open PySem PySem.W PySem.Calls PyProof.Rows
theorem PySem.Challenge.cw_motionsheld_k04_trees_holds : PySem.Challenge.rw_motionsheld_k04_trees.Holds := by
  w_on; o_law
  refine HandSHeadRun.head_imp (r := K04.R) (q := view K04.R.prog K04.view) (H := K04.hk) (ob := K04.ob) (M := 40000) (loose := K04.loose) (d := HandSHeadRun.topDef K04.R.prog K04.lawAt) (kwd := []) K04.ob_eq K04.run
    (by kernel_rfl) (by kernel_rfl) (by kernel_rfl) (by rfl) (by first | assumption | decide +kernel) (by decide +kernel) ⟨rfl, rfl, rfl, rfl, rfl, by decide +kernel⟩ ?hw ?hc
  case hw => w_witness2
  case hc =>
    exact MP.law_walk (l := PySem.Challenge.rw_motionsheld_k04_trees) (T := K04.T) (D := K04.D) (n := 4) (li := K04.lawNo) (dd := K04.depth) (tl := K04.t_law) rfl (by kernel_rfl) ⟨rfl, by decide, by decide⟩ rfl K04.looks rfl rfl rfl (by decide +kernel) (by kernel_rfl) K04.bds rfl rfl (by kernel_rfl) fun ns hl => K04.main_all ns hl

