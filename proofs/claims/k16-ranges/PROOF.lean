import PyProof.Rows.All
import PySem.Str
import PySem.PyData
import PyProof.P3Statements
import HandS.ForMost
import HandS.Exc
import HandS.ExcOwn
import HandS.TryOnly
import HandS.WordsExc
import HandS.Walk
import HandS.Zip
import HandS.Wide
import HandS.WideBits
import HandS.Gcd
import HandS.IsInst
import HandS.Style
import HandS.Flow
import HandS.Defaults
import HandS.TupAny
import HandS.TupMul
import HandS.TupLe
import HandS.ExcIs
import HandS.Small
import HandS.HeadHook2
import HandS.HeadEnd
import HandS.Head3
import PySem.Challenge.RW_motionsheld_k16_ranges_of_expressions
section
set_option linter.all false
/-! MP: a small language of pure values. Its runs are total functions; MPSound shows that the model's runs of the same text go alike. -/
namespace MP
open PySem (Str PyData)
/-- a value: a tuple is its parts; what may change is a number of the store -/
inductive PV where
  | non | bl (b : Bool) | int (i : Int) | str (x : Str) | tup (xs : List PV) | ref (k : Nat)
mutual
def PV.beq : PV → PV → Bool
  | .non, .non => true
  | .bl a, .bl b => a == b
  | .int a, .int b => a == b
  | .str a, .str b => decide (a = b)
  | .tup a, .tup b => PV.beqs a b
  | .ref a, .ref b => a == b
  | _, _ => false
def PV.beqs : List PV → List PV → Bool
  | [], [] => true
  | a :: as, b :: bs => PV.beq a b && PV.beqs as bs
  | _, _ => false
end
mutual
theorem PV.beq_eq : ∀ {a b : PV}, PV.beq a b = true → a = b
  | .non, b, h => by cases b <;> simp_all [PV.beq]
  | .bl _, b, h => by cases b <;> simp_all [PV.beq]
  | .int _, b, h => by cases b <;> simp_all [PV.beq]
  | .str _, b, h => by cases b <;> simp_all [PV.beq]
  | .tup xs, b, h => by
    cases b with
    | tup ys => rw [PV.beqs_eq (show PV.beqs xs ys = true by simpa [PV.beq] using h)]
    | _ => simp [PV.beq] at h
  | .ref _, b, h => by cases b <;> simp_all [PV.beq]
theorem PV.beqs_eq : ∀ {a b : List PV}, PV.beqs a b = true → a = b
  | [], [], _ => rfl
  | [], _ :: _, h => by simp [PV.beqs] at h
  | _ :: _, [], h => by simp [PV.beqs] at h
  | x :: xs, y :: ys, h => by
    have h' : PV.beq x y = true ∧ PV.beqs xs ys = true := by simpa [PV.beqs] using h
    rw [PV.beq_eq h'.1, PV.beqs_eq h'.2]
end
mutual
theorem PV.beq_refl : ∀ a : PV, PV.beq a a = true
  | .non => rfl
  | .bl _ => by simp [PV.beq]
  | .int _ => by simp [PV.beq]
  | .str _ => by simp [PV.beq]
  | .tup xs => by simp [PV.beq, PV.beqs_refl xs]
  | .ref _ => by simp [PV.beq]
theorem PV.beqs_refl : ∀ a : List PV, PV.beqs a a = true
  | [] => rfl
  | x :: xs => by simp [PV.beqs, PV.beq_refl x, PV.beqs_refl xs]
end
instance : DecidableEq PV := fun a b =>
  if h : PV.beq a b = true then .isTrue (PV.beq_eq h) else .isFalse fun e => h (e ▸ PV.beq_refl a)
abbrev Key := Sum Int Str
/-- a thing that may change (ro: a list that is only read) -/
inductive Cell where
  | lst (xs : List PV) | ro (xs : List PV) | dT (kvs : List (List Key × PV)) | dK (kvs : List (Key × PV)) | ins (c : Nat) (fs : List (Str × PV))
  deriving DecidableEq
mutual
def PV.pure : PV → Bool
  | .ref _ => false
  | .tup xs => PV.pures xs
  | _ => true
def PV.pures : List PV → Bool
  | [] => true
  | x :: xs => x.pure && PV.pures xs
end
mutual
def PV.und (n : Nat) : PV → Bool
  | .ref k => decide (k < n)
  | .tup xs => PV.unds n xs
  | _ => true
def PV.unds (n : Nat) : List PV → Bool
  | [] => true
  | x :: xs => x.und n && PV.unds n xs
end
def Cell.und (n : Nat) : Cell → Bool
  | .lst xs => PV.unds n xs
  | .ro xs => PV.unds n xs
  | .dT kvs => PV.unds n (kvs.map (·.2))
  | .dK kvs => PV.unds n (kvs.map (·.2))
  | .ins _ fs => PV.unds n (fs.map (·.2))
structure Sto where
  cells : List Cell
  dirty : Bool
def Sto.push (S : Sto) (c : Cell) : Sto := ⟨S.cells ++ [c], S.dirty⟩
/-- the cell k is written with a value (p: it is pure); b: what stood at the def's entry -/
def Sto.wr (S : Sto) (b k : Nat) (c : Cell) (p : Bool) : Sto := ⟨S.cells.set k c, S.dirty || (decide (k < b) && !p)⟩
def Sto.lst? (S : Sto) (k : Nat) : Option (List PV) := match S.cells[k]? with
  | some (.lst xs) => some xs
  | some (.ro xs) => some xs
  | _ => none
def Sto.len (S : Sto) : Nat := S.cells.length
inductive R (α : Type) where
  | ok (a : α) (S : Sto) | exc (c : Nat) (as : List PV) (S : Sto) | bad
def R.bd {α β : Type} (r : R α) (f : α → Sto → R β) : R β := match r with
  | .ok a S => f a S
  | .exc c as S => .exc c as S
  | .bad => .bad
abbrev Env := List (Option PV)
inductive RS where
  | next (σ : Env) (S : Sto) | ret (v : PV) (S : Sto) | brk (σ : Env) (S : Sto) | cont (σ : Env) (S : Sto) | exc (c : Nat) (as : List PV) (σ : Env) (S : Sto) | bad
/-- an expression's run within a statement -/
def R.st {α : Type} (r : R α) (σ : Env) (f : α → Sto → RS) : RS := match r with
  | .ok a S => f a S
  | .exc c as S => .exc c as σ S
  | .bad => .bad
/-! ### the text -/
inductive Op where | add | sub | mul | fdiv | mod | pow | shl
inductive Cm where | eq | ne | lt | le | gt | ge | isn | nisn | inn | nin
/-- built-in functions -/
inductive Bi where | abs | int | len | list | tuple | gcd | max2 | min2 | str | sum | sorted | all | any | bool | maxL | minL
/-- built-in types, for isinstance -/
inductive Ty where | int | bool | str | tup
mutual
/-- a target of names -/
inductive Tg where
  | name (i : Nat) | tup (ts : Tgs)
inductive Tgs where
  | nil | cons (t : Tg) (ts : Tgs)
end
mutual
inductive E where
  | var (i : Nat)
  | cst (v : PV)
  | tup (es : Es)
  | lst (es : Es)
  | bin (o : Op) (a b : E)
  | neg (a : E)
  | not (a : E)
  | and (a b : E)
  | or (a b : E)
  | cmp (o : Cm) (a b : E)
  | chain (o o' : Cm) (a b c : E)
  | ife (c a b : E)
  | ix (a b : E)
  | slc (a : E) (lo hi : Eo)
  | call (f : Nat) (es : Es)
  | bi (f : Bi) (es : Es)
  | isi (a : E) (t : Ty)
  | eat (i j : Nat)
  | eisi (i : Nat)
  | lc (t : Tg) (own : List Nat) (it : It) (c : Eo) (e : E)
inductive Eo where
  | none | some (e : E)
inductive Es where
  | nil | cons (e : E) (es : Es)
/-- what a for walks -/
inductive It where
  | seq (e : E) | rng1 (e : E) | rng2 (a b : E) | zip (a b : E) | enum (e : E)
end
/-- a target -/
inductive Tt where
  | of (t : Tg) | sub (a i : E)
mutual
inductive St where
  | asg (t : Tt) (e : E)
  | par (i j : Nat) (a b : E)
  | aug (i : Nat) (o : Op) (e : E)
  | expr (e : E)
  | append (a e : E)
  | ifs (c : E) (a b : Ss)
  | fors (t : Tg) (it : It) (b : Ss)
  | whiles (c : E) (b : Ss)
  | ret (e : E)
  | retN
  | raise (c : Nat) (es : Es)
  | tryo (b : Ss) (c : Nat) (i : Option Nat) (h : Ss)
  | pass | brk | cont
inductive Ss where
  | nil | cons (s : St) (ss : Ss)
end
/-! ### operators -/
def lenMax : Nat := 16777216
/-- a product's size -/
def mulOk (a b : Int) : Bool := decide (a.natAbs < 2 ^ 64) || decide (b.natAbs < 2 ^ 64) || decide (a.natAbs.log2 + b.natAbs.log2 + 2 ≤ 134217728)
def shlOk (a b : Int) : Bool := decide (0 ≤ b) && decide ((a.natAbs.log2 : Int) + 1 + b ≤ 134217728)
def powOk (a b : Int) : Bool := decide (0 ≤ b) && decide (b ≤ 1000000) && decide (a.natAbs < 2 ^ 64)
def divOk (b : Int) : Bool := decide (b ≠ 0) && decide (b.natAbs.log2 < 9000)
/-- an operator on values that stay -/
def opV (o : Op) (x y : PV) : Option PV := match o, x, y with
  | .add, .int a, .int b => some (.int (a + b))
  | .sub, .int a, .int b => some (.int (a - b))
  | .mul, .int a, .int b => if mulOk a b then some (.int (a * b)) else none
  | .fdiv, .int a, .int b => if divOk b then some (.int (a.fdiv b)) else none
  | .mod, .int a, .int b => if b = 0 then none else some (.int (a.fmod b))
  | .pow, .int a, .int b => if powOk a b then some (.int (a ^ b.toNat)) else none
  | .shl, .int a, .int b => if shlOk a b then some (.int (a * 2 ^ b.toNat)) else none
  | .add, .str a, .str b => if a.length + b.length ≤ lenMax then some (.str (a ++ b)) else none
  | .add, .tup a, .tup b => if a.length + b.length ≤ lenMax then some (.tup (a ++ b)) else none
  | .mul, .tup a, .int k => if !a.isEmpty && decide (2 ≤ k) && decide (k ≤ 1000) && decide (a.length ≤ 1000) then some (.tup (List.replicate k.toNat a).flatten) else none
  | _, _, _ => none
/-- list + list makes a new list -/
def opR (o : Op) (x y : PV) (S : Sto) : R PV := match o, x, y with
  | .add, .ref a, .ref b => match S.cells[a]?, S.cells[b]? with
    | some (.lst xs), some (.lst ys) => if xs.length + ys.length ≤ lenMax then .ok (.ref S.len) (S.push (.lst (xs ++ ys))) else .bad
    | _, _ => .bad
  | _, _, _ => match opV o x y with
    | some v => .ok v S
    | none => .bad
mutual
def PV.toD : PV → Option PyData
  | .non => some .none
  | .bl b => some (.bool b)
  | .int i => some (.int i)
  | .str x => some (.str x)
  | .tup xs => (PV.toDs xs).map .tuple
  | .ref _ => none
def PV.toDs : List PV → Option (List PyData)
  | [] => some []
  | x :: xs => match x.toD, PV.toDs xs with
    | some d, some ds => some (d :: ds)
    | _, _ => none
end
def toDS (S : Sto) : PV → Option PyData
  | .ref k => match S.lst? k with
    | some xs => (PV.toDs xs).map .list
    | none => none
  | v => v.toD
def shaped (d : PyData) : Bool := d.canLay0 && decide (d.depth ≤ 64)
def eqV (S : Sto) (x y : PV) : Option Bool := match toDS S x, toDS S y with
  | some d, some e => if shaped d && shaped e then some (d.eqv e) else none
  | _, _ => none
/-- a flat value: neither a tuple nor a number of the store -/
def PV.flat : PV → Bool
  | .ref _ => false
  | .tup _ => false
  | _ => true
def PV.eqF : PV → PV → Bool
  | .non, .non => true
  | .bl a, .bl b => a == b
  | .bl a, .int b => (if a then 1 else 0) == b
  | .int a, .bl b => a == (if b then 1 else 0)
  | .int a, .int b => a == b
  | .str a, .str b => a == b
  | _, _ => false
def seqOf (S : Sto) : PV → Option (List PV)
  | .tup xs => some xs
  | .ref k => S.lst? k
  | _ => none
def inSeq (S : Sto) (x y : PV) : Option Bool := match seqOf S y with
  | some xs => if x.flat && xs.all PV.flat then some (xs.any fun z => z.eqF x) else none
  | none => none
def cmI (f : Int → Int → Bool) : PV → PV → Option Bool
  | .int a, .int b => some (f a b)
  | _, _ => none
def isV (x y : PV) : Option Bool := match y with
  | .non => some (decide (x = .non))
  | .bl d => match x with
    | .bl c => some (decide (c = d))
    | _ => none
  | _ => none
def cmV (S : Sto) (o : Cm) (x y : PV) : Option Bool := match o with
  | .eq => eqV S x y
  | .ne => (eqV S x y).map (!·)
  | .lt => cmI (fun a b => decide (a < b)) x y
  | .le => cmI (fun a b => decide (a ≤ b)) x y
  | .gt => cmI (fun a b => decide (b < a)) x y
  | .ge => cmI (fun a b => decide (b ≤ a)) x y
  | .isn => isV x y
  | .nisn => (isV x y).map (!·)
  | .inn => inSeq S x y
  | .nin => (inSeq S x y).map (!·)
def truV (S : Sto) : PV → Option Bool
  | .non => some false
  | .bl b => some b
  | .int i => some (i != 0)
  | .str x => if x.length ≤ lenMax then some (x.length != 0) else none
  | .tup xs => some (!xs.isEmpty)
  | .ref k => match S.cells[k]? with
    | some (.lst xs) => some (!xs.isEmpty)
    | some (.ro xs) => some (!xs.isEmpty)
    | _ => none
/-- the place that an index tells in a row of so many things -/
def placeOf (len : Nat) (i : Int) : Option Nat :=
  if 0 ≤ i then (if i < len then some i.toNat else none) else if -(len : Int) ≤ i then some (i + len).toNat else none
def itemAt {α : Type} (xs : List α) (i : Int) : Option α := (placeOf xs.length i).bind fun j => xs[j]?
def ixV (S : Sto) (x y : PV) : Option PV := match x, y with
  | .tup xs, .int i => itemAt xs i
  | .ref k, .int i => (S.lst? k).bind fun xs => itemAt xs i
  | .str z, .int i => if z.length ≤ lenMax then (itemAt z.cps.toList i).map fun c => .str ⟨#[c]⟩ else none
  | _, _ => none
/-- where a slice begins or ends -/
def edge (len d : Nat) : Option Int → Nat
  | none => d
  | some v => if v < 0 then (v + (len : Int)).toNat else min v.toNat len
def cut {α : Type} (xs : List α) (lo hi : Option Int) : List α := (xs.drop (edge xs.length 0 lo)).take (edge xs.length xs.length hi - edge xs.length 0 lo)
def slR (S : Sto) (x : PV) (lo hi : Option Int) : R PV := match x with
  | .tup xs => .ok (.tup (cut xs lo hi)) S
  | .ref k => match S.lst? k with
    | some xs => .ok (.ref S.len) (S.push (.lst (cut xs lo hi)))
    | none => .bad
  | .str z => if z.length ≤ lenMax then .ok (.str ⟨(cut z.cps.toList lo hi).toArray⟩) S else .bad
  | _ => .bad
def isTy : PV → Ty → Option Bool
  | .non, _ => some false
  | .bl _, .bool => some true
  | .bl _, .int => some true
  | .bl _, _ => some false
  | .int _, .int => some true
  | .int _, _ => some false
  | .str _, .str => some true
  | .str _, _ => some false
  | .tup _, .tup => some true
  | .tup _, _ => some false
  | .ref _, _ => none
def intsOf : List PV → Option (List Int)
  | [] => some []
  | .int i :: xs => (intsOf xs).map (i :: ·)
  | _ => none
def blsOf : List PV → Option (List Bool)
  | [] => some []
  | .bl i :: xs => (blsOf xs).map (i :: ·)
  | _ => none
def biR (S : Sto) (f : Bi) (xs : List PV) : R PV := match f, xs with
  | .abs, [.int i] => .ok (.int (if i < 0 then -i else i)) S
  | .int, [.int i] => .ok (.int i) S
  | .int, [.bl b] => .ok (.int (if b then 1 else 0)) S
  | .len, [.tup ys] => .ok (.int ys.length) S
  | .len, [.str z] => if z.length ≤ lenMax then .ok (.int z.length) S else .bad
  | .len, [.ref k] => match S.lst? k with
    | some ys => .ok (.int ys.length) S
    | none => .bad
  | .list, [v] => match seqOf S v with
    | some ys => .ok (.ref S.len) (S.push (.lst ys))
    | none => .bad
  | .tuple, [.tup ys] => .ok (.tup ys) S
  | .tuple, [.ref k] => match S.lst? k with
    | some ys => .ok (.tup ys) S
    | none => .bad
  | .gcd, [.int a, .int b] => .ok (.int ((Nat.gcd a.natAbs b.natAbs : Nat) : Int)) S
  | .max2, [.int a, .int b] => .ok (.int (if b > a then b else a)) S
  | .min2, [.int a, .int b] => .ok (.int (if b < a then b else a)) S
  | .str, [.int a] => if a.natAbs.log2 < 1920 then .ok (.str (toString a)) S else .bad
  | .sum, [.ref k] => match (S.lst? k).bind intsOf with
    | some ns => .ok (.int ns.sum) S
    | none => .bad
  | .all, [.ref k] => match (S.lst? k).bind blsOf with
    | some ns => .ok (.bl (ns.all id)) S
    | none => .bad
  | .any, [.ref k] => match (S.lst? k).bind blsOf with
    | some ns => .ok (.bl (ns.any id)) S
    | none => .bad
  | _, _ => .bad
/-- what is walked: the items; the lists that must stand as they are meanwhile -/
abbrev Walk := List PV × List (Nat × List PV)
def stands (S : Sto) (g : List (Nat × List PV)) : Bool := g.all fun p => decide (S.lst? p.1 = some p.2)
def walkV (S : Sto) (v : PV) : Option Walk := match v with
  | .tup xs => some (xs, [])
  | .ref k => (S.lst? k).map fun xs => (xs, [(k, xs)])
  | _ => none
def small (i : Int) : Bool := decide (-(2 ^ 62) ≤ i) && decide (i < 2 ^ 62)
def rngL (a : Int) (n : Nat) : List PV := (List.range n).map fun (i : Nat) => .int (a + (i : Int))
def enumL : Nat → List PV → List PV
  | _, [] => []
  | i, x :: xs => .tup [.int (i : Int), x] :: enumL (i + 1) xs
def pairs (xs ys : List PV) : List PV := (xs.zip ys).map fun r => .tup [r.1, r.2]
def zipV (S : Sto) (v u : PV) : Option Walk := match v, u with
  | .tup xs, .tup ys => some (pairs xs ys, [])
  | .ref j, .ref k => match S.lst? j, S.lst? k with
    | some xs, some ys => some (pairs xs ys, [(j, xs), (k, ys)])
    | _, _ => none
  | _, _ => none
mutual
def bindT : Tg → PV → Env → Option Env
  | .name i, v, σ => some (σ.set i (some v))
  | .tup ts, .tup xs, σ => bindTs ts xs σ
  | .tup _, _, _ => none
def bindTs : Tgs → List PV → Env → Option Env
  | .nil, [], σ => some σ
  | .cons t ts, x :: xs, σ => match bindT t x σ with
    | some σ' => bindTs ts xs σ'
    | none => none
  | _, _, _ => none
end
def wipe (σ : Env) : List Nat → Env
  | [] => σ
  | v :: vs => (wipe σ vs).set v none
def opt {α : Type} (o : Option α) (S : Sto) : R α := match o with
  | some a => .ok a S
  | none => .bad
/-- a list comprehension's turns: k is the new list's number -/
def lcLoop (k : Nat) (g : Sto → Bool) (bind : PV → Option Env) (test : Env → Sto → R Bool) (elt : Env → Sto → R PV) : List PV → Sto → R Unit
  | [], S => if g S then .ok () S else .bad
  | x :: xs, S => if g S then (match bind x with
    | none => .bad
    | some σ => (test σ S).bd fun c S1 => match c with
      | true => (elt σ S1).bd fun y S2 => match S2.cells[k]? with
        | some (.lst acc) => if acc.length < lenMax then lcLoop k g bind test elt xs ⟨S2.cells.set k (.lst (acc ++ [y])), S2.dirty⟩ else .bad
        | _ => .bad
      | false => lcLoop k g bind test elt xs S1) else .bad
def noExc {α : Type} (r : R α) : R α := match r with
  | .exc _ _ _ => .bad
  | r => r
section
variable (C : Nat → List PV → Sto → R PV) (b : Nat)
mutual
def ev : E → Env → Sto → R PV
  | .var i, σ, S => match σ[i]? with
    | some (some v) => .ok v S
    | _ => .bad
  | .cst v, _, S => .ok v S
  | .tup es, σ, S => (evs es σ S).bd fun vs S1 => .ok (.tup vs) S1
  | .lst es, σ, S => (evs es σ S).bd fun vs S1 => .ok (.ref S1.len) (S1.push (.lst vs))
  | .bin o x y, σ, S => (ev x σ S).bd fun v S1 => (ev y σ S1).bd fun u S2 => opR o v u S2
  | .neg x, σ, S => (ev x σ S).bd fun v S1 => match v with
    | .int i => .ok (.int (-i)) S1
    | _ => .bad
  | .not x, σ, S => (ev x σ S).bd fun v S1 => match v with
    | .bl c => .ok (.bl (!c)) S1
    | _ => .bad
  | .and x y, σ, S => (ev x σ S).bd fun v S1 => match v with
    | .bl true => ev y σ S1
    | .bl false => .ok (.bl false) S1
    | _ => .bad
  | .or x y, σ, S => (ev x σ S).bd fun v S1 => match v with
    | .bl true => .ok (.bl true) S1
    | .bl false => ev y σ S1
    | _ => .bad
  | .cmp o x y, σ, S => (ev x σ S).bd fun v S1 => (ev y σ S1).bd fun u S2 => (opt (cmV S2 o v u) S2).bd fun c S3 => .ok (.bl c) S3
  | .chain o o' x y z, σ, S => (ev x σ S).bd fun v S1 => (ev y σ S1).bd fun u S2 => (opt (cmV S2 o v u) S2).bd fun c S3 => match c with
    | true => (ev z σ S3).bd fun w S4 => (opt (cmV S4 o' u w) S4).bd fun d S5 => .ok (.bl d) S5
    | false => .ok (.bl false) S3
  | .ife c x y, σ, S => (evT c σ S).bd fun d S1 => match d with
    | true => ev x σ S1
    | false => ev y σ S1
  | .ix x y, σ, S => (ev x σ S).bd fun v S1 => (ev y σ S1).bd fun u S2 => opt (ixV S2 v u) S2
  | .slc x lo hi, σ, S => (ev x σ S).bd fun v S1 => (evo lo σ S1).bd fun l S2 => (evo hi σ S2).bd fun h S3 => slR S3 v l h
  | .call f es, σ, S => (evs es σ S).bd fun vs S1 => C f vs S1
  | .bi f es, σ, S => (evs es σ S).bd fun vs S1 => biR S1 f vs
  | .isi x t, σ, S => (ev x σ S).bd fun v S1 => (opt (isTy v t) S1).bd fun c S2 => .ok (.bl c) S2
  | .eat i j, σ, S => match σ[i]? with
    | some (some (.tup (_ :: as))) => opt as[j]? S
    | _ => .bad
  | .eisi i, σ, S => match σ[i]? with
    | some (some (.tup (_ :: _))) => .ok (.bl true) S
    | _ => .bad
  | .lc t own it c e, σ, S => (evi it σ S).bd fun w S1 => noExc ((lcLoop S1.len (fun S => stands S w.2) (fun x => bindT t x (wipe σ own)) (evc c) (ev e) w.1 (S1.push (.lst []))).bd fun _ S2 => .ok (.ref S1.len) S2)
def evT : E → Env → Sto → R Bool
  | .not x, σ, S => (evT x σ S).bd fun c S1 => .ok (!c) S1
  | .and x y, σ, S => (evT x σ S).bd fun c S1 => match c with
    | true => evT y σ S1
    | false => .ok false S1
  | .or x y, σ, S => (evT x σ S).bd fun c S1 => match c with
    | true => .ok true S1
    | false => evT y σ S1
  | .cmp o x y, σ, S => (ev x σ S).bd fun v S1 => (ev y σ S1).bd fun u S2 => opt (cmV S2 o v u) S2
  | .chain o o' x y z, σ, S => (ev x σ S).bd fun v S1 => (ev y σ S1).bd fun u S2 => (opt (cmV S2 o v u) S2).bd fun c S3 => match c with
    | true => (ev z σ S3).bd fun w S4 => opt (cmV S4 o' u w) S4
    | false => .ok false S3
  | .var i, σ, S => match σ[i]? with
    | some (some v) => opt (truV S v) S
    | _ => .bad
  | .ix x y, σ, S => (ev x σ S).bd fun v S1 => (ev y σ S1).bd fun u S2 => (opt (ixV S2 v u) S2).bd fun z S3 => opt (truV S3 z) S3
  | .call f es, σ, S => ((evs es σ S).bd fun vs S1 => C f vs S1).bd fun z S3 => opt (truV S3 z) S3
  | .bi f es, σ, S => ((evs es σ S).bd fun vs S1 => biR S1 f vs).bd fun z S3 => opt (truV S3 z) S3
  | .isi x t, σ, S => (ev x σ S).bd fun v S1 => opt (isTy v t) S1
  | .eisi i, σ, S => match σ[i]? with
    | some (some (.tup (_ :: _))) => .ok true S
    | _ => .bad
  | _, _, _ => .bad
def evs : Es → Env → Sto → R (List PV)
  | .nil, _, S => .ok [] S
  | .cons e es, σ, S => (ev e σ S).bd fun v S1 => (evs es σ S1).bd fun vs S2 => .ok (v :: vs) S2
def evo : Eo → Env → Sto → R (Option Int)
  | .none, _, S => .ok none S
  | .some e, σ, S => (ev e σ S).bd fun v S1 => match v with
    | .int i => .ok (some i) S1
    | _ => .bad
def evc : Eo → Env → Sto → R Bool
  | .none, _, S => .ok true S
  | .some e, σ, S => evT e σ S
def evi : It → Env → Sto → R Walk
  | .seq e, σ, S => (ev e σ S).bd fun v S1 => opt (walkV S1 v) S1
  | .rng1 e, σ, S => (ev e σ S).bd fun v S1 => match v with
    | .int n => if small n then .ok (rngL 0 n.toNat, []) S1 else .bad
    | _ => .bad
  | .rng2 x y, σ, S => (ev x σ S).bd fun v S1 => (ev y σ S1).bd fun u S2 => match v, u with
    | .int a, .int c => if small a && small c then .ok (rngL a (c - a).toNat, []) S2 else .bad
    | _, _ => .bad
  | .zip x y, σ, S => (ev x σ S).bd fun v S1 => (ev y σ S1).bd fun u S2 => opt (zipV S2 v u) S2
  | .enum e, σ, S => (ev e σ S).bd fun v S1 => match v with
    | .ref k => match S1.lst? k with
      | some xs => .ok (enumL 0 xs, [(k, xs)]) S1
      | none => .bad
    | _ => .bad
end
/-- a for's turns -/
def forLoop (g : Sto → Bool) (bind : PV → Env → Option Env) (body : Env → Sto → RS) : List PV → Env → Sto → RS
  | [], σ, S => if g S then .next σ S else .bad
  | x :: xs, σ, S => if g S then (match bind x σ with
    | none => .bad
    | some σ1 => match body σ1 S with
      | .next σ2 S2 => forLoop g bind body xs σ2 S2
      | .cont σ2 S2 => forLoop g bind body xs σ2 S2
      | .brk σ2 S2 => .next σ2 S2
      | r => r) else .bad
def whileLoop (test : Env → Sto → R Bool) (body : Env → Sto → RS) : Nat → Env → Sto → RS
  | 0, _, _ => .bad
  | n + 1, σ, S => (test σ S).st σ fun c S1 => match c with
    | false => .next σ S1
    | true => match body σ S1 with
      | .next σ2 S2 => whileLoop test body n σ2 S2
      | .cont σ2 S2 => whileLoop test body n σ2 S2
      | .brk σ2 S2 => .next σ2 S2
      | r => r
def RS.seq (r : RS) (f : Env → Sto → RS) : RS := match r with
  | .next σ S => f σ S
  | r => r
def fuel : Nat := 2 ^ 40
/-- an except clause: the exception's class and what it holds stand in the slot -/
def hold (c : Nat) (as : List PV) (σ : Env) : Option Nat → Env
  | some k => σ.set k (some (.tup (.int (c : Int) :: as)))
  | none => σ
def holdOk (σ : Env) : Option Nat → Bool
  | some k => decide (k < σ.length)
  | none => true
def unhold (σ : Env) : Option Nat → Env
  | some k => σ.set k none
  | none => σ
def unslot (i : Option Nat) : RS → RS
  | .next σ S => .next (unhold σ i) S
  | .ret v S => .ret v S
  | .brk σ S => .brk (unhold σ i) S
  | .cont σ S => .cont (unhold σ i) S
  | _ => .bad
def caught (c : Nat) (i : Option Nat) (h : Env → Sto → RS) : RS → RS
  | .exc d as σ S => if d = c then (if holdOk σ i then unslot i (h (hold c as σ i) S) else .bad) else .exc d as σ S
  | r => r
mutual
def xst : St → Env → Sto → RS
  | .asg (.of t) e, σ, S => (ev C e σ S).st σ fun v S1 => match bindT t v σ with
    | some σ1 => .next σ1 S1
    | none => .bad
  | .asg (.sub x i) e, σ, S => (ev C e σ S).st σ fun v S1 => (ev C x σ S1).st σ fun o S2 => (ev C i σ S2).st σ fun k S3 => match o, k with
    | .ref a, .int n => match S3.cells[a]? with
      | some (.lst xs) => match placeOf xs.length n with
        | some j => .next σ (S3.wr b a (.lst (xs.set j v)) v.pure)
        | none => .bad
      | _ => .bad
    | _, _ => .bad
  | .par i j x y, σ, S => (ev C x σ S).st σ fun v S1 => (ev C y σ S1).st σ fun u S2 => .next ((σ.set i (some v)).set j (some u)) S2
  | .aug i o e, σ, S => match σ[i]? with
    | some (some x) => (ev C e σ S).st σ fun v S1 => match o, x, v with
      | .add, .int a, .int c => .next (σ.set i (some (.int (a + c)))) S1
      | _, _, _ => .bad
    | _ => .bad
  | .expr e, σ, S => (ev C e σ S).st σ fun _ S1 => .next σ S1
  | .append x e, σ, S => (ev C x σ S).st σ fun o S1 => match o with
    | .ref a => match S1.cells[a]? with
      | some (.lst _) => (ev C e σ S1).st σ fun v S2 => match S2.cells[a]? with
        | some (.lst xs) => if xs.length < lenMax then .next σ (S2.wr b a (.lst (xs ++ [v])) v.pure) else .bad
        | _ => .bad
      | _ => .bad
    | _ => .bad
  | .ifs c p q, σ, S => (evT C c σ S).st σ fun d S1 => match d with
    | true => xss p σ S1
    | false => xss q σ S1
  | .fors t it p, σ, S => (evi C it σ S).st σ fun w S1 => forLoop (fun S => stands S w.2) (bindT t) (xss p) w.1 σ S1
  | .whiles c p, σ, S => whileLoop (evT C c) (xss p) fuel σ S
  | .ret e, σ, S => (ev C e σ S).st σ fun v S1 => .ret v S1
  | .retN, _, S => .ret .non S
  | .raise c es, σ, S => (evs C es σ S).st σ fun vs S1 => .exc c vs σ S1
  | .tryo p c i h, σ, S => caught c i (xss h) (xss p σ S)
  | .pass, σ, S => .next σ S
  | .brk, σ, S => .brk σ S
  | .cont, σ, S => .cont σ S
def xss : Ss → Env → Sto → RS
  | .nil, σ, S => .next σ S
  | .cons s ss, σ, S => match xst s σ S with
    | .next σ1 S1 => xss ss σ1 S1
    | r => r
end
end
/-- a def: how many parameters, how many names, its body -/
structure FDef where
  np : Nat
  nn : Nat
  body : Ss
/-- leaving a def: what it made is gone, unless it may be told of -/
def fin (S : Sto) (v : PV) (S1 : Sto) : R PV := if v.pure && !S1.dirty then .ok v ⟨S1.cells.take S.cells.length, S.dirty⟩ else .ok v ⟨S1.cells, S.dirty || S1.dirty⟩
def runF (C : Nat → List PV → Sto → R PV) (fd : FDef) (args : List PV) (S : Sto) : R PV :=
  match xss C S.cells.length fd.body (args.map some ++ List.replicate (fd.nn - fd.np) none) ⟨S.cells, false⟩ with
  | .next _ S1 => fin S .non S1
  | .ret v S1 => fin S v S1
  | .exc c as _ S1 => if PV.pures as && !S1.dirty then .exc c as ⟨S1.cells.take S.cells.length, S.dirty⟩ else .bad
  | _ => .bad
def callN (T : List FDef) : Nat → Nat → List PV → Sto → R PV
  | 0, _, _, _ => .bad
  | d + 1, f, args, S => match T[f]? with
    | some fd => if args.length = fd.np then runF (callN T d) fd args S else .bad
    | none => .bad
end MP
end
section
set_option Elab.async false
set_option linter.all false
set_option maxRecDepth 100000
/-! MPSound1: how a value of MP stands in the model's heap; what a run of MP promises. -/
namespace MP
open PySem L2
/-! ### values in the heap -/
mutual
inductive RelP (K : PySem.W.Frag) (ρ : List Addr) (H : Hp) : PV → V → Prop
  | non : RelP K ρ H .non .non
  | bl (b : Bool) : RelP K ρ H (.bl b) (.bl b)
  | int (i : Int) : RelP K ρ H (.int i) (.int i)
  | str (x : Str) : RelP K ρ H (.str x) (.str x)
  | tup {a : Addr} {xs : List PV} {vs : List V} : SqT K H a vs → RelPs K ρ H xs vs → RelP K ρ H (.tup xs) (.ref a)
  | ref {k : Nat} {a : Addr} : ρ[k]? = some a → RelP K ρ H (.ref k) (.ref a)
inductive RelPs (K : PySem.W.Frag) (ρ : List Addr) (H : Hp) : List PV → List V → Prop
  | nil : RelPs K ρ H [] []
  | cons {x : PV} {v : V} {xs : List PV} {vs : List V} : RelP K ρ H x v → RelPs K ρ H xs vs → RelPs K ρ H (x :: xs) (v :: vs)
end
/-- what is never lost -/
structure Keep (H H' : Hp) : Prop where
  tup : ∀ a xs, H a = some (.tup xs) → H' a = some (.tup xs)
  frz : ∀ a o u, H a = some (.frz o u) → H' a = some (.frz o u)
  xd : ∀ a fs, H a = some (.xd fs) → H' a = some (.xd fs)
theorem Keep.refl (H : Hp) : Keep H H := ⟨fun _ _ h => h, fun _ _ _ h => h, fun _ _ h => h⟩
theorem Keep.trans {H H1 H2 : Hp} (a : Keep H H1) (b : Keep H1 H2) : Keep H H2 :=
  ⟨fun x y h => b.tup x y (a.tup x y h), fun x y z h => b.frz x y z (a.frz x y z h), fun x y h => b.xd x y (a.xd x y h)⟩
theorem Keep.new {H : Hp} {p : Addr} {o : HO} (h : H p = none) : Keep H (upd H p o) :=
  ⟨fun a xs e => by rw [upd_ne (ne_of_none e h)]; exact e, fun a u v e => by rw [upd_ne (ne_of_none e h)]; exact e, fun a fs e => by rw [upd_ne (ne_of_none e h)]; exact e⟩
theorem Keep.wlst {H : Hp} {p : Addr} {ys : List V} {o : HO} (h : H p = some (.lst ys)) : Keep H (upd H p o) :=
  ⟨fun a xs e => by rw [upd_ne (ne_of e h (by intro z; cases z))]; exact e, fun a u v e => by rw [upd_ne (ne_of e h (by intro z; cases z))]; exact e, fun a fs e => by rw [upd_ne (ne_of e h (by intro z; cases z))]; exact e⟩
section
variable {K : PySem.W.Frag} {ρ ρ' : List Addr} {H H' : Hp}
theorem Keep.sqT (k : Keep H H') {a : Addr} {xs : List V} (h : SqT K H a xs) : SqT K H' a xs := by
  rcases h with (h | ⟨o, h⟩) | h
  · exact .inl (.inl (k.tup _ _ h))
  · exact .inl (.inr ⟨o, k.frz _ _ _ h⟩)
  · exact .inr h
theorem pre_get {ρ ρ' : List Addr} (p : ρ <+: ρ') {k : Nat} {a : Addr} (h : ρ[k]? = some a) : ρ'[k]? = some a := by
  obtain ⟨t, rfl⟩ := p
  rw [List.getElem?_append_left (List.getElem?_eq_some_iff.mp h).1]
  exact h
mutual
theorem RelP.mono (k : Keep H H') (p : ρ <+: ρ') : ∀ {x : PV} {v : V}, RelP K ρ H x v → RelP K ρ' H' x v
  | _, _, .non => .non
  | _, _, .bl b => .bl b
  | _, _, .int i => .int i
  | _, _, .str x => .str x
  | _, _, .tup h hs => .tup (k.sqT h) (RelPs.mono k p hs)
  | _, _, .ref h => .ref (pre_get p h)
theorem RelPs.mono (k : Keep H H') (p : ρ <+: ρ') : ∀ {xs : List PV} {vs : List V}, RelPs K ρ H xs vs → RelPs K ρ' H' xs vs
  | _, _, .nil => .nil
  | _, _, .cons h hs => .cons (RelP.mono k p h) (RelPs.mono k p hs)
end
mutual
/-- a value without numbers of the store from n on -/
theorem RelP.cut {n : Nat} (hn : ρ.take n <+: ρ') : ∀ {x : PV} {v : V}, x.und n = true → RelP K ρ H x v → RelP K ρ' H x v
  | _, _, _, .non => .non
  | _, _, _, .bl b => .bl b
  | _, _, _, .int i => .int i
  | _, _, _, .str x => .str x
  | _, _, e, .tup h hs => .tup h (RelPs.cut hn (by simpa [PV.und] using e) hs)
  | .ref k, _, e, .ref h => .ref (pre_get hn (by
      have e' : k < n := by simpa [PV.und] using e
      rw [List.getElem?_take_of_lt e']; exact h))
theorem RelPs.cut {n : Nat} (hn : ρ.take n <+: ρ') : ∀ {xs : List PV} {vs : List V}, PV.unds n xs = true → RelPs K ρ H xs vs → RelPs K ρ' H xs vs
  | _, _, _, .nil => .nil
  | _, _, e, .cons h hs => by
    have e' := Bool.and_eq_true_iff.mp (by simpa [PV.unds] using e)
    exact .cons (RelP.cut hn e'.1 h) (RelPs.cut hn e'.2 hs)
end
mutual
theorem PV.und_of_pure {n : Nat} : ∀ {x : PV}, x.pure = true → x.und n = true
  | .non, _ => rfl
  | .bl _, _ => rfl
  | .int _, _ => rfl
  | .str _, _ => rfl
  | .tup xs, h => by simpa [PV.und] using PV.unds_of_pures (show PV.pures xs = true by simpa [PV.pure] using h)
  | .ref _, h => by simp [PV.pure] at h
theorem PV.unds_of_pures {n : Nat} : ∀ {xs : List PV}, PV.pures xs = true → PV.unds n xs = true
  | [], _ => rfl
  | x :: xs, h => by
    have h' := Bool.and_eq_true_iff.mp (by simpa [PV.pures] using h)
    simp [PV.unds, PV.und_of_pure h'.1, PV.unds_of_pures h'.2]
end
mutual
theorem PV.und_mono {n m : Nat} (h : n ≤ m) : ∀ {x : PV}, x.und n = true → x.und m = true
  | .non, _ => rfl
  | .bl _, _ => rfl
  | .int _, _ => rfl
  | .str _, _ => rfl
  | .tup xs, e => by simpa [PV.und] using PV.unds_mono h (show PV.unds n xs = true by simpa [PV.und] using e)
  | .ref k, e => by
    have e' : k < n := by simpa [PV.und] using e
    simp [PV.und]; omega
theorem PV.unds_mono {n m : Nat} (h : n ≤ m) : ∀ {xs : List PV}, PV.unds n xs = true → PV.unds m xs = true
  | [], _ => rfl
  | x :: xs, e => by
    have e' := Bool.and_eq_true_iff.mp (by simpa [PV.unds] using e)
    simp [PV.unds, PV.und_mono h e'.1, PV.unds_mono h e'.2]
end
mutual
theorem RelP.und : ∀ {x : PV} {v : V}, RelP K ρ H x v → x.und ρ.length = true
  | _, _, .non => rfl
  | _, _, .bl _ => rfl
  | _, _, .int _ => rfl
  | _, _, .str _ => rfl
  | _, _, .tup _ hs => by simpa [PV.und] using RelPs.und hs
  | _, _, .ref h => by simpa [PV.und] using (List.getElem?_eq_some_iff.mp h).1
theorem RelPs.und : ∀ {xs : List PV} {vs : List V}, RelPs K ρ H xs vs → PV.unds ρ.length xs = true
  | _, _, .nil => rfl
  | _, _, .cons h hs => by simp [PV.unds, RelP.und h, RelPs.und hs]
end
theorem RelP.pure_any {x : PV} {v : V} (h : x.pure = true) (r : RelP K ρ H x v) : RelP K ρ' H x v :=
  RelP.cut (n := 0) (by simp) (PV.und_of_pure h) r
theorem RelPs.pure_any {x : List PV} {v : List V} (h : PV.pures x = true) (r : RelPs K ρ H x v) : RelPs K ρ' H x v :=
  RelPs.cut (n := 0) (by simp) (PV.unds_of_pures h) r
theorem RelPs.length : ∀ {xs : List PV} {vs : List V}, RelPs K ρ H xs vs → xs.length = vs.length
  | _, _, .nil => rfl
  | _, _, .cons _ t => congrArg (· + 1) (RelPs.length t)
theorem RelPs.get : ∀ {xs : List PV} {vs : List V} {i : Nat} {x : PV}, RelPs K ρ H xs vs → xs[i]? = some x → ∃ v, vs[i]? = some v ∧ RelP K ρ H x v
  | _, _, _, _, .nil, e => by simp at e
  | _, _, 0, _, .cons r _, e => by simp at e; subst e; exact ⟨_, rfl, r⟩
  | _, _, i + 1, x, .cons _ t, e => by
    obtain ⟨v, h1, h2⟩ := RelPs.get (i := i) (x := x) t (by simpa using e)
    exact ⟨v, by simpa using h1, h2⟩
theorem RelPs.set {x : PV} {v : V} (r : RelP K ρ H x v) : ∀ {xs : List PV} {vs : List V} (i : Nat), RelPs K ρ H xs vs → RelPs K ρ H (xs.set i x) (vs.set i v)
  | _, _, _, .nil => .nil
  | _, _, 0, .cons _ t => .cons r t
  | _, _, i + 1, .cons q t => .cons q (RelPs.set r i t)
theorem RelPs.app : ∀ {xs ys : List PV} {vs ws : List V}, RelPs K ρ H xs vs → RelPs K ρ H ys ws → RelPs K ρ H (xs ++ ys) (vs ++ ws)
  | _, _, _, _, .nil, s => s
  | _, _, _, _, .cons r t, s => .cons r (RelPs.app t s)
theorem RelPs.take : ∀ {xs : List PV} {vs : List V} (n : Nat), RelPs K ρ H xs vs → RelPs K ρ H (xs.take n) (vs.take n)
  | _, _, 0, _ => .nil
  | _, _, _ + 1, .nil => .nil
  | _, _, n + 1, .cons r t => .cons r (RelPs.take n t)
theorem RelPs.drop : ∀ {xs : List PV} {vs : List V} (n : Nat), RelPs K ρ H xs vs → RelPs K ρ H (xs.drop n) (vs.drop n)
  | _, _, 0, r => r
  | _, _, _ + 1, .nil => .nil
  | _, _, n + 1, .cons _ t => RelPs.drop n t
theorem RelPs.one {x : PV} {vs : List V} (h : RelPs K ρ H [x] vs) : ∃ v, vs = [v] ∧ RelP K ρ H x v := by
  cases h with
  | cons r t => cases t; exact ⟨_, rfl, r⟩
theorem RelPs.two {x y : PV} {vs : List V} (h : RelPs K ρ H [x, y] vs) : ∃ v w, vs = [v, w] ∧ RelP K ρ H x v ∧ RelP K ρ H y w := by
  cases h with
  | cons r t => obtain ⟨w, rfl, q⟩ := t.one; exact ⟨_, _, rfl, r, q⟩
theorem RelP.of_int {i : Int} {v : V} (h : RelP K ρ H (.int i) v) : v = .int i := by cases h; rfl
theorem RelP.of_bl {i : Bool} {v : V} (h : RelP K ρ H (.bl i) v) : v = .bl i := by cases h; rfl
theorem RelP.of_str {i : Str} {v : V} (h : RelP K ρ H (.str i) v) : v = .str i := by cases h; rfl
theorem RelP.of_non {v : V} (h : RelP K ρ H .non v) : v = .non := by cases h; rfl
theorem RelP.of_tup {xs : List PV} {v : V} (h : RelP K ρ H (.tup xs) v) : ∃ a vs, v = .ref a ∧ SqT K H a vs ∧ RelPs K ρ H xs vs := by cases h; exact ⟨_, _, rfl, by assumption, by assumption⟩
theorem RelP.of_ref {k : Nat} {v : V} (h : RelP K ρ H (.ref k) v) : ∃ a, v = .ref a ∧ ρ[k]? = some a := by cases h; exact ⟨_, rfl, by assumption⟩
theorem RelP.is_non {x : PV} {v : V} (h : RelP K ρ H x v) : decide (v = .non) = decide (x = .non) := by
  cases h <;> simp
end
/-! ### the store in the heap -/
/-- a list that is only read -/
def RoL (K : PySem.W.Frag) (H : Hp) (a : Addr) (vs : List V) : Prop :=
  (∃ o, H a = some (.frz o (.lst vs))) ∨ ∃ (o : Obj) (its : Array Value) (n : Nat), K.lookup a = some o ∧ o.cls = .type "list" ∧ o.dict = none ∧ o.data = .seq its n ∧ its.size ≤ sizeLine ∧ Vals vs its.toList
theorem RoL.sq {K : PySem.W.Frag} {H : Hp} {a : Addr} {vs : List V} (h : RoL K H a vs) : SqL K H a vs := by
  rcases h with h | h
  · exact .inl (.inr h)
  · exact .inr h
def CellOk (K : PySem.W.Frag) (ρ : List Addr) (H : Hp) (a : Addr) : Cell → Prop
  | .lst xs => ∃ vs, RelPs K ρ H xs vs ∧ H a = some (.lst vs)
  | .ro xs => ∃ vs, RelPs K ρ H xs vs ∧ RoL K H a vs
  | _ => False
def Cell.isRo : Cell → Bool
  | .ro _ => true
  | _ => false
structure StOk (K : PySem.W.Frag) (b : Nat) (ρ : List Addr) (S : Sto) (H : Hp) : Prop where
  len : ρ.length = S.cells.length
  cell : ∀ (k : Nat) (c : Cell) (a : Addr), S.cells[k]? = some c → ρ[k]? = some a → CellOk K ρ H a c
  inj : ∀ (j k : Nat) (a : Addr) (c d : Cell), ρ[j]? = some a → ρ[k]? = some a → S.cells[j]? = some c → S.cells[k]? = some d → c.isRo = false → d.isRo = false → j = k
  base : b ≤ S.cells.length
def okU (n : Nat) (cells : List Cell) : Prop := ∀ (k : Nat) (c : Cell), k < n → cells[k]? = some c → c.und n = true
structure Grow (b : Nat) (ρ ρ' : List Addr) (S S' : Sto) (H H' : Hp) : Prop where
  keep : Keep H H'
  pre : ρ <+: ρ'
  len : S.cells.length ≤ S'.cells.length
  frame : ∀ a o, H a = some o → a ∉ ρ → H' a = some o ∧ a ∉ ρ'
  und : S'.dirty = false → S.dirty = false ∧ ∀ n, n ≤ b → okU n S.cells → okU n S'.cells
section
variable {K : PySem.W.Frag} {b : Nat} {ρ ρ' ρ1 : List Addr} {S S' S1 : Sto} {H H' H1 : Hp}
theorem Grow.refl : Grow b ρ ρ S S H H := ⟨.refl _, List.prefix_refl _, Nat.le_refl _, fun _ _ e n => ⟨e, n⟩, fun h => ⟨h, fun _ _ h => h⟩⟩
theorem Grow.trans (x : Grow b ρ ρ1 S S1 H H1) (y : Grow b ρ1 ρ' S1 S' H1 H') : Grow b ρ ρ' S S' H H' :=
  ⟨x.keep.trans y.keep, x.pre.trans y.pre, Nat.le_trans x.len y.len, fun a o e n => let ⟨e1, n1⟩ := x.frame a o e n; y.frame a o e1 n1, fun h => by
    obtain ⟨h1, h2⟩ := y.und h
    obtain ⟨h3, h4⟩ := x.und h1
    exact ⟨h3, fun n hn u => h2 n hn (h4 n hn u)⟩⟩
theorem Grow.less {c : Nat} (x : Grow c ρ ρ' S S' H H') (h : b ≤ c) : Grow b ρ ρ' S S' H H' :=
  ⟨x.keep, x.pre, x.len, x.frame, fun e => ⟨(x.und e).1, fun n hn => (x.und e).2 n (Nat.le_trans hn h)⟩⟩
theorem StOk.lt (so : StOk K b ρ S H) {k : Nat} {c : Cell} (h : S.cells[k]? = some c) : ∃ a, ρ[k]? = some a := by
  have h1 := (List.getElem?_eq_some_iff.mp h).1
  rw [← so.len] at h1
  exact ⟨ρ[k], by simp [h1]⟩
theorem StOk.sql (so : StOk K b ρ S H) {k : Nat} {xs : List PV} (h : S.lst? k = some xs) {a : Addr} (e : ρ[k]? = some a) : ∃ vs, RelPs K ρ H xs vs ∧ SqL K H a vs := by
  unfold Sto.lst? at h
  cases q : S.cells[k]? with
  | none => rw [q] at h; cases h
  | some c =>
    rw [q] at h
    have co := so.cell k c a q e
    cases c with
    | lst ys => cases h; obtain ⟨vs, r, z⟩ := co; exact ⟨vs, r, SqL.of z⟩
    | ro ys => cases h; obtain ⟨vs, r, z⟩ := co; exact ⟨vs, r, z.sq⟩
    | _ => cases h
theorem StOk.lst (so : StOk K b ρ S H) {k : Nat} {xs : List PV} (h : S.cells[k]? = some (.lst xs)) {a : Addr} (e : ρ[k]? = some a) : ∃ vs, RelPs K ρ H xs vs ∧ H a = some (.lst vs) := so.cell k _ a h e
theorem CellOk.keep {a : Addr} {c : Cell} (co : CellOk K ρ H a c) (k : Keep H H') (p : ρ <+: ρ') (h : c.isRo = false → ∀ vs, H a = some (.lst vs) → H' a = some (.lst vs)) : CellOk K ρ' H' a c := by
  cases c with
  | lst xs => obtain ⟨vs, r, z⟩ := co; exact ⟨vs, r.mono k p, h rfl _ z⟩
  | ro xs =>
    obtain ⟨vs, r, z⟩ := co
    refine ⟨vs, r.mono k p, ?_⟩
    rcases z with ⟨o, z⟩ | z
    · exact .inl ⟨o, k.frz _ _ _ z⟩
    · exact .inr z
  | _ => exact co
/-- a new object that no number tells of -/
theorem StOk.alloc (so : StOk K b ρ S H) {p : Addr} {o : HO} (h : H p = none) : StOk K b ρ S (upd H p o) :=
  ⟨so.len, fun k c a q e => (so.cell k c a q e).keep (.new h) (List.prefix_refl _) fun _ vs z => by rw [upd_ne (ne_of_none z h)]; exact z, so.inj, so.base⟩
theorem Grow.alloc {p : Addr} {o : HO} (h : H p = none) : Grow b ρ ρ S S H (upd H p o) := ⟨.new h, List.prefix_refl _, Nat.le_refl _, fun a u e n => ⟨by rw [upd_ne (ne_of_none e h)]; exact e, n⟩, fun h => ⟨h, fun _ _ h => h⟩⟩
theorem get_snoc {α : Type} {xs : List α} {x y : α} {k : Nat} (h : (xs ++ [x])[k]? = some y) : xs[k]? = some y ∨ (k = xs.length ∧ y = x) := by
  by_cases hk : k < xs.length
  · rw [List.getElem?_append_left hk] at h; exact .inl h
  · rw [List.getElem?_append_right (by omega)] at h
    have h2 := (List.getElem?_eq_some_iff.mp h).1
    have h3 : k - xs.length = 0 := by simp at h2; omega
    rw [h3] at h
    exact .inr ⟨by omega, by simpa using h.symm⟩
/-- a new list -/
theorem StOk.push (so : StOk K b ρ S H) {p : Addr} {xs : List PV} {vs : List V} (h : H p = none) (r : RelPs K ρ H xs vs) : StOk K b (ρ ++ [p]) (S.push (.lst xs)) (upd H p (.lst vs)) := by
  have kp : Keep H (upd H p (.lst vs)) := .new h
  have pp : ρ <+: ρ ++ [p] := List.prefix_append _ _
  have old : ∀ (j : Nat) (a : Addr) (c : Cell), ρ[j]? = some a → S.cells[j]? = some c → c.isRo = false → a ≠ p := fun j a c e q hc z => by
    have co := so.cell j c a q e
    cases c with
    | lst ys => obtain ⟨_, _, w⟩ := co; rw [z, h] at w; cases w
    | ro _ => cases hc
    | _ => exact co
  refine ⟨by simp [Sto.push, so.len], fun k c a q e => ?_, fun j k a c d e1 e2 q1 q2 n1 n2 => ?_, by have := so.base; simp [Sto.push]; omega⟩
  · rcases get_snoc (show (S.cells ++ [Cell.lst xs])[k]? = some c from q) with q | ⟨q, rfl⟩
    · rcases get_snoc e with e | ⟨e, _⟩
      · refine (so.cell k c a q e).keep kp pp fun _ ws z => ?_
        rw [upd_ne (ne_of_none z h)]; exact z
      · have := (List.getElem?_eq_some_iff.mp q).1
        have := so.len
        omega
    · rcases get_snoc e with e | ⟨_, rfl⟩
      · have := (List.getElem?_eq_some_iff.mp e).1
        have := so.len
        omega
      · exact ⟨vs, r.mono kp pp, upd_same⟩
  · have L := so.len
    rcases get_snoc (show (S.cells ++ [Cell.lst xs])[j]? = some c from q1) with q1 | ⟨q1, rfl⟩ <;> rcases get_snoc (show (S.cells ++ [Cell.lst xs])[k]? = some d from q2) with q2 | ⟨q2, rfl⟩
    · have l1 := (List.getElem?_eq_some_iff.mp q1).1
      have l2 := (List.getElem?_eq_some_iff.mp q2).1
      rcases get_snoc e1 with e1 | ⟨e1, _⟩
      · rcases get_snoc e2 with e2 | ⟨e2, _⟩
        · exact so.inj j k a c d e1 e2 q1 q2 n1 n2
        · omega
      · omega
    · have l1 := (List.getElem?_eq_some_iff.mp q1).1
      rcases get_snoc e1 with f1 | ⟨f1, _⟩
      · rcases get_snoc e2 with f2 | ⟨_, f2⟩
        · have := (List.getElem?_eq_some_iff.mp f2).1; omega
        · exact absurd f2 (old j a c f1 q1 n1)
      · omega
    · have l2 := (List.getElem?_eq_some_iff.mp q2).1
      rcases get_snoc e2 with f2 | ⟨f2, _⟩
      · rcases get_snoc e1 with f1 | ⟨_, f1⟩
        · have := (List.getElem?_eq_some_iff.mp f1).1; omega
        · exact absurd f1 (old k a d f2 q2 n2)
      · omega
    · omega
theorem Grow.push {p : Addr} {c : Cell} {o : HO} (hb : b ≤ S.cells.length) (h : H p = none) : Grow b ρ (ρ ++ [p]) S (S.push c) H (upd H p o) :=
  ⟨.new h, List.prefix_append _ _, by simp [Sto.push], fun a u e n => ⟨by rw [upd_ne (ne_of_none e h)]; exact e, fun m => (List.mem_append.mp m).elim n fun z => ne_of_none e h (List.mem_singleton.mp z)⟩, fun e => ⟨e, fun n hn u k d hk q => by
    rw [show (S.push c).cells = S.cells ++ [c] from rfl, List.getElem?_append_left (by omega)] at q
    exact u k d hk q⟩⟩
/-- a list is written -/
theorem StOk.write (so : StOk K b ρ S H) {k : Nat} {a : Addr} {ys xs : List PV} {vs : List V} {p : Bool} (hk : S.cells[k]? = some (.lst ys)) (e : ρ[k]? = some a) (r : RelPs K ρ H xs vs) : StOk K b ρ (S.wr b k (.lst xs) p) (upd H a (.lst vs)) := by
  obtain ⟨ws, _, hw⟩ := so.lst hk e
  have kp : Keep H (upd H a (.lst vs)) := .wlst hw
  have hkl := (List.getElem?_eq_some_iff.mp hk).1
  have get : ∀ {j : Nat} {c : Cell}, (S.cells.set k (.lst xs))[j]? = some c → (j = k ∧ c = .lst xs) ∨ (j ≠ k ∧ S.cells[j]? = some c) := fun {j c} q => by
    by_cases hj : k = j
    · subst hj
      rw [List.getElem?_set_self hkl] at q
      cases q; exact .inl ⟨rfl, rfl⟩
    · rw [List.getElem?_set_ne hj] at q
      exact .inr ⟨fun z => hj z.symm, q⟩
  have get' : ∀ {j : Nat} {c : Cell}, (S.cells.set k (.lst xs))[j]? = some c → c.isRo = false → ∃ c', S.cells[j]? = some c' ∧ c'.isRo = false := fun {j c} q hc => by
    rcases get q with ⟨rfl, rfl⟩ | ⟨_, q⟩
    · exact ⟨_, hk, rfl⟩
    · exact ⟨_, q, hc⟩
  refine ⟨by simp [Sto.wr, so.len], fun j c a' q e' => ?_, fun j i a' c d e1 e2 q1 q2 n1 n2 => ?_, by have := so.base; simp [Sto.wr]; omega⟩
  · rcases get (show (S.cells.set k (.lst xs))[j]? = some c from q) with ⟨rfl, rfl⟩ | ⟨hj, q⟩
    · rw [e] at e'; cases e'
      exact ⟨vs, r.mono kp (List.prefix_refl _), upd_same⟩
    · refine (so.cell j c a' q e').keep kp (List.prefix_refl _) fun nr us z => ?_
      rw [upd_ne fun (z' : a' = a) => hj (so.inj j k a c (.lst ys) (by rw [← z']; exact e') e q hk nr rfl)]
      exact z
  · obtain ⟨c', q1', n1'⟩ := get' (show (S.cells.set k (.lst xs))[j]? = some c from q1) n1
    obtain ⟨d', q2', n2'⟩ := get' (show (S.cells.set k (.lst xs))[i]? = some d from q2) n2
    exact so.inj j i a' c' d' e1 e2 q1' q2' n1' n2'
end
end MP
end
section
set_option Elab.async false
set_option linter.all false
set_option maxRecDepth 100000
/-! MPSound2: what a run promises; how promises are joined. -/
namespace MP
open PySem L2
theorem Grow.write {b : Nat} {ρ : List Addr} {S : Sto} {H : Hp} {k : Nat} {a : Addr} {ys xs : List PV} {vs ws : List V} {v : PV} (hk : S.cells[k]? = some (.lst ys)) (ha : ρ[k]? = some a) (hw : H a = some (.lst ws))
    (hu : ∀ n, PV.unds n ys = true → v.und n = true → PV.unds n xs = true) (hv : v.und S.cells.length = true) : Grow b ρ ρ S (S.wr b k (.lst xs) v.pure) H (upd H a (.lst vs)) := by
  have hkl := (List.getElem?_eq_some_iff.mp hk).1
  refine ⟨.wlst hw, List.prefix_refl _, by simp [Sto.wr], fun q u e n => ⟨by rw [upd_ne fun z => n (by rw [z]; exact List.mem_of_getElem? ha)]; exact e, n⟩, fun e => ?_⟩
  have e' : S.dirty = false ∧ (decide (k < b) && !v.pure) = false := by simpa [Sto.wr] using e
  refine ⟨e'.1, fun n hn u j c hj q => ?_⟩
  by_cases hjk : k = j
  · subst hjk
    rw [show (S.wr b k (Cell.lst xs) v.pure).cells = S.cells.set k (.lst xs) from rfl, List.getElem?_set_self hkl] at q
    cases q
    have hkb : decide (k < b) = true := by simp; omega
    have pv : v.pure = true := by
      have := e'.2
      rw [hkb] at this
      simpa using this
    exact hu n (by simpa [Cell.und] using u k _ hj hk) (PV.und_of_pure pv)
  · rw [show (S.wr b k (Cell.lst xs) v.pure).cells = S.cells.set k (.lst xs) from rfl, List.getElem?_set_ne hjk] at q
    exact u j c hj q
/-! ### exceptions -/
/-- the text's exception classes: where they stand, the names of their attributes -/
structure Exc where
  n : Nat
  at_ : Nat → Addr
  attrs : Nat → List Str
def ExcOk (K : PySem.W.Frag) (T : Exc) (ρ : List Addr) (H : Hp) (c : Nat) (as : List PV) (cls : Value) (d : Option Addr) : Prop :=
  c < T.n ∧ cls = .ref (T.at_ c) ∧ as.length = (T.attrs c).length ∧ ((T.attrs c = [] ∧ d = none) ∨ T.attrs c ≠ [] ∧ ∃ dd ws, d = some dd ∧ H dd = some (.xd ((T.attrs c).zip ws)) ∧ RelPs K ρ H as ws)
theorem ExcOk.mono {K : PySem.W.Frag} {T : Exc} {ρ ρ' : List Addr} {H H' : Hp} {c : Nat} {as : List PV} {cls : Value} {d : Option Addr} (k : Keep H H') (p : ρ <+: ρ') (x : ExcOk K T ρ H c as cls d) : ExcOk K T ρ' H' c as cls d := by
  obtain ⟨h0, h1, h2, h3⟩ := x
  refine ⟨h0, h1, h2, h3.imp id fun ⟨n, dd, ws, e, z, r⟩ => ⟨n, dd, ws, e, k.xd _ _ z, r.mono k p⟩⟩
/-! ### the slots -/
/-- the exception that a suite holds: its slot, its address, its class's number, its class and dict -/
structure Held where
  i : Nat
  a : Addr
  c : Nat
  cls : Value
  d : Option Addr
structure EnvOk (K : PySem.W.Frag) (T : Exc) (ex : Option Held) (ρ : List Addr) (H : Hp) (σ : Env) (τ : L2.St) : Prop where
  len : σ.length = τ.length
  val : ∀ (i : Nat) (v : PV), σ[i]? = some (some v) → (∀ x, ex = some x → x.i ≠ i) → ∃ w, τ[i]? = some (some w) ∧ RelP K ρ H v w
  held : ∀ x, ex = some x → ∃ as, σ[x.i]? = some (some (.tup (.int x.c :: as))) ∧ τ[x.i]? = some (some (.ref x.a)) ∧ ExcOk K T ρ H x.c as x.cls x.d
theorem EnvOk.mono {K : PySem.W.Frag} {T : Exc} {ex : Option Held} {ρ ρ' : List Addr} {H H' : Hp} {σ : Env} {τ : L2.St} (e : EnvOk K T ex ρ H σ τ) (k : Keep H H') (p : ρ <+: ρ') : EnvOk K T ex ρ' H' σ τ :=
  ⟨e.len, fun i v h n => let ⟨w, h1, h2⟩ := e.val i v h n; ⟨w, h1, h2.mono k p⟩, fun x hx => let ⟨as, h1, h2, h3⟩ := e.held x hx; ⟨as, h1, h2, h3.mono k p⟩⟩
theorem EnvOk.grow {K : PySem.W.Frag} {T : Exc} {ex : Option Held} {b : Nat} {ρ ρ' : List Addr} {S S' : Sto} {H H' : Hp} {σ : Env} {τ : L2.St} (e : EnvOk K T ex ρ H σ τ) (g : Grow b ρ ρ' S S' H H') : EnvOk K T ex ρ' H' σ τ := e.mono g.keep g.pre
theorem EnvOk.setH {K : PySem.W.Frag} {T : Exc} {ex : Option Held} {ρ : List Addr} {H : Hp} {σ : Env} {τ : L2.St} {v : PV} {w : V} (e : EnvOk K T ex ρ H σ τ) (i : Nat) (r : RelP K ρ H v w) (hi : ∀ x, ex = some x → x.i ≠ i) : EnvOk K T ex ρ H (σ.set i (some v)) (τ.set i (some w)) := by
  refine ⟨by simp [e.len], fun j u h n => ?_, fun x hx => by
    have ne := hi x hx
    obtain ⟨as, h1, h2, h3⟩ := e.held x hx
    exact ⟨as, by rw [List.getElem?_set_ne (Ne.symm ne)]; exact h1, by rw [List.getElem?_set_ne (Ne.symm ne)]; exact h2, h3⟩⟩
  by_cases hj : i = j
  · subst hj
    by_cases hi : i < σ.length
    · rw [List.getElem?_set_self hi] at h
      cases h
      exact ⟨w, by rw [List.getElem?_set_self (by rw [← e.len]; exact hi)], r⟩
    · rw [List.getElem?_eq_none (by simpa using hi)] at h; cases h
  · rw [List.getElem?_set_ne hj] at h
    rw [List.getElem?_set_ne hj]
    exact e.val j u h n
theorem EnvOk.set {K : PySem.W.Frag} {T : Exc} {ρ : List Addr} {H : Hp} {σ : Env} {τ : L2.St} {v : PV} {w : V} (e : EnvOk K T none ρ H σ τ) (i : Nat) (r : RelP K ρ H v w) : EnvOk K T none ρ H (σ.set i (some v)) (τ.set i (some w)) := e.setH i r fun x hx => by cases hx
theorem EnvOk.unset {K : PySem.W.Frag} {T : Exc} {ρ : List Addr} {H : Hp} {σ : Env} {τ : L2.St} (e : EnvOk K T none ρ H σ τ) (i : Nat) : EnvOk K T none ρ H (σ.set i none) (τ.set i none) := by
  refine ⟨by simp [e.len], fun j u h n => ?_, fun x hx => by cases hx⟩
  by_cases hj : i = j
  · subst hj
    by_cases hi : i < σ.length
    · rw [List.getElem?_set_self hi] at h; cases h
    · rw [List.getElem?_eq_none (by simpa using hi)] at h; cases h
  · rw [List.getElem?_set_ne hj] at h
    rw [List.getElem?_set_ne hj]
    exact e.val j u h n
theorem EnvOk.wipe {K : PySem.W.Frag} {T : Exc} {ρ : List Addr} {H : Hp} {σ : Env} {τ : L2.St} (e : EnvOk K T none ρ H σ τ) : ∀ own : List Nat, EnvOk K T none ρ H (MP.wipe σ own) (L2.wipe τ own)
  | [] => e
  | v :: vs => (EnvOk.wipe e vs).unset v
/-! ### promises of runs -/
section
variable (K : PySem.W.Frag) (T : Exc) (b : Nat)
/-- rel: how a result lies -/
def At {α β : Type} (E : XK) (rel : List Addr → Hp → α → β → Prop) (ρ : List Addr) (S : Sto) (H : Hp) (res : R α) (Q : β → Hp → Prop) : Prop := match res with
  | .ok v S' => ∀ ρ' H' w, Grow b ρ ρ' S S' H H' → StOk K b ρ' S' H' → rel ρ' H' v w → Q w H'
  | .exc c as S' => ∀ ρ' H' cls d, Grow b ρ ρ' S S' H H' → StOk K b ρ' S' H' → ExcOk K T ρ' H' c as cls d → E cls d H'
  | .bad => False
def tG {α β : Type} (ex : Option Held) (W : WX) (rel : List Addr → Hp → α → β → Prop) (r : Env → Sto → R α) : L2.St → Hp → (β → Hp → Prop) → Prop := fun τ H Q =>
  ∃ ρ σ S, StOk K b ρ S H ∧ EnvOk K T ex ρ H σ τ ∧ At K T b (fun cls d H' => W cls d τ H') rel ρ S H (r σ S) Q
/-- how a walk lies: the items as the iterator gives them -/
structure WalkOk (ρ : List Addr) (H : Hp) (w : Walk) (J : L2.It) : Prop where
  ex : ∃ (n : Nat) (G : Hp → Prop) (Y : Nat → Hp → V → Hp → Prop), L2.Walk J n G Y ∧ w.1.length = n ∧
    (∀ ρ' S' H', Keep H H' → ρ <+: ρ' → StOk K b ρ' S' H' → stands S' w.2 = true → G H') ∧
    (∀ ρ' S' H' i x it H2, Keep H H' → ρ <+: ρ' → StOk K b ρ' S' H' → stands S' w.2 = true → w.1[i]? = some it → Y i H' x H2 → Grow b ρ' ρ' S' S' H' H2 ∧ StOk K b ρ' S' H2 ∧ RelP K ρ' H2 it x)
def relE : List Addr → Hp → PV → V → Prop := fun ρ H => RelP K ρ H
def relT : List Addr → Hp → Bool → Bool → Prop := fun _ _ a c => a = c
def relO : List Addr → Hp → Option Int → Option Int → Prop := fun _ _ a c => a = c
def relA : List Addr → Hp → List PV → List V → Prop := fun ρ H => RelPs K ρ H
def AtS (ex : Option Held) (W : WX) (D : Ends) (ρ : List Addr) (S : Sto) (H : Hp) (res : RS) : Prop := match res with
  | .next σ S' => ∀ ρ' H' τ, Grow b ρ ρ' S S' H H' → StOk K b ρ' S' H' → EnvOk K T ex ρ' H' σ τ → D.nx τ H'
  | .brk σ S' => ∀ ρ' H' τ, Grow b ρ ρ' S S' H H' → StOk K b ρ' S' H' → EnvOk K T ex ρ' H' σ τ → D.bk τ H'
  | .cont σ S' => ∀ ρ' H' τ, Grow b ρ ρ' S S' H H' → StOk K b ρ' S' H' → EnvOk K T ex ρ' H' σ τ → D.ct τ H'
  | .ret v S' => ∀ ρ' H' w, Grow b ρ ρ' S S' H H' → StOk K b ρ' S' H' → RelP K ρ' H' v w → D.rt w H'
  | .exc c as σ S' => ∀ ρ' H' τ cls d, Grow b ρ ρ' S S' H H' → StOk K b ρ' S' H' → EnvOk K T ex ρ' H' σ τ → ExcOk K T ρ' H' c as cls d → W cls d τ H'
  | .bad => False
def tS (ex : Option Held) (W : WX) (r : Env → Sto → RS) : TS := fun D τ H => ∃ ρ σ S, StOk K b ρ S H ∧ EnvOk K T ex ρ H σ τ ∧ AtS K T b ex W D ρ S H (r σ S)
end
section
variable {K : PySem.W.Frag} {T : Exc} {b : Nat} {E : XK} {α β γ δ : Type} {rel : List Addr → Hp → α → β → Prop} {rel2 : List Addr → Hp → γ → δ → Prop} {ρ ρ1 : List Addr} {S S1 : Sto} {H H1 : Hp}
theorem At.mono {res : R α} {Q Q' : β → Hp → Prop} (h : At K T b E rel ρ S H res Q) (hq : ∀ w H', Q w H' → Q' w H') : At K T b E rel ρ S H res Q' := by
  cases res with
  | ok v S' => exact fun ρ' H' w g s r => hq _ _ (h ρ' H' w g s r)
  | exc c as S' => exact h
  | bad => exact h
theorem At.grow {res : R α} {Q : β → Hp → Prop} (g : Grow b ρ ρ1 S S1 H H1) (h : At K T b E rel ρ S H res Q) : At K T b E rel ρ1 S1 H1 res Q := by
  cases res with
  | ok v S' => exact fun ρ' H' w g' s r => h ρ' H' w (g.trans g') s r
  | exc c as S' => exact fun ρ' H' cls d g' s r => h ρ' H' cls d (g.trans g') s r
  | bad => exact h
theorem At.less {c : Nat} {res : R α} {Q : β → Hp → Prop} (hb : b ≤ c) (hs : b ≤ S.cells.length) (h : At K T b E rel ρ S H res Q) : At K T c E rel ρ S H res Q := by
  have so : ∀ {ρ' : List Addr} {S' : Sto} {H' : Hp}, Grow c ρ ρ' S S' H H' → StOk K c ρ' S' H' → StOk K b ρ' S' H' := fun {ρ' S' H'} g s => ⟨s.len, s.cell, s.inj, Nat.le_trans hs g.len⟩
  cases res with
  | ok v S' => exact fun ρ' H' w g' s r => h ρ' H' w (g'.less hb) (so g' s) r
  | exc c as S' => exact fun ρ' H' cls d g' s r => h ρ' H' cls d (g'.less hb) (so g' s) r
  | bad => exact h
/-- one run behind another -/
theorem At.bd {r : R α} {f : α → Sto → R γ} {Q : δ → Hp → Prop} (h : At K T b E rel2 ρ S H (r.bd f) Q) :
    At K T b E rel ρ S H r (fun w H1 => ∃ ρ1 v S1, r = .ok v S1 ∧ Grow b ρ ρ1 S S1 H H1 ∧ StOk K b ρ1 S1 H1 ∧ rel ρ1 H1 v w ∧ At K T b E rel2 ρ1 S1 H1 (f v S1) Q) := by
  cases r with
  | ok v S' => exact fun ρ' H' w g s r => ⟨ρ', v, S', rfl, g, s, r, At.grow g (show At K T b E rel2 ρ S H (f v S') Q from h)⟩
  | exc c as S' => exact h
  | bad => exact h
theorem At.ok {v : α} {w : β} {Q : β → Hp → Prop} (so : StOk K b ρ S H) (h : At K T b E rel ρ S H (.ok v S) Q) (r : rel ρ H v w) : Q w H := h ρ H w .refl so r
theorem At.opt {o : Option α} {Q : β → Hp → Prop} (h : At K T b E rel ρ S H (MP.opt o S) Q) : ∃ v, o = some v ∧ At K T b E rel ρ S H (.ok v S) Q := by
  cases o with
  | none => exact h.elim
  | some v => exact ⟨v, rfl, h⟩
theorem AtS.grow {ex : Option Held} {W : WX} {D : Ends} {res : RS} (g : Grow b ρ ρ1 S S1 H H1) (h : AtS K T b ex W D ρ S H res) : AtS K T b ex W D ρ1 S1 H1 res := by
  cases res with
  | next σ S' => exact fun ρ' H' τ g' s e => h ρ' H' τ (g.trans g') s e
  | brk σ S' => exact fun ρ' H' τ g' s e => h ρ' H' τ (g.trans g') s e
  | cont σ S' => exact fun ρ' H' τ g' s e => h ρ' H' τ (g.trans g') s e
  | ret v S' => exact fun ρ' H' τ g' s e => h ρ' H' τ (g.trans g') s e
  | exc c as σ S' => exact fun ρ' H' τ cls d g' s e => h ρ' H' τ cls d (g.trans g') s e
  | bad => exact h
/-- an expression's run ahead of the rest of a statement -/
theorem AtS.st {ex : Option Held} {W : WX} {D : Ends} {r : R α} {σ : Env} {τ : L2.St} {f : α → Sto → RS} (eo : EnvOk K T ex ρ H σ τ) (h : AtS K T b ex W D ρ S H (r.st σ f)) :
    At K T b (fun cls d H' => W cls d τ H') rel ρ S H r (fun w H1 => ∃ ρ1 v S1, r = .ok v S1 ∧ Grow b ρ ρ1 S S1 H H1 ∧ StOk K b ρ1 S1 H1 ∧ EnvOk K T ex ρ1 H1 σ τ ∧ rel ρ1 H1 v w ∧ AtS K T b ex W D ρ1 S1 H1 (f v S1)) := by
  cases r with
  | ok v S' => exact fun ρ' H' w g s r => ⟨ρ', v, S', rfl, g, s, eo.grow g, r, AtS.grow g (show AtS K T b ex W D ρ S H (f v S') from h)⟩
  | exc c as S' => exact fun ρ' H' cls d g s x => h ρ' H' τ cls d g s (eo.grow g) x
  | bad => exact h
end
end MP
end
section
set_option Elab.async false
set_option linter.all false
set_option maxRecDepth 100000
/-! MPSound3: the operators. -/
namespace MP
open PySem PySem.Spec PyProof.Rows L2
theorem PE.weak {X : Cx} {e : Expr} {t t' : TE} (h : PE X e t) (w : ∀ σ H Q, t' σ H Q → t σ H Q) : PE X e t' := ⟨fun pins s σ H Q I q => h.run pins s σ H Q I (w σ H Q q)⟩
theorem PT.weak {X : Cx} {e : Expr} {t t' : TT} (h : PT X e t) (w : ∀ σ H Q, t' σ H Q → t σ H Q) : PT X e t' := ⟨fun pins s σ H Q I q => h.run pins s σ H Q I (w σ H Q q)⟩
theorem PW.weak {X : Cx} {e : Expr} {t t' : TT} (h : PW X e t) (w : ∀ σ H Q, t' σ H Q → t σ H Q) : PW X e t' := ⟨fun wh pins s σ H Q I q => h.run wh pins s σ H Q I (w σ H Q q)⟩
theorem PA.weak {X : Cx} {e : List Expr} {t t' : TA} (h : PA X e t) (w : ∀ σ H Q, t' σ H Q → t σ H Q) : PA X e t' := ⟨fun pos pins s σ H Q I q => h.run pos pins s σ H Q I (w σ H Q q)⟩
theorem PO.weak {X : Cx} {e : Option Expr} {t t' : TO} (h : PO X e t) (w : ∀ σ H Q, t' σ H Q → t σ H Q) : PO X e t' := ⟨fun pins s σ H Q I q => h.run pins s σ H Q I (w σ H Q q)⟩
theorem PS.weak {X : Cx} {e : Stmt} {t t' : TS} (h : PS X e t) (w : ∀ D σ H, t' D σ H → t D σ H) : PS X e t' := ⟨fun pins s σ H D I q => h.run pins s σ H D I (w D σ H q)⟩
theorem PSs.weak {X : Cx} {e : List Stmt} {t t' : TS} (h : PSs X e t) (w : ∀ D σ H, t' D σ H → t D σ H) : PSs X e t' := ⟨fun pins s σ H D I q => h.run pins s σ H D I (w D σ H q)⟩
theorem OpR.weak {X : Cx} {f : Value → Value → Sem Value} {r r' : R2} (h : OpR X f r) (w : ∀ x y H Q, r' x y H Q → r x y H Q) : OpR X f r' := fun pins s σ H x y v u Q I rx ry q => h pins s σ H x y v u Q I rx ry (w x y H Q q)
theorem line_eq : (sizeLine : Nat) = lenMax := by unfold lenMax; exact sizeLine_eq
theorem log_bits (x : Int) : Builtin.Int.intBits x ≤ x.natAbs.log2 + 1 := by
  unfold Builtin.Int.intBits
  split <;> omega
theorem bits64 {x : Int} (h : x.natAbs < 2 ^ 64) : Builtin.Int.intBits x ≤ 64 := intBits_le_64 (by omega) (by omega)
theorem mulOk_ok {i j : Int} (h : mulOk i j = true) : IntMulOk i j := by
  unfold mulOk at h
  rw [Bool.or_eq_true, Bool.or_eq_true] at h
  rcases h with (h | h) | h
  · exact .of_left (bits64 (of_decide_eq_true h))
  · exact .of_right (bits64 (of_decide_eq_true h))
  · refine CMulX.ok ?_
    have h1 := log_bits i
    have h2 := log_bits j
    have h3 := of_decide_eq_true h
    unfold CMulX
    omega
section
variable {X : Cx}
theorem op_mulM : OpR X (binaryOp .Mult) (rI (fun i j => mulOk i j = true) fun i j => .int (i * j)) := opI fun _ _ _ _ _ _ _ hc q => mul_int q (mulOk_ok hc)
theorem op_fdivM : OpR X (binaryOp .FloorDiv) (rI (fun _ j => divOk j = true) fun i j => .int (i.fdiv j)) := opI fun _ j _ _ _ _ _ hc q => by
  have h := Bool.and_eq_true_iff.mp hc
  exact floordiv_int (of_decide_eq_true h.1) q (.inl (PyProof.noPylong_of_log2 (of_decide_eq_true h.2)))
theorem op_powM : OpR X (binaryOp .Pow) (rI (fun i j => powOk i j = true) fun i j => .int (i ^ j.toNat)) := opI fun _ _ _ _ _ _ _ hc q => by
  have h := Bool.and_eq_true_iff.mp hc
  have h2 := Bool.and_eq_true_iff.mp h.1
  exact pow_int_small (of_decide_eq_true h2.1) (of_decide_eq_true h2.2) (of_decide_eq_true h.2) q
theorem op_shlM : OpR X (binaryOp .LShift) (rI (fun i j => shlOk i j = true) fun i j => .int (i * 2 ^ j.toNat)) := opI fun i _ _ _ _ _ _ hc q => by
  have h := Bool.and_eq_true_iff.mp hc
  have h2 := of_decide_eq_true h.2
  have h3 := log_bits i
  exact lshift_int (of_decide_eq_true h.1) (by omega) q
end
def opOf : Op → Operator
  | .add => .Add
  | .sub => .Sub
  | .mul => .Mult
  | .fdiv => .FloorDiv
  | .mod => .Mod
  | .pow => .Pow
  | .shl => .LShift
section
variable {T : Exc} {b : Nat}
def rB (K : PySem.W.Frag) (T : Exc) (b : Nat) (o : Op) : R2 := fun x y H Q => ∃ E ρ S v u, StOk K b ρ S H ∧ RelP K ρ H v x ∧ RelP K ρ H u y ∧ At K T b E (relE K) ρ S H (opR o v u S) Q
theorem StOk.new {K : PySem.W.Frag} {ρ : List Addr} {S : Sto} {H : Hp} {p : Addr} (so : StOk K b ρ S H) : (ρ ++ [p])[S.len]? = some p := by
  unfold Sto.len
  rw [← so.len, List.getElem?_append_right (Nat.le_refl _)]
  simp
theorem rel_ne {K : PySem.W.Frag} {ρ : List Addr} {H : Hp} {xs : List PV} {vs : List V} (r : RelPs K ρ H xs vs) : vs = [] ↔ xs = [] := by
  cases r <;> simp
theorem rep_rel {K : PySem.W.Frag} {ρ : List Addr} {H : Hp} {xs : List PV} {vs : List V} (r : RelPs K ρ H xs vs) : ∀ n : Nat, RelPs K ρ H (List.replicate n xs).flatten (List.replicate n vs).flatten
  | 0 => .nil
  | n + 1 => by
    rw [List.replicate_succ, List.replicate_succ, List.flatten_cons, List.flatten_cons]
    exact r.app (rep_rel r n)
theorem binOp_ok {X : Cx} (o : Op) : OpR X (binaryOp (opOf o)) (rB X.K T b o) := by
  intro pins s σ H x y vx vy Q I rx ry h
  obtain ⟨E, ρ, S, v, u, so, rv, ru, h⟩ := h
  have fall : ∀ {z : Option PV}, At X.K T b E (relE X.K) ρ S H (match z with
      | some v => R.ok v S
      | none => R.bad) Q → ∃ v, z = some v ∧ At X.K T b E (relE X.K) ρ S H (.ok v S) Q := fun {z} h => by
    cases z with
    | none => exact h.elim
    | some v => exact ⟨v, rfl, h⟩
  have main : ∀ z, opV o v u = some z → At X.K T b E (relE X.K) ρ S H (.ok z S) Q → wpAny (model X.prog X.w) X.A (binaryOp (opOf o) vx vy) (EP X pins σ Q) X.xe s := by
    intro z hz hq
    have fin : ∀ {w : V}, RelP X.K ρ H z w → Q w H := fun {w} r => At.ok so hq r
    unfold opV at hz
    split at hz
    · obtain rfl := rv.of_int; obtain rfl := ru.of_int; cases hz
      exact op_add pins s σ H _ _ vx vy Q I rx ry ⟨_, _, rfl, rfl, fin (.int _)⟩
    · obtain rfl := rv.of_int; obtain rfl := ru.of_int; cases hz
      exact op_sub pins s σ H _ _ vx vy Q I rx ry ⟨_, _, rfl, rfl, fin (.int _)⟩
    · obtain rfl := rv.of_int; obtain rfl := ru.of_int
      split at hz
      · rename_i hc; cases hz
        exact op_mulM pins s σ H _ _ vx vy Q I rx ry ⟨_, _, rfl, rfl, hc, fin (.int _)⟩
      · cases hz
    · obtain rfl := rv.of_int; obtain rfl := ru.of_int
      split at hz
      · rename_i hc; cases hz
        exact op_fdivM pins s σ H _ _ vx vy Q I rx ry ⟨_, _, rfl, rfl, hc, fin (.int _)⟩
      · cases hz
    · obtain rfl := rv.of_int; obtain rfl := ru.of_int
      split at hz
      · cases hz
      · rename_i hc; cases hz
        exact op_modN pins s σ H _ _ vx vy Q I rx ry ⟨_, _, rfl, rfl, hc, fin (.int _)⟩
    · obtain rfl := rv.of_int; obtain rfl := ru.of_int
      split at hz
      · rename_i hc; cases hz
        exact op_powM pins s σ H _ _ vx vy Q I rx ry ⟨_, _, rfl, rfl, hc, fin (.int _)⟩
      · cases hz
    · obtain rfl := rv.of_int; obtain rfl := ru.of_int
      split at hz
      · rename_i hc; cases hz
        exact op_shlM pins s σ H _ _ vx vy Q I rx ry ⟨_, _, rfl, rfl, hc, fin (.int _)⟩
      · cases hz
    · obtain rfl := rv.of_str; obtain rfl := ru.of_str
      split at hz
      · rename_i hc; cases hz
        exact op_add_str pins s σ H _ _ vx vy Q I rx ry ⟨_, _, rfl, rfl, by rw [line_eq]; exact hc, fin (.str _)⟩
      · cases hz
    · obtain ⟨a1, xs, rfl, h1, h2⟩ := rv.of_tup
      obtain ⟨a2, ys, rfl, h3, h4⟩ := ru.of_tup
      split at hz
      · rename_i hc; cases hz
        refine op_catA pins s σ H _ _ vx vy Q I rx ry ⟨_, _, xs, ys, rfl, rfl, h1, h3, by rw [line_eq, ← h2.length, ← h4.length]; exact hc, ?_, ?_, ?_⟩
        · intro e
          have e' := (rel_ne h2).mp e
          subst e'
          exact fin (.tup h3 (by simpa using h4))
        · intro _ e
          have e' := (rel_ne h4).mp e
          subst e'
          exact fin (.tup h1 (by simpa using h2))
        · intro _ _ p hp
          exact hq ρ _ _ (.alloc hp) (so.alloc hp) (.tup (SqT.of upd_same) ((h2.app h4).mono (.new hp) (List.prefix_refl _)))
      · cases hz
    · obtain ⟨a1, xs, rfl, h1, h2⟩ := rv.of_tup
      obtain rfl := ru.of_int
      split at hz
      · rename_i hc; cases hz
        have hc' := Bool.and_eq_true_iff.mp hc
        have hc2 := Bool.and_eq_true_iff.mp hc'.1
        have hc3 := Bool.and_eq_true_iff.mp hc2.1
        refine op_repT pins s σ H _ _ vx vy Q I rx ry ⟨_, _, xs, rfl, rfl, h1, fun e => ?_, of_decide_eq_true hc3.2, of_decide_eq_true hc2.2, by rw [← h2.length]; exact of_decide_eq_true hc'.2, fun p hp => ?_⟩
        · have e' := (rel_ne h2).mp e
          rw [e'] at hc3
          simp at hc3
        · exact hq ρ _ _ (.alloc hp) (so.alloc hp) (.tup (SqT.of upd_same) ((rep_rel h2 _).mono (.new hp) (List.prefix_refl _)))
      · cases hz
    · cases hz
  unfold opR at h
  split at h
  · rename_i a1 a2
    obtain ⟨p1, rfl, e1⟩ := rv.of_ref
    obtain ⟨p2, rfl, e2⟩ := ru.of_ref
    split at h
    · rename_i xs ys q1 q2
      obtain ⟨vs, r1, z1⟩ := so.lst q1 e1
      obtain ⟨ws, r2, z2⟩ := so.lst q2 e2
      split at h
      · rename_i hc
        refine op_cat pins s σ H _ _ vx vy Q I rx ry ⟨_, _, vs, ws, rfl, rfl, z1, z2, by rw [line_eq, ← r1.length, ← r2.length]; exact hc, fun p hp => ?_⟩
        refine h (ρ ++ [p]) _ _ (.push so.base hp) (so.push hp (r1.app r2)) (.ref so.new)
      · exact h.elim
    · exact h.elim
  · obtain ⟨z, hz, hq⟩ := fall h
    exact main z hz hq
end
end MP
namespace MP
open PySem PySem.Spec PyProof.Rows L2
/-! ### comparisons -/
def cmOf : Cm → CmpOp
  | .eq => .Eq
  | .ne => .NotEq
  | .lt => .Lt
  | .le => .LtE
  | .gt => .Gt
  | .ge => .GtE
  | .isn => .Is
  | .nisn => .IsNot
  | .inn => .In
  | .nin => .NotIn
section
variable {b : Nat} {K : PySem.W.Frag} {ρ : List Addr} {S : Sto} {H : Hp}
mutual
theorem dp_of : ∀ {x : PV} {v : V} {d : PyData}, RelP K ρ H x v → x.toD = some d → Dp K H v d
  | _, _, _, .non, e => by cases e; exact .non
  | _, _, _, .bl b, e => by cases e; exact .bl b
  | _, _, _, .int i, e => by cases e; exact .int i
  | _, _, _, .str x, e => by cases e; exact .str x
  | .tup xs, _, d, .tup h hs, e => by
    cases q : PV.toDs xs with
    | none => simp [PV.toD, q] at e
    | some ds =>
      have e' : PyData.tuple ds = d := by simpa [PV.toD, q] using e
      subst e'
      exact .tup h (dps_of hs q)
  | _, _, _, .ref _, e => by simp [PV.toD] at e
theorem dps_of : ∀ {xs : List PV} {vs : List V} {ds : List PyData}, RelPs K ρ H xs vs → PV.toDs xs = some ds → DpAll K H vs ds
  | _, _, _, .nil, e => by cases e; exact .nil
  | x :: xs, _, ds, .cons h hs, e => by
    cases q : x.toD with
    | none => simp [PV.toDs, q] at e
    | some d =>
      cases q2 : PV.toDs xs with
      | none => simp [PV.toDs, q, q2] at e
      | some es =>
        have e' : d :: es = ds := by simpa [PV.toDs, q, q2] using e
        subst e'
        exact .cons (dp_of h q) (dps_of hs q2)
end
theorem dpS_of (so : StOk K b ρ S H) {x : PV} {v : V} {d : PyData} (r : RelP K ρ H x v) (e : toDS S x = some d) : Dp K H v d := by
  unfold toDS at e
  split at e
  · obtain ⟨a, rfl, ea⟩ := r.of_ref
    split at e
    · rename_i xs q
      obtain ⟨vs, rs, hs⟩ := so.sql q ea
      cases q2 : PV.toDs xs with
      | none => rw [q2] at e; cases e
      | some ds =>
        rw [q2] at e; cases e
        exact .lst hs (dps_of rs q2)
    · cases e
  · exact dp_of r e
theorem flat_of {x : PV} {v : V} (r : RelP K ρ H x v) (f : x.flat = true) : flatV v = true := by
  cases r <;> first | rfl | cases f
theorem eqF_of {x y : PV} {v u : V} (r : RelP K ρ H x v) (q : RelP K ρ H y u) (f : x.flat = true) (g : y.flat = true) : x.eqF y = L2.eqV v u := by
  cases r <;> cases q <;> first | rfl | (exact absurd f (by decide)) | (exact absurd g (by decide)) | (simp [PV.flat] at f) | (simp [PV.flat] at g)
theorem flats_of : ∀ {xs : List PV} {vs : List V}, RelPs K ρ H xs vs → xs.all PV.flat = true → vs.all flatV = true
  | _, _, .nil, _ => rfl
  | _, _, .cons r t, f => by
    rw [List.all_cons, Bool.and_eq_true] at f
    rw [List.all_cons, flat_of r f.1, flats_of t f.2]
    rfl
theorem inF_of {y : PV} {u : V} (q : RelP K ρ H y u) (g : y.flat = true) : ∀ {xs : List PV} {vs : List V}, RelPs K ρ H xs vs → xs.all PV.flat = true → (xs.any fun z => z.eqF y) = inV u vs
  | _, _, .nil, _ => rfl
  | _, _, .cons r t, f => by
    rw [List.all_cons, Bool.and_eq_true] at f
    have ih := inF_of q g t f.2
    rw [List.any_cons, ih, eqF_of r q f.1 g]
    rfl
theorem seq_of (so : StOk K b ρ S H) {y : PV} {u : V} {xs : List PV} (r : RelP K ρ H y u) (e : seqOf S y = some xs) : ∃ a vs, u = .ref a ∧ RelPs K ρ H xs vs ∧ (SqL K H a vs ∨ SqT K H a vs) := by
  unfold seqOf at e
  split at e
  · cases e
    obtain ⟨a, vs, rfl, h, rs⟩ := r.of_tup
    exact ⟨a, vs, rfl, rs, .inr h⟩
  · obtain ⟨a, rfl, ea⟩ := r.of_ref
    obtain ⟨vs, rs, hs⟩ := so.sql e ea
    exact ⟨a, vs, rfl, rs, .inl hs⟩
  · cases e
def rC (K : PySem.W.Frag) (b : Nat) (o : Cm) : R2 := fun x y H Q => ∃ ρ S v u c, StOk K b ρ S H ∧ RelP K ρ H v x ∧ RelP K ρ H u y ∧ cmV S o v u = some c ∧ Q (.bl c) H
theorem cmOp_ok {X : Cx} (o : Cm) (hu : X.A.units + 64 < cLine) : OpR X (compareOp (cmOf o)) (rC X.K b o) := by
  intro pins s σ H x y vx vy Q I rx ry h
  obtain ⟨ρ, S, v, u, c, so, rv, ru, hc, q⟩ := h
  have int2 : ∀ {f : Int → Int → Bool}, cmI f v u = some c → ∃ i j, x = .int i ∧ y = .int j ∧ f i j = c := fun {f} e => by
    unfold cmI at e
    split at e
    · cases e
      exact ⟨_, _, rv.of_int, ru.of_int, rfl⟩
    · cases e
  have eqq : ∀ {d}, eqV S v u = some d → ∃ p e, Dp X.K H x p ∧ Dp X.K H y e ∧ SeqAt.shaped p = true ∧ SeqAt.shaped e = true ∧ PyData.eqv p e = d := fun {d} e => by
    unfold eqV at e
    split at e
    · rename_i p r q1 q2
      split at e
      · rename_i hs
        cases e
        have hs' := Bool.and_eq_true_iff.mp hs
        exact ⟨p, r, dpS_of so rv q1, dpS_of so ru q2, hs'.1, hs'.2, rfl⟩
      · cases e
    · cases e
  have isv : ∀ {d}, isV v u = some d → (y = .non ∧ d = decide (x = .non)) ∨ ∃ i j, x = .bl i ∧ y = .bl j ∧ d = decide (i = j) := fun {d} e => by
    unfold isV at e
    split at e
    · cases e; exact .inl ⟨ru.of_non, rv.is_non.symm⟩
    · split at e
      · cases e; exact .inr ⟨_, _, rv.of_bl, ru.of_bl, rfl⟩
      · cases e
    · cases e
  have inn : ∀ {d}, inSeq S v u = some d → ∃ p xs, y = .ref p ∧ (SqL X.K H p xs ∨ SqT X.K H p xs) ∧ flatV x = true ∧ xs.all flatV = true ∧ inV x xs = d := fun {d} e => by
    unfold inSeq at e
    split at e
    · rename_i xs q1
      split at e
      · rename_i hs
        cases e
        have hs' := Bool.and_eq_true_iff.mp hs
        obtain ⟨a, vs, rfl, rs, hq⟩ := seq_of so ru q1
        exact ⟨a, vs, rfl, hq, flat_of rv hs'.1, flats_of rs hs'.2, (inF_of rv hs'.1 rs hs'.2).symm⟩
      · cases e
    · cases e
  cases o with
  | eq =>
    obtain ⟨p, e, h1, h2, h3, h4, rfl⟩ := eqq hc
    exact op_eqD hu pins s σ H x y vx vy Q I rx ry ⟨p, e, h1, h2, h3, h4, q⟩
  | ne =>
    cases q1 : eqV S v u with
    | none => rw [show cmV S .ne v u = (eqV S v u).map (!·) from rfl, q1] at hc; cases hc
    | some d =>
      rw [show cmV S .ne v u = (eqV S v u).map (!·) from rfl, q1] at hc
      cases hc
      obtain ⟨p, e, h1, h2, h3, h4, rfl⟩ := eqq q1
      exact op_neD hu pins s σ H x y vx vy Q I rx ry ⟨p, e, h1, h2, h3, h4, q⟩
  | lt =>
    obtain ⟨i, j, rfl, rfl, rfl⟩ := int2 (f := fun a b => decide (a < b)) hc
    exact op_lt pins s σ H _ _ vx vy Q I rx ry ⟨i, j, rfl, rfl, q⟩
  | le =>
    obtain ⟨i, j, rfl, rfl, rfl⟩ := int2 (f := fun a b => decide (a ≤ b)) hc
    exact op_le pins s σ H _ _ vx vy Q I rx ry ⟨i, j, rfl, rfl, q⟩
  | gt =>
    obtain ⟨i, j, rfl, rfl, rfl⟩ := int2 (f := fun a b => decide (b < a)) hc
    exact op_gt pins s σ H _ _ vx vy Q I rx ry ⟨i, j, rfl, rfl, q⟩
  | ge =>
    obtain ⟨i, j, rfl, rfl, rfl⟩ := int2 (f := fun a b => decide (b ≤ a)) hc
    exact op_ge pins s σ H _ _ vx vy Q I rx ry ⟨i, j, rfl, rfl, q⟩
  | isn =>
    rcases isv hc with ⟨rfl, rfl⟩ | ⟨i, j, rfl, rfl, rfl⟩
    · exact op_isN pins s σ H x _ vx vy Q I rx ry ⟨rfl, q⟩
    · exact op_is_bl pins s σ H _ _ vx vy Q I rx ry ⟨_, _, rfl, rfl, q⟩
  | nisn =>
    cases q1 : isV v u with
    | none => rw [show cmV S .nisn v u = (isV v u).map (!·) from rfl, q1] at hc; cases hc
    | some d =>
      rw [show cmV S .nisn v u = (isV v u).map (!·) from rfl, q1] at hc
      cases hc
      rcases isv q1 with ⟨rfl, rfl⟩ | ⟨i, j, rfl, rfl, rfl⟩
      · exact op_notN pins s σ H x _ vx vy Q I rx ry ⟨rfl, q⟩
      · exact op_isnot_bl pins s σ H _ _ vx vy Q I rx ry ⟨_, _, rfl, rfl, q⟩
  | inn =>
    obtain ⟨p, xs, h1, h2, h3, h4, rfl⟩ := inn hc
    exact op_in_seq pins s σ H x y vx vy Q I rx ry ⟨p, xs, h1, h2, h3, h4, q⟩
  | nin =>
    cases q1 : inSeq S v u with
    | none => rw [show cmV S .nin v u = (inSeq S v u).map (!·) from rfl, q1] at hc; cases hc
    | some d =>
      rw [show cmV S .nin v u = (inSeq S v u).map (!·) from rfl, q1] at hc
      cases hc
      obtain ⟨p, xs, h1, h2, h3, h4, rfl⟩ := inn q1
      exact op_notIn_seq pins s σ H x y vx vy Q I rx ry ⟨p, xs, h1, h2, h3, h4, q⟩
end
/-! ### truth, items, slices -/
section
variable {b : Nat} {K : PySem.W.Frag} {ρ : List Addr} {S : Sto} {H : Hp}
theorem tru_of (so : StOk K b ρ S H) {x : PV} {v : V} {c : Bool} (r : RelP K ρ H x v) (e : truV S x = some c) : TruV K v H c := by
  have ie : ∀ {xs : List PV} {vs : List V}, RelPs K ρ H xs vs → (!xs.isEmpty) = !vs.isEmpty := fun {xs vs} r => by cases r <;> rfl
  unfold truV at e
  split at e
  · cases e; obtain rfl := r.of_non; rfl
  · cases e; obtain rfl := r.of_bl; rfl
  · cases e; obtain rfl := r.of_int; rfl
  · obtain rfl := r.of_str
    split at e
    · rename_i hl
      cases e
      refine ⟨by rw [line_eq]; exact hl, ?_⟩
      rw [Bool.eq_iff_iff]
      simp
    · cases e
  · cases e
    obtain ⟨a, vs, rfl, h, rs⟩ := r.of_tup
    exact .inr (.inl ⟨vs, h, ie rs⟩)
  · obtain ⟨a, rfl, ea⟩ := r.of_ref
    split at e
    · rename_i xs q
      cases e
      obtain ⟨vs, rs, hs⟩ := so.sql (show S.lst? _ = some xs by unfold Sto.lst?; rw [q]) ea
      exact .inl ⟨vs, hs, ie rs⟩
    · rename_i xs q
      cases e
      obtain ⟨vs, rs, hs⟩ := so.sql (show S.lst? _ = some xs by unfold Sto.lst?; rw [q]) ea
      exact .inl ⟨vs, hs, ie rs⟩
    · cases e
theorem atI_rel {xs : List PV} {vs : List V} {i : Int} {x : PV} (r : RelPs K ρ H xs vs) (e : MP.itemAt xs i = some x) : ∃ v, L2.atI vs i = some v ∧ RelP K ρ H x v := by
  unfold MP.itemAt at e
  cases q : MP.placeOf xs.length i with
  | none => rw [q] at e; cases e
  | some j =>
    rw [q] at e
    have e' : xs[j]? = some x := e
    obtain ⟨v, h1, h2⟩ := r.get e'
    refine ⟨v, ?_, h2⟩
    unfold L2.atI
    rw [← r.length, show L2.ixN xs.length i = some j from q]
    exact h1
def rI' (K : PySem.W.Frag) (b : Nat) : R2 := fun x y H Q => ∃ ρ S v u z, StOk K b ρ S H ∧ RelP K ρ H v x ∧ RelP K ρ H u y ∧ ixV S v u = some z ∧ ∀ w, RelP K ρ H z w → Q w H
theorem ix_ok {X : Cx} : IxR X (rI' X.K b) := by
  intro value slice pins s σ H x y vx vy Q I rx ry h hs
  obtain ⟨ρ, S, v, u, z, so, rv, ru, hz, q⟩ := h
  refine ix_seq value slice pins s σ H x y vx vy Q I rx ry ?_ hs
  unfold ixV at hz
  split at hz
  · obtain ⟨a, vs, rfl, h, rs⟩ := rv.of_tup
    obtain rfl := ru.of_int
    obtain ⟨w, h1, h2⟩ := atI_rel rs hz
    exact .inr (.inl ⟨a, vs, _, w, rfl, rfl, h, h1, q w h2⟩)
  · obtain ⟨a, rfl, ea⟩ := rv.of_ref
    obtain rfl := ru.of_int
    cases e : S.lst? _ with
    | none => rw [e] at hz; cases hz
    | some xs =>
      rw [e] at hz
      obtain ⟨vs, rs, hs⟩ := so.sql e ea
      obtain ⟨w, h1, h2⟩ := atI_rel rs hz
      exact .inl ⟨a, vs, _, w, rfl, rfl, hs, h1, q w h2⟩
  · rename_i zz ii
    obtain rfl := rv.of_str
    obtain rfl := ru.of_int
    split at hz
    · rename_i hl
      cases e : MP.itemAt zz.cps.toList ii with
      | none => rw [e] at hz; cases hz
      | some c =>
        rw [e] at hz
        cases hz
        exact .inr (.inr ⟨zz, ii, c, rfl, rfl, by rw [line_eq]; exact hl, e, q _ (.str _)⟩)
    · cases hz
  · cases hz
theorem edge_eq (n d : Nat) (o : Option Int) : HT.sIx n d o = MP.edge n d o := by
  cases o <;> rfl
theorem cut_rel {xs : List PV} {vs : List V} (r : RelPs K ρ H xs vs) (lo hi : Option Int) : RelPs K ρ H (cut xs lo hi) (cutV vs lo hi) := by
  unfold cut cutV
  rw [← r.length]
  simp only [edge_eq]
  exact (r.drop _).take _
theorem cut_whole {α : Type} {xs : List α} {lo hi : Option Int} (h1 : MP.edge xs.length 0 lo = 0) (h2 : MP.edge xs.length xs.length hi = xs.length) : cut xs lo hi = xs := by
  unfold cut
  rw [h1, h2]
  simp
def rSl (K : PySem.W.Frag) (T : Exc) (b : Nat) : V → Option Int → Option Int → Hp → VK → Prop := fun x lo hi H Q => ∃ E ρ S v, StOk K b ρ S H ∧ RelP K ρ H v x ∧ At K T b E (relE K) ρ S H (slR S v lo hi) Q
theorem sl_ok {T : Exc} {X : Cx} : SlR X (rSl X.K T b) := by
  intro pins s σ H x v vl vu lo hi sl Q I rx hs pl pu h
  obtain ⟨E, ρ, S, z, so, rv, h⟩ := h
  unfold slR at h
  split at h
  · obtain ⟨a, vs, rfl, hv, rs⟩ := rv.of_tup
    refine sl_tupA pins s σ H _ v vl vu lo hi sl Q I rx hs pl pu ⟨a, vs, rfl, hv, fun ⟨e1, e2⟩ => ?_, fun _ p hp => ?_⟩
    · rw [edge_eq, ← rs.length] at e1 e2
      rw [cut_whole e1 e2] at h
      exact At.ok so h (.tup hv rs)
    · exact h ρ _ _ (.alloc hp) (so.alloc hp) (.tup (SqT.of upd_same) ((cut_rel rs lo hi).mono (.new hp) (List.prefix_refl _)))
  · obtain ⟨a, rfl, ea⟩ := rv.of_ref
    split at h
    · rename_i xs e
      obtain ⟨vs, rs, hv⟩ := so.sql e ea
      exact sl_list pins s σ H _ v vl vu lo hi sl Q I rx hs pl pu ⟨a, vs, rfl, hv, fun p hp => h (ρ ++ [p]) _ _ (.push so.base hp) (so.push hp (cut_rel rs lo hi)) (.ref so.new)⟩
    · exact h.elim
  · obtain rfl := rv.of_str
    split at h
    · rename_i hl
      refine sl_str pins s σ H _ v vl vu lo hi sl Q I rx hs pl pu ⟨_, rfl, by rw [line_eq]; exact hl, At.ok so h ?_⟩
      unfold cutS
      simp only [edge_eq, cut, Array.length_toList]
      exact .str _
    · exact h.elim
  · exact h.elim
end
end MP
end
section
set_option Elab.async false
set_option linter.all false
set_option maxRecDepth 100000
/-! MPSound4: built-in functions; an expression's text and its run. -/
namespace MP
open PySem PySem.Spec PyProof.Rows L2
theorem CallR.weak {X : Cx} {f : Value} {r r' : List V → Hp → VK → Prop} (h : CallR X f r) (w : ∀ xs H Q, r' xs H Q → r xs H Q) : CallR X f r' := fun pins s σ H xs us Q I rx q => h pins s σ H xs us Q I rx (w xs H Q q)
section
variable {K : PySem.W.Frag} {b : Nat} {ρ : List Addr} {S : Sto} {H : Hp}
def rBi (K : PySem.W.Frag) (T : Exc) (b : Nat) (f : Bi) : List V → Hp → VK → Prop := fun vs H Q => ∃ E ρ S xs, StOk K b ρ S H ∧ RelPs K ρ H xs vs ∧ At K T b E (relE K) ρ S H (biR S f xs) Q
/-- what a built-in's number stands for -/
def biVal : Bi → Value
  | .abs => .builtin "abs"
  | .int => .type "int"
  | .len => .builtin "len"
  | .list => .type "list"
  | .tuple => .type "tuple"
  | .gcd => .builtin "math.gcd"
  | .max2 => .builtin "max"
  | .min2 => .builtin "min"
  | .str => .type "str"
  | .sum => .builtin "sum"
  | .sorted => .builtin "sorted"
  | .all => .builtin "all"
  | .any => .builtin "any"
  | .bool => .type "bool"
  | .maxL => .builtin "max"
  | .minL => .builtin "min"
theorem ints_of : ∀ {xs : List PV} {vs : List V} {ns : List Int}, RelPs K ρ H xs vs → intsOf xs = some ns → vs = ns.map V.int
  | [], _, ns, .nil, e => by cases e; rfl
  | x :: xs, _, ns, .cons r t, e => by
    cases x with
    | int i =>
      cases q : intsOf xs with
      | none => simp [intsOf, q] at e
      | some ms =>
        have e' : i :: ms = ns := by simpa [intsOf, q] using e
        subst e'
        obtain rfl := r.of_int
        rw [ints_of t q]
        rfl
    | _ => simp [intsOf] at e
theorem bls_of : ∀ {xs : List PV} {vs : List V} {ns : List Bool}, RelPs K ρ H xs vs → blsOf xs = some ns → vs = ns.map V.bl
  | [], _, ns, .nil, e => by cases e; rfl
  | x :: xs, _, ns, .cons r t, e => by
    cases x with
    | bl i =>
      cases q : blsOf xs with
      | none => simp [blsOf, q] at e
      | some ms =>
        have e' : i :: ms = ns := by simpa [blsOf, q] using e
        subst e'
        obtain rfl := r.of_bl
        rw [bls_of t q]
        rfl
    | _ => simp [blsOf] at e
theorem bi_ok {T : Exc} {X : Cx} (hc : X.calm = true) (f : Bi) : CallR X (biVal f) (rBi X.K T b f) := by
  intro pins s σ H vs us Q I rv h
  obtain ⟨E, ρ, S, xs, so, rs, h⟩ := h
  unfold biR at h
  split at h
  · obtain ⟨v, rfl, r⟩ := rs.one
    obtain rfl := r.of_int
    exact call_abs pins s σ H _ us Q I rv ⟨_, rfl, At.ok so h (.int _)⟩
  · obtain ⟨v, rfl, r⟩ := rs.one
    obtain rfl := r.of_int
    exact call_int1 pins s σ H _ us Q I rv (.inl ⟨_, rfl, At.ok so h (.int _)⟩)
  · obtain ⟨v, rfl, r⟩ := rs.one
    obtain rfl := r.of_bl
    exact call_int1 pins s σ H _ us Q I rv (.inr ⟨_, rfl, At.ok so h (.int _)⟩)
  · obtain ⟨v, rfl, r⟩ := rs.one
    obtain ⟨a, ws, rfl, hs, rw'⟩ := r.of_tup
    refine call_len_seq pins s σ H _ us Q I rv ⟨a, ws, rfl, .inr hs, ?_⟩
    rw [← rw'.length]
    exact At.ok so h (.int _)
  · obtain ⟨v, rfl, r⟩ := rs.one
    obtain rfl := r.of_str
    split at h
    · rename_i hl
      exact call_len_str pins s σ H _ us Q I rv ⟨_, rfl, by rw [line_eq]; exact hl, At.ok so h (.int _)⟩
    · exact h.elim
  · obtain ⟨v, rfl, r⟩ := rs.one
    obtain ⟨a, rfl, ea⟩ := r.of_ref
    split at h
    · rename_i ys e
      obtain ⟨ws, rw', hs⟩ := so.sql e ea
      refine call_len_seq pins s σ H _ us Q I rv ⟨a, ws, rfl, .inl hs, ?_⟩
      rw [← rw'.length]
      exact At.ok so h (.int _)
    · exact h.elim
  · obtain ⟨v, rfl, r⟩ := rs.one
    split at h
    · rename_i ys e
      obtain ⟨a, ws, rfl, rw', hs⟩ := seq_of so r e
      exact call_list_of pins s σ H _ us Q I rv ⟨a, ws, rfl, hs, fun p hp => h (ρ ++ [p]) _ _ (.push so.base hp) (so.push hp rw') (.ref so.new)⟩
    · exact h.elim
  · obtain ⟨v, rfl, r⟩ := rs.one
    obtain ⟨a, ws, rfl, hs, rw'⟩ := r.of_tup
    exact call_tuple_of pins s σ H _ us Q I rv ⟨a, ws, rfl, .inr ⟨hs, At.ok so h (.tup hs rw')⟩⟩
  · obtain ⟨v, rfl, r⟩ := rs.one
    obtain ⟨a, rfl, ea⟩ := r.of_ref
    split at h
    · rename_i ys e
      obtain ⟨ws, rw', hs⟩ := so.sql e ea
      exact call_tuple_of pins s σ H _ us Q I rv ⟨a, ws, rfl, .inl ⟨hs, fun p hp => h ρ _ _ (.alloc hp) (so.alloc hp) (.tup (SqT.of upd_same) (rw'.mono (.new hp) (List.prefix_refl _)))⟩⟩
    · exact h.elim
  · obtain ⟨v, w, rfl, r, q⟩ := rs.two
    obtain rfl := r.of_int
    obtain rfl := q.of_int
    exact cr_gcd pins s σ H _ us Q I rv ⟨_, _, rfl, At.ok so h (.int _)⟩
  · obtain ⟨v, w, rfl, r, q⟩ := rs.two
    obtain rfl := r.of_int
    obtain rfl := q.of_int
    exact call_max2 hc pins s σ H _ us Q I rv ⟨_, _, rfl, At.ok so h (.int _)⟩
  · obtain ⟨v, w, rfl, r, q⟩ := rs.two
    obtain rfl := r.of_int
    obtain rfl := q.of_int
    exact call_min2 hc pins s σ H _ us Q I rv ⟨_, _, rfl, At.ok so h (.int _)⟩
  · obtain ⟨v, rfl, r⟩ := rs.one
    obtain rfl := r.of_int
    split at h
    · rename_i hl
      exact call_str_int pins s σ H _ us Q I rv ⟨_, rfl, hl, At.ok so h (.str _)⟩
    · exact h.elim
  · obtain ⟨v, rfl, r⟩ := rs.one
    obtain ⟨a, rfl, ea⟩ := r.of_ref
    split at h
    · rename_i k _ ns e
      cases q : S.lst? k with
      | none => rw [q] at e; cases e
      | some ys =>
        rw [q] at e
        obtain ⟨ws, rw', hs⟩ := so.sql q ea
        have e' := ints_of rw' e
        subst e'
        exact cr_sum hc pins s σ H _ us Q I rv ⟨a, ns, rfl, hs, At.ok so h (.int _)⟩
    · exact h.elim
  · obtain ⟨v, rfl, r⟩ := rs.one
    obtain ⟨a, rfl, ea⟩ := r.of_ref
    split at h
    · rename_i k _ ns e
      cases q : S.lst? k with
      | none => rw [q] at e; cases e
      | some ys =>
        rw [q] at e
        obtain ⟨ws, rw', hs⟩ := so.sql q ea
        have e' := bls_of rw' e
        subst e'
        exact cr_all hc pins s σ H _ us Q I rv ⟨a, ns, rfl, hs, At.ok so h (.bl _)⟩
    · exact h.elim
  · obtain ⟨v, rfl, r⟩ := rs.one
    obtain ⟨a, rfl, ea⟩ := r.of_ref
    split at h
    · rename_i k _ ns e
      cases q : S.lst? k with
      | none => rw [q] at e; cases e
      | some ys =>
        rw [q] at e
        obtain ⟨ws, rw', hs⟩ := so.sql q ea
        have e' := bls_of rw' e
        subst e'
        exact cr_any hc pins s σ H _ us Q I rv ⟨a, ns, rfl, hs, At.ok so h (.bl _)⟩
    · exact h.elim
  · exact h.elim
/-! ### isinstance -/
def tyName : Ty → String
  | .int => "int"
  | .bool => "bool"
  | .str => "str"
  | .tup => "tuple"
theorem ty_ok {x : PV} {v : V} {t : Ty} {c : Bool} (r : RelP K ρ H x v) (e : isTy x t = some c) : ∃ u, TyX K H v u ∧ PySem.W.kitOne K u (.type (tyName t)) = some c := by
  unfold isTy at e
  split at e <;> cases e
  · obtain rfl := r.of_non
    exact ⟨_, .base .non, by cases t <;> exact kit_ty (by decide +kernel)⟩
  · obtain rfl := r.of_bl
    exact ⟨_, .base (.bl _), kit_ty (by decide +kernel)⟩
  · obtain rfl := r.of_bl
    exact ⟨_, .base (.bl _), kit_ty (by decide +kernel)⟩
  · obtain rfl := r.of_bl
    refine ⟨_, .base (.bl _), ?_⟩
    cases t <;> first | exact kit_ty (by decide +kernel) | simp_all
  · obtain rfl := r.of_int
    exact ⟨_, .base (.int _), kit_ty (by decide +kernel)⟩
  · obtain rfl := r.of_int
    refine ⟨_, .base (.int _), ?_⟩
    cases t <;> first | exact kit_ty (by decide +kernel) | simp_all
  · obtain rfl := r.of_str
    exact ⟨_, .base (.str _), kit_ty (by decide +kernel)⟩
  · obtain rfl := r.of_str
    refine ⟨_, .base (.str _), ?_⟩
    cases t <;> first | exact kit_ty (by decide +kernel) | simp_all
  all_goals
    obtain ⟨a, vs, rfl, hs, _⟩ := r.of_tup
    have ty : TyX K H (.ref a) (.type "tuple") := by
      rcases hs with (hs | ⟨o, hs⟩) | ⟨o, its, n, hk, hc, _⟩
      · exact .base (.tup hs)
      · exact .fTuple hs
      · exact .kTuple hk hc
    refine ⟨_, ty, ?_⟩
    first | exact kit_ty (by decide +kernel) | (cases t <;> first | exact kit_ty (by decide +kernel) | simp_all)
end
end MP
end
section
set_option Elab.async false
set_option linter.all false
set_option maxRecDepth 100000
/-! MPSound5: whether a row of the text is an expression of MP; if so, it runs like it. -/
namespace MP
open PySem PySem.Spec PyProof.Rows L2
/-! ### the look at a text -/
/-- the names of a text: its defs by number; its exception classes, each with its attributes' names and the names of classes that it is under; constants; which built-in names mean what they mean -/
structure Tab where
  fns : List Str
  cls : List (Str × List Str × List Str)
  glb : List (Str × PV)
  bi : List Str
def nameB (x : Str) : Bool := !(x == ("__debug__" : Str)) && !(x == ("__classdict__" : Str)) && !(x == ("__name__" : Str))
def kindB (sc : Scope) (x : Str) (k : NameKind) : Bool := decide (sc.names.lookup x = some k)
def visB (sc : Scope) (x : Str) : Bool := kindB sc x .local || kindB sc x .cell || kindB sc x .free
def locB (sc : Scope) (x : Str) : Bool := kindB sc x .local || kindB sc x .cell
def gloB (sc : Scope) (x : Str) : Bool := kindB sc x .globalImplicit && nameB x
def atB (N : List Str) (i : Nat) (x : Str) : Bool := decide (N[i]? = some x)
/-- an operator's look -/
def opB : Op → Operator → Bool
  | .add, .Add | .sub, .Sub | .mul, .Mult | .fdiv, .FloorDiv | .mod, .Mod | .pow, .Pow | .shl, .LShift => true
  | _, _ => false
def cmB : Cm → CmpOp → Bool
  | .eq, .Eq | .ne, .NotEq | .lt, .Lt | .le, .LtE | .gt, .Gt | .ge, .GtE | .isn, .Is | .nisn, .IsNot | .inn, .In | .nin, .NotIn => true
  | _, _ => false
theorem opB_ok {o : Op} {p : Operator} (h : opB o p = true) : p = opOf o := by cases o <;> cases p <;> first | rfl | cases h
theorem cmB_ok {o : Cm} {p : CmpOp} (h : cmB o p = true) : p = cmOf o := by cases o <;> cases p <;> first | rfl | cases h
/-- the name by which a built-in is called -/
def biName : Bi → Str
  | .abs => "abs"
  | .int => "int"
  | .len => "len"
  | .list => "list"
  | .tuple => "tuple"
  | .gcd => "gcd"
  | .max2 => "max"
  | .min2 => "min"
  | .str => "str"
  | .sum => "sum"
  | .sorted => "sorted"
  | .all => "all"
  | .any => "any"
  | .bool => "bool"
  | .maxL => "max"
  | .minL => "min"
def constB (T : Tab) (sc : Scope) (v : PV) : Expr → Bool
  | .Constant (.int i) _ _ => decide (v = .int i)
  | .Constant (.str x) _ _ => decide (v = .str x)
  | .Constant (.bool c) _ _ => decide (v = .bl c)
  | .Constant .none _ _ => decide (v = .non)
  | .Name x _ => gloB sc x && T.glb.any fun p => decide (p = (x, v))
  | _ => false
def isSlice : Expr → Bool
  | .Slice _ _ _ _ => true
  | _ => false
mutual
def Tg.slots : Tg → List Nat
  | .name i => [i]
  | .tup ts => Tgs.slots ts
def Tgs.slots : Tgs → List Nat
  | .nil => []
  | .cons t ts => t.slots ++ ts.slots
end
section
variable (T : Tab) (N : List Str)
mutual
def tgB (lo : Bool) (sc : Scope) : Tg → Expr → Bool
  | .name i, e => match e with
    | .Name x _ => atB N i x && (if lo then kindB sc x .local else locB sc x)
    | _ => false
  | .tup ts, e => match e with
    | .Tuple es _ _ => tgsB lo sc ts es
    | _ => false
def tgsB (lo : Bool) (sc : Scope) : Tgs → List Expr → Bool
  | .nil, es => es.isEmpty
  | .cons t ts, es => match es with
    | e :: es => tgB lo sc t e && tgsB lo sc ts es
    | [] => false
end
mutual
/-- hx: the slot and class's number of the exception that is held (a suite); cl: no exception is handled -/
def trB (sc : Scope) (cl : Bool) (hx : Option (Nat × Nat)) : E → Expr → Bool
  | .var i, e => match e with
    | .Name x _ => atB N i x && visB sc x && nameB x && !(hx.any fun p => decide (p.1 = i))
    | _ => false
  | .cst v, e => constB T sc v e
  | .tup es, e => match e with
    | .Tuple fs _ _ => trsB sc cl hx es fs && decide (fs.length ≤ 1000)
    | _ => false
  | .lst es, e => match e with
    | .List fs _ => trsB sc cl hx es fs && decide (fs.length ≤ 1000)
    | _ => false
  | .bin o a c, e => match e with
    | .BinOp x p y _ => opB o p && trB sc cl hx a x && trB sc cl hx c y
    | _ => false
  | .neg a, e => match e with
    | .UnaryOp .USub x _ => trB sc cl hx a x
    | _ => false
  | .not a, e => match e with
    | .UnaryOp .Not x _ => trB sc cl hx a x
    | _ => false
  | .and a c, e => match e with
    | .BoolOp .And [x, y] _ => trB sc cl hx a x && trB sc cl hx c y
    | .BoolOp .And (x :: y :: z :: r) p => trB sc cl hx a x && trB sc cl hx c (.BoolOp .And (y :: z :: r) p)
    | _ => false
  | .or a c, e => match e with
    | .BoolOp .Or [x, y] _ => trB sc cl hx a x && trB sc cl hx c y
    | .BoolOp .Or (x :: y :: z :: r) p => trB sc cl hx a x && trB sc cl hx c (.BoolOp .Or (y :: z :: r) p)
    | _ => false
  | .cmp o a c, e => match e with
    | .Compare x [p] [y] _ => cmB o p && trB sc cl hx a x && trB sc cl hx c y && !behindInMarks p y
    | _ => false
  | .chain o o' a c d, e => match e with
    | .Compare x [p, p'] [y, z] _ => cmB o p && cmB o' p' && trB sc cl hx a x && trB sc cl hx c y && trB sc cl hx d z && !lastMarks [p, p'] [y, z]
    | _ => false
  | .ife c a d, e => match e with
    | .IfExp z x y _ => trB sc cl hx c z && trB sc cl hx a x && trB sc cl hx d y
    | _ => false
  | .ix a c, e => match e with
    | .Subscript x y _ => trB sc cl hx a x && trB sc cl hx c y && !isSlice y
    | _ => false
  | .slc a lo hi, e => match e with
    | .Subscript x (.Slice l h none _) _ => trB sc cl hx a x && troB sc cl hx lo l && troB sc cl hx hi h
    | _ => false
  | .call f es, e => match e with
    | .Call (.Name x _) (g :: gs) [] _ => cl && gloB sc x && decide (T.fns[f]? = some x) && trsB sc cl hx es (g :: gs)
    | _ => false
  | .bi f es, e => match e with
    | .Call (.Name x _) (g :: gs) [] _ => cl && gloB sc x && decide (biName f = x) && T.bi.contains x && trsB sc cl hx es (g :: gs)
    | _ => false
  | .isi a t, e => match e with
    | .Call (.Name x _) [y, .Name z _] [] _ => gloB sc x && gloB sc z && decide (x = "isinstance") && decide (z = tyName t) && T.bi.contains x && T.bi.contains z && trB sc cl hx a y
    | _ => false
  | .eat i j, e => match e with
    | .Attribute (.Name x _) f _ => match hx with
      | some (k, c) => decide (k = i) && atB N i x && visB sc x && nameB x && decide ((T.cls[c]?.bind fun p => p.2.1[j]?) = some f)
      | none => false
    | _ => false
  | .eisi i, e => match e with
    | .Call (.Name x _) [.Name y _, .Name z _] [] _ => match hx with
      | some (k, c) => decide (k = i) && atB N i y && visB sc y && nameB y && gloB sc x && decide (x = "isinstance") && T.bi.contains x && gloB sc z && ((T.cls[c]?).any fun p => p.2.1.isEmpty && p.2.2.contains z)
      | none => false
    | _ => false
  | .lc t own it c e', e => match e with
    | .ListComp elt [⟨tg, iter, ifs, 0⟩] scope _ => cl && hx.isNone && blkC N sc scope (own.map fun i => ((N[i]?).getD Str.empty, i)) && tgB N true (relS scope sc) t tg && ((Tg.slots t).all fun i => decide (i ∈ own)) && tiB sc it tg iter
        && (match ifs with
          | [] => match c with
            | .none => true
            | .some _ => false
          | [z] => troB (relS scope sc) cl none c (some z) && (match c with
            | .none => false
            | .some _ => true)
          | _ => false) && trB (relS scope sc) cl none e' elt
    | _ => false
def trsB (sc : Scope) (cl : Bool) (hx : Option (Nat × Nat)) : Es → List Expr → Bool
  | .nil, es => es.isEmpty
  | .cons e es, fs => match fs with
    | f :: fs => trB sc cl hx e f && trsB sc cl hx es fs
    | [] => false
def troB (sc : Scope) (cl : Bool) (hx : Option (Nat × Nat)) : Eo → Option Expr → Bool
  | .none, o => o.isNone
  | .some e, o => match o with
    | some f => trB sc cl hx e f
    | none => false
/-- what a for walks, tg its target -/
def tiB (sc : Scope) : It → Expr → Expr → Bool
  | .seq e, _, f => trB sc true none e f
  | .rng1 e, _, f => match f with
    | .Call (.Name x _) [g] [] _ => gloB sc x && decide (x = "range") && T.bi.contains x && trB sc true none e g
    | _ => false
  | .rng2 a c, _, f => match f with
    | .Call (.Name x _) [g, h] [] _ => gloB sc x && decide (x = "range") && T.bi.contains x && trB sc true none a g && trB sc true none c h
    | _ => false
  | .zip a c, t, f => match t, f with
    | .Tuple _ _ _, .Call (.Name x _) [g, h] [] _ => gloB sc x && decide (x = "zip") && T.bi.contains x && trB sc true none a g && trB sc true none c h
    | _, _ => false
  | .enum a, t, f => match t, f with
    | .Tuple _ _ _, .Call (.Name x _) [g] [] _ => gloB sc x && decide (x = "enumerate") && T.bi.contains x && trB sc true none a g
    | _, _ => false
end
end
end MP
end
section
set_option Elab.async false
set_option linter.all false
set_option maxRecDepth 100000
set_option maxHeartbeats 1000000
/-! MPSound6: an expression's run in the model. -/
namespace MP
open PySem PySem.Spec PyProof.Rows L2
/-- a def's promise: it runs as C says -/
def spC (K : PySem.W.Frag) (T : Exc) (r : List PV → Sto → R PV) : Sp := fun vs H Q E => ∃ ρ S args, StOk K S.cells.length ρ S H ∧ RelPs K ρ H args vs ∧ At K T S.cells.length E (relE K) ρ S H (r args S) Q
/-- what the text's top leaves of an exception class -/
structure ExcK (K : PySem.W.Frag) (mg : Str → Option Value) (A : Addr) (n : Str) (fs : List Str) : Prop where
  gl : mg n = some (.ref A)
  kp : PySem.W.keepIn K (.ref A) = true
  sb : PySem.W.subIn K (.ref A) (.type "BaseException") = some true
  ty : PySem.W.typeIn K (.ref A) = some (.type "type")
  no : fs = [] → PySem.W.excIn K A [.type "ValueError", .type "Exception", .type "BaseException", .type "object"] "ValueError.__new__" = true
/-- where an expression stands -/
structure Ctx (T : Tab) (TX : Exc) (C : Nat → List PV → Sto → R PV) (X : Cx) (W : WX) (N : List Str) (sc : Scope) (cl : Bool) (ex : Option Held) : Prop where
  scope : X.env.scope = sc
  names : X.N = N
  nd : N.Nodup
  takes : Takes X W
  calm : cl = true → X.calm = true
  unit : X.A.units + 64 < cLine
  free : ∀ x, T.bi.contains x = true → (x = "gcd" → X.mg x = some (.builtin "math.gcd")) ∧ (x ≠ "gcd" → X.mg x = none)
  glb : ∀ p ∈ T.glb, ∃ w u, X.mg p.1 = some u ∧ RelV w u ∧ ∀ ρ H, RelP X.K ρ H p.2 w
  fns : cl = true → ∀ (f : Nat) (x : Str), T.fns[f]? = some x → ∃ fa fd ps k, X.mg x = some (.ref fa) ∧ PySem.W.keepIn X.K (.ref fa) = true ∧ Binds X.K fd ps [] ∧
    FnOk X.prog X.w X.K X.mg X.base (L2.CX X.prog X.w) k fa fd ps (spC X.K TX (C f)) ∧ Room k X.A
  num : TX.n = T.cls.length
  exc : ∀ (c : Nat) (p : Str × List Str × List Str), T.cls[c]? = some p → ExcK X.K X.mg (TX.at_ c) p.1 p.2.1
  exm : ∀ c d, c < TX.n → d < TX.n → PySem.W.exmOne X.K (.ref (TX.at_ d)) (.ref (TX.at_ c)) = some (decide (d = c))
  attrs : ∀ (c : Nat) (p : Str × List Str × List Str), T.cls[c]? = some p → TX.attrs c = p.2.1
  held : ∀ x, ex = some x → ∃ oe pn, X.calm = false ∧ (∃ Y : Cx, X = Y.suite x.a ((x.a, oe) :: pn)) ∧ Zc x.cls x.d oe ∧ (∃ vs, oe.data = .fields vs) ∧
    (∀ p : Str × List Str × List Str, T.cls[x.c]? = some p →
      (∀ f ∈ p.2.1, PySem.W.findIn X.K (.ref (TX.at_ x.c)) "__getattribute__" = some (some (.builtin "BaseException.__getattribute__")) ∧ PySem.W.findIn X.K (.ref (TX.at_ x.c)) "__getattr__" = some none ∧
        PySem.W.subIn X.K (.ref (TX.at_ x.c)) (.type "BaseException") = some true ∧ PySem.W.hasDictIn X.K (TX.at_ x.c) = true ∧ PySem.W.findIn X.K (.ref (TX.at_ x.c)) f = some none) ∧
      (p.2.1 = [] → ExcC X.K (TX.at_ x.c) ∧ ∀ z, p.2.2.contains z = true → ∃ (c : V) (cv : Value), ((X.mg z = some cv) ∨ (X.mg z = none ∧ bootBuiltins z = some cv ∧ z ≠ "__name__")) ∧ RelV c cv ∧ (∀ u, RelV c u → u = cv) ∧ PySem.W.kitOne X.K (.ref (TX.at_ x.c)) cv = some true))
def hxOf (ex : Option Held) : Option (Nat × Nat) := ex.map fun x => (x.i, x.c)
theorem kindB_ok {sc : Scope} {x : Str} {k : NameKind} (h : kindB sc x k = true) : sc.names.lookup x = some k := of_decide_eq_true h
theorem visB_ok {sc : Scope} {x : Str} (h : visB sc x = true) : Vis sc x := by
  unfold visB at h
  rw [Bool.or_eq_true, Bool.or_eq_true] at h
  rcases h with (h | h) | h
  · exact .inl (kindB_ok h)
  · exact .inr (.inl (kindB_ok h))
  · exact .inr (.inr (kindB_ok h))
theorem locB_ok {sc : Scope} {x : Str} (h : locB sc x = true) : Loc sc x := by
  unfold locB at h
  rw [Bool.or_eq_true] at h
  exact h.imp kindB_ok kindB_ok
theorem nameB_ok {x : Str} (h : nameB x = true) : (x == ("__debug__" : Str)) = false ∧ (x == ("__classdict__" : Str)) = false ∧ x ≠ "__name__" := by
  unfold nameB at h
  simp only [Bool.and_eq_true, Bool.not_eq_true'] at h
  exact ⟨h.1.1, h.1.2, fun e => by rw [e] at h; simp at h⟩
theorem atB_ok {N : List Str} {i : Nat} {x : Str} (h : atB N i x = true) : N[i]? = some x := of_decide_eq_true h
section
variable {T : Tab} {TX : Exc} {C : Nat → List PV → Sto → R PV} {X : Cx} {W : WX} {N : List Str} {sc : Scope} {cl : Bool} {ex : Option Held} {b : Nat}
theorem Ctx.gl (c : Ctx T TX C X W N sc cl ex) {x : Str} (h : gloB sc x = true) : Gl X x ∧ (x == ("__debug__" : Str)) = false ∧ (x == ("__classdict__" : Str)) = false ∧ x ≠ "__name__" := by
  have h' := Bool.and_eq_true_iff.mp h
  refine ⟨?_, nameB_ok h'.2⟩
  show X.env.scope.names.lookup x = _
  rw [c.scope]
  exact kindB_ok h'.1
/-- an expression's reading -/
abbrev tE (K : PySem.W.Frag) (TX : Exc) (b : Nat) (ex : Option Held) (W : WX) (r : Env → Sto → R PV) : TE := tG K TX b ex W (relE K) r
abbrev tTs (K : PySem.W.Frag) (TX : Exc) (b : Nat) (ex : Option Held) (W : WX) (r : Env → Sto → R Bool) : TT := tG K TX b ex W relT r
abbrev tAs (K : PySem.W.Frag) (TX : Exc) (b : Nat) (ex : Option Held) (W : WX) (r : Env → Sto → R (List PV)) : TA := tG K TX b ex W (relA K) r
abbrev tOs (K : PySem.W.Frag) (TX : Exc) (b : Nat) (ex : Option Held) (W : WX) (r : Env → Sto → R (Option Int)) : TO := tG K TX b ex W relO r
/-! ### forms that hold of every row that is looked at -/
theorem star_of {sc : Scope} {cl : Bool} {hx : Option (Nat × Nat)} {e : E} {f : Expr} (h : trB T N sc cl hx e f = true) (es : List Expr) (env : PySem.Env) : starEach (f :: es) env = (false, eval f env) :: starEach es env := by
  cases f with
  | Starred v p => cases e <;> simp [trB, constB] at h
  | _ => rfl
theorem stars_of {sc : Scope} {cl : Bool} {hx : Option (Nat × Nat)} : ∀ {es : Es} {fs : List Expr}, trsB T N sc cl hx es fs = true → ∀ (pos : Pos) (env : PySem.Env), (backTo pos (starEach fs env)).any (·.1) = false
  | .nil, [], _, _, _ => rfl
  | .nil, _ :: _, h, _, _ => by simp [trsB] at h
  | .cons _ _, [], h, _, _ => by simp [trsB] at h
  | .cons e es, f :: fs, h, pos, env => by
    have h' := Bool.and_eq_true_iff.mp (by simpa [trsB] using h)
    rw [star_of h'.1]
    have ih := stars_of h'.2 pos env
    show ((false, _) :: backTo pos (starEach fs env)).any (·.1) = false
    rw [List.any_cons, ih]
    rfl
theorem slice_of {f : Expr} (h : isSlice f = false) : PlainIx f := by
  cases f with
  | Slice _ _ _ _ => cases h
  | _ => intro _ _; rfl
end
end MP
end
section
set_option Elab.async false
set_option linter.all false
set_option maxRecDepth 100000
set_option maxHeartbeats 1000000
/-! MPSound7: each form of an expression. -/
namespace MP
open PySem PySem.Spec PyProof.Rows L2
section
variable {T : Tab} {TX : Exc} {C : Nat → List PV → Sto → R PV} {X : Cx} {W : WX} {N : List Str} {sc : Scope} {cl : Bool} {ex : Option Held} {b : Nat}
variable {x y z : Expr} {a c d : E} {pos : Pos}
theorem s_var (cx : Ctx T TX C X W N sc cl ex) {i : Nat} {n : Str} (h1 : atB N i n = true) (h2 : visB sc n = true) (h3 : nameB n = true) (h4 : ∀ p, hxOf ex = some p → p.1 ≠ i) : PE X (.Name n pos) (tE X.K TX b ex W (ev C (.var i))) := by
  obtain ⟨n1, n2, _⟩ := nameB_ok h3
  refine PE.weak (pe_var (i := i) (by rw [cx.names]; exact atB_ok h1) (by rw [cx.scope]; exact visB_ok h2) n1 n2) fun τ H Q ⟨ρ, σ, S, so, eo, h⟩ => ?_
  unfold ev at h
  split at h
  · rename_i v e
    obtain ⟨w, e1, r⟩ := eo.val i v e fun q hq => h4 (q.i, q.c) (by rw [hq]; rfl)
    exact ⟨w, e1, At.ok so h r⟩
  · exact h.elim
theorem s_const (cx : Ctx T TX C X W N sc cl ex) {v : PV} (h : constB T sc v x = true) : PE X x (tE X.K TX b ex W (ev C (.cst v))) := by
  have fin : ∀ {τ : L2.St} {H : Hp} {Q : VK} {w : V}, (∀ ρ, RelP X.K ρ H v w) → tE X.K TX b ex W (ev C (.cst v)) τ H Q → Q w H := fun {τ H Q w} r ⟨ρ, σ, S, so, eo, h⟩ => At.ok so h (r ρ)
  unfold constB at h
  split at h
  · have e := of_decide_eq_true h
    exact PE.weak pe_int fun τ H Q q => fin (fun ρ => by rw [e]; exact .int _) q
  · have e := of_decide_eq_true h
    exact PE.weak pe_str fun τ H Q q => fin (fun ρ => by rw [e]; exact .str _) q
  · have e := of_decide_eq_true h
    exact PE.weak pe_bl fun τ H Q q => fin (fun ρ => by rw [e]; exact .bl _) q
  · have e := of_decide_eq_true h
    exact PE.weak pe_non fun τ H Q q => fin (fun ρ => by rw [e]; exact .non) q
  · have h' := Bool.and_eq_true_iff.mp h
    obtain ⟨g1, g2, _, g4⟩ := cx.gl h'.1
    obtain ⟨p, hp, e⟩ := List.any_eq_true.mp h'.2
    have e := of_decide_eq_true e
    obtain ⟨w, u, m, r, q⟩ := cx.glb p hp
    subst e
    exact PE.weak (pe_glob g1 m r g2) fun τ H Q z => fin (fun ρ => q ρ H) z
  · cases h
theorem s_tup {fs : List Expr} {es : Es} {k : Nat} (h : PA X fs (tAs X.K TX b ex W (evs C es))) (hn : ∀ σ S vs S', evs C es σ S = .ok vs S' → vs.length ≤ 1000) : PE X (.Tuple fs k pos) (tE X.K TX b ex W (ev C (.tup es))) := by
  refine PE.weak (pe_tup h) fun τ H Q ⟨ρ, σ, S, so, eo, q⟩ => ?_
  unfold ev at q
  refine ⟨ρ, σ, S, so, eo, At.mono (At.bd (rel := relA X.K) q) fun ws H1 ⟨ρ1, vs, S1, e1, g1, so1, r1, h1⟩ => ?_⟩
  refine ⟨by rw [line_eq, ← RelPs.length r1]; exact Nat.le_trans (hn _ _ _ _ e1) (by decide), fun p hp => ?_⟩
  exact h1 ρ1 _ _ (.alloc hp) (so1.alloc hp) (.tup (SqT.of upd_same) (RelPs.mono (.new hp) (List.prefix_refl _) r1))
theorem s_lst {fs : List Expr} {es : Es} (h : PA X fs (tAs X.K TX b ex W (evs C es))) (hn : ∀ σ S vs S', evs C es σ S = .ok vs S' → vs.length ≤ 1000) : PE X (.List fs pos) (tE X.K TX b ex W (ev C (.lst es))) := by
  refine PE.weak (pe_lst h) fun τ H Q ⟨ρ, σ, S, so, eo, q⟩ => ?_
  unfold ev at q
  refine ⟨ρ, σ, S, so, eo, At.mono (At.bd (rel := relA X.K) q) fun ws H1 ⟨ρ1, vs, S1, e1, g1, so1, r1, h1⟩ => ?_⟩
  refine ⟨by rw [line_eq, ← RelPs.length r1]; exact Nat.le_trans (hn _ _ _ _ e1) (by decide), fun p hp => ?_⟩
  exact h1 (ρ1 ++ [p]) _ _ (.push so1.base hp) (so1.push hp r1) (.ref so1.new)
theorem s_bin {o : Op} (ha : PE X x (tE X.K TX b ex W (ev C a))) (hb : PE X y (tE X.K TX b ex W (ev C c))) : PE X (.BinOp x (opOf o) y pos) (tE X.K TX b ex W (ev C (.bin o a c))) := by
  refine PE.weak (pe_op (binOp_ok (T := TX) (b := b) o) ha hb) fun τ H Q ⟨ρ, σ, S, so, eo, h⟩ => ?_
  unfold ev at h
  refine ⟨ρ, σ, S, so, eo, At.mono (At.bd (rel := relE X.K) h) fun w H1 ⟨ρ1, v, S1, _, g1, so1, r1, h1⟩ => ?_⟩
  refine ⟨ρ1, σ, S1, so1, eo.grow g1, At.mono (At.bd (rel := relE X.K) h1) fun w2 H2 ⟨ρ2, u, S2, _, g2, so2, r2, h2⟩ => ?_⟩
  exact ⟨_, ρ2, S2, v, u, so2, RelP.mono g2.keep g2.pre r1, r2, h2⟩
theorem s_neg (ha : PE X x (tE X.K TX b ex W (ev C a))) : PE X (.UnaryOp .USub x pos) (tE X.K TX b ex W (ev C (.neg a))) := by
  refine PE.weak (pe_un un_neg ha) fun τ H Q ⟨ρ, σ, S, so, eo, h⟩ => ?_
  unfold ev at h
  refine ⟨ρ, σ, S, so, eo, At.mono (At.bd (rel := relE X.K) h) fun w H1 ⟨ρ1, v, S1, _, g1, so1, r1, h1⟩ => ?_⟩
  split at h1
  · exact ⟨_, RelP.of_int r1, At.ok so1 h1 (.int _)⟩
  · exact h1.elim
theorem s_not (ha : PE X x (tE X.K TX b ex W (ev C a))) : PE X (.UnaryOp .Not x pos) (tE X.K TX b ex W (ev C (.not a))) := by
  refine PE.weak (pe_not ha) fun τ H Q ⟨ρ, σ, S, so, eo, h⟩ => ?_
  unfold ev at h
  refine ⟨ρ, σ, S, so, eo, At.mono (At.bd (rel := relE X.K) h) fun w H1 ⟨ρ1, v, S1, _, g1, so1, r1, h1⟩ => ?_⟩
  split at h1
  · exact ⟨_, RelP.of_bl r1, At.ok so1 h1 (.bl _)⟩
  · exact h1.elim
theorem s_and {rest : List Expr} (ha : PE X x (tE X.K TX b ex W (ev C a))) (hb : PE X (.BoolOp .And (y :: rest) pos) (tE X.K TX b ex W (ev C c))) : PE X (.BoolOp .And (x :: y :: rest) pos) (tE X.K TX b ex W (ev C (.and a c))) := by
  refine PE.weak (pe_and ha hb) fun τ H Q ⟨ρ, σ, S, so, eo, h⟩ => ?_
  unfold ev at h
  refine ⟨ρ, σ, S, so, eo, At.mono (At.bd (rel := relE X.K) h) fun w H1 ⟨ρ1, v, S1, _, g1, so1, r1, h1⟩ => ?_⟩
  split at h1
  · exact ⟨true, RelP.of_bl r1, iteT ⟨ρ1, σ, S1, so1, eo.grow g1, h1⟩⟩
  · exact ⟨false, RelP.of_bl r1, iteF (At.ok so1 h1 (.bl _))⟩
  · exact h1.elim
theorem s_or {rest : List Expr} (ha : PE X x (tE X.K TX b ex W (ev C a))) (hb : PE X (.BoolOp .Or (y :: rest) pos) (tE X.K TX b ex W (ev C c))) : PE X (.BoolOp .Or (x :: y :: rest) pos) (tE X.K TX b ex W (ev C (.or a c))) := by
  refine PE.weak (pe_or ha hb) fun τ H Q ⟨ρ, σ, S, so, eo, h⟩ => ?_
  unfold ev at h
  refine ⟨ρ, σ, S, so, eo, At.mono (At.bd (rel := relE X.K) h) fun w H1 ⟨ρ1, v, S1, _, g1, so1, r1, h1⟩ => ?_⟩
  split at h1
  · exact ⟨true, RelP.of_bl r1, iteT (At.ok so1 h1 (.bl _))⟩
  · exact ⟨false, RelP.of_bl r1, iteF ⟨ρ1, σ, S1, so1, eo.grow g1, h1⟩⟩
  · exact h1.elim
theorem s_cmp {o : Cm} (cx : Ctx T TX C X W N sc cl ex) (ha : PE X x (tE X.K TX b ex W (ev C a))) (hb : PE X y (tE X.K TX b ex W (ev C c))) (hm : behindInMarks (cmOf o) y = false) : PE X (.Compare x [cmOf o] [y] pos) (tE X.K TX b ex W (ev C (.cmp o a c))) := by
  refine PE.weak (pe_cmpR (cmOp_ok (b := b) o cx.unit) ha hb hm) fun τ H Q ⟨ρ, σ, S, so, eo, h⟩ => ?_
  unfold ev at h
  refine ⟨ρ, σ, S, so, eo, At.mono (At.bd (rel := relE X.K) h) fun w H1 ⟨ρ1, v, S1, _, g1, so1, r1, h1⟩ => ?_⟩
  refine ⟨ρ1, σ, S1, so1, eo.grow g1, At.mono (At.bd (rel := relE X.K) h1) fun w2 H2 ⟨ρ2, u, S2, _, g2, so2, r2, h2⟩ => ?_⟩
  cases e : cmV S2 o v u with
  | none => rw [e] at h2; exact h2.elim
  | some k =>
    rw [e] at h2
    exact ⟨ρ2, S2, v, u, k, so2, RelP.mono g2.keep g2.pre r1, r2, e, At.ok (rel := relE X.K) so2 h2 (.bl k)⟩
theorem s_chain {o o' : Cm} (cx : Ctx T TX C X W N sc cl ex) (ha : PE X x (tE X.K TX b ex W (ev C a))) (hb : PE X y (tE X.K TX b ex W (ev C c))) (hd : PE X z (tE X.K TX b ex W (ev C d))) (hm : lastMarks [cmOf o, cmOf o'] [y, z] = false) :
    PE X (.Compare x [cmOf o, cmOf o'] [y, z] pos) (tE X.K TX b ex W (ev C (.chain o o' a c d))) := by
  refine PE.weak (pe_chain (cmOp_ok (b := b) o cx.unit) (cmOp_ok (b := b) o' cx.unit) ha hb hd hm) fun τ H Q ⟨ρ, σ, S, so, eo, h⟩ => ?_
  unfold ev at h
  refine ⟨ρ, σ, S, so, eo, At.mono (At.bd (rel := relE X.K) h) fun w H1 ⟨ρ1, v, S1, _, g1, so1, r1, h1⟩ => ?_⟩
  refine ⟨ρ1, σ, S1, so1, eo.grow g1, At.mono (At.bd (rel := relE X.K) h1) fun w2 H2 ⟨ρ2, u, S2, _, g2, so2, r2, h2⟩ => ?_⟩
  have eo2 := (eo.grow g1).grow g2
  cases e : cmV S2 o v u with
  | none => rw [e] at h2; exact h2.elim
  | some k =>
    rw [e] at h2
    refine ⟨ρ2, S2, v, u, k, so2, RelP.mono g2.keep g2.pre r1, r2, e, k, rfl, ?_⟩
    cases k with
    | false => exact iteF (At.ok (rel := relE X.K) so2 h2 (.bl false))
    | true =>
      refine iteT ⟨ρ2, σ, S2, so2, eo2, At.mono (At.bd (rel := relE X.K) h2) fun w3 H3 ⟨ρ3, t, S3, _, g3, so3, r3, h3⟩ => ?_⟩
      cases e2 : cmV S3 o' u t with
      | none => rw [e2] at h3; exact h3.elim
      | some k2 =>
        rw [e2] at h3
        exact ⟨ρ3, S3, u, t, k2, so3, RelP.mono g3.keep g3.pre r2, r3, e2, At.ok (rel := relE X.K) so3 h3 (.bl k2)⟩
theorem s_ife (hc : PT X z (tTs X.K TX b ex W (evT C d))) (ha : PE X x (tE X.K TX b ex W (ev C a))) (hb : PE X y (tE X.K TX b ex W (ev C c))) : PE X (.IfExp z x y pos) (tE X.K TX b ex W (ev C (.ife d a c))) := by
  refine PE.weak (pe_ifExp hc ha hb) fun τ H Q ⟨ρ, σ, S, so, eo, h⟩ => ?_
  unfold ev at h
  refine ⟨ρ, σ, S, so, eo, At.mono (At.bd (rel := relT) h) fun w H1 ⟨ρ1, v, S1, _, g1, so1, r1, h1⟩ => ?_⟩
  obtain rfl : v = w := r1
  cases v with
  | true => exact iteT ⟨ρ1, σ, S1, so1, eo.grow g1, h1⟩
  | false => exact iteF ⟨ρ1, σ, S1, so1, eo.grow g1, h1⟩
theorem s_ix (ha : PE X x (tE X.K TX b ex W (ev C a))) (hb : PE X y (tE X.K TX b ex W (ev C c))) (hs : isSlice y = false) : PE X (.Subscript x y pos) (tE X.K TX b ex W (ev C (.ix a c))) := by
  refine PE.weak (pe_ix (ix_ok (b := b)) ha hb (slice_of hs)) fun τ H Q ⟨ρ, σ, S, so, eo, h⟩ => ?_
  unfold ev at h
  refine ⟨ρ, σ, S, so, eo, At.mono (At.bd (rel := relE X.K) h) fun w H1 ⟨ρ1, v, S1, _, g1, so1, r1, h1⟩ => ?_⟩
  refine ⟨ρ1, σ, S1, so1, eo.grow g1, At.mono (At.bd (rel := relE X.K) h1) fun w2 H2 ⟨ρ2, u, S2, _, g2, so2, r2, h2⟩ => ?_⟩
  obtain ⟨t, e, h3⟩ := At.opt h2
  exact ⟨ρ2, S2, v, u, t, so2, RelP.mono g2.keep g2.pre r1, r2, e, fun w r => At.ok so2 h3 r⟩
theorem s_slc {lo hi : Eo} {l u : Option Expr} {p2 : Pos} (ha : PE X x (tE X.K TX b ex W (ev C a))) (hl : PO X l (tOs X.K TX b ex W (evo C lo))) (hu : PO X u (tOs X.K TX b ex W (evo C hi))) : PE X (.Subscript x (.Slice l u none p2) pos) (tE X.K TX b ex W (ev C (.slc a lo hi))) := by
  refine PE.weak (pe_slice (sl_ok (T := TX) (b := b)) ha hl hu) fun τ H Q ⟨ρ, σ, S, so, eo, h⟩ => ?_
  unfold ev at h
  refine ⟨ρ, σ, S, so, eo, At.mono (At.bd (rel := relE X.K) h) fun w H1 ⟨ρ1, v, S1, _, g1, so1, r1, h1⟩ => ?_⟩
  refine ⟨ρ1, σ, S1, so1, eo.grow g1, At.mono (At.bd (rel := relO) h1) fun w2 H2 ⟨ρ2, u2, S2, _, g2, so2, r2, h2⟩ => ?_⟩
  refine ⟨ρ2, σ, S2, so2, (eo.grow g1).grow g2, At.mono (At.bd (rel := relO) h2) fun w3 H3 ⟨ρ3, u3, S3, _, g3, so3, r3, h3⟩ => ?_⟩
  obtain rfl : u2 = w2 := r2
  obtain rfl : u3 = w3 := r3
  exact ⟨_, ρ3, S3, v, so3, RelP.mono (g2.trans g3).keep (g2.trans g3).pre r1, h3⟩
theorem s_call (cx : Ctx T TX C X W N sc true ex) {f : Nat} {es : Es} {n : Str} {p : Pos} {g : Expr} {gs : List Expr} (hg : gloB sc n = true) (hf : T.fns[f]? = some n) (h : PA X (g :: gs) (tAs X.K TX b ex W (evs C es)))
    (he : starEach (g :: gs) X.env = (false, eval g X.env) :: starEach gs X.env) (hpl : (backTo pos (starEach gs X.env)).any (·.1) = false) : PE X (.Call (.Name n p) (g :: gs) [] pos) (tE X.K TX b ex W (ev C (.call f es))) := by
  obtain ⟨g1, g2, _, _⟩ := cx.gl hg
  obtain ⟨fa, fd, ps, k, hm, hk, hb, F, hr⟩ := cx.fns rfl f n hf
  refine PE.weak (pe_callS F hr g1 hm hk hb (fun σ => passAt cx.takes σ) h g2 he hpl) fun τ H Q ⟨ρ, σ, S, so, eo, q⟩ => ?_
  unfold ev at q
  refine ⟨ρ, σ, S, so, eo, At.mono (At.bd (rel := relA X.K) q) fun ws H1 ⟨ρ1, vs, S1, _, g1, so1, r1, h1⟩ => ?_⟩
  exact ⟨ρ1, S1, vs, ⟨so1.len, so1.cell, so1.inj, Nat.le_refl _⟩, r1, At.less so1.base so1.base h1⟩
theorem s_isi (cx : Ctx T TX C X W N sc cl ex) {t : Ty} {n m : Str} {p p2 : Pos} (hn : gloB sc n = true) (hm : gloB sc m = true) (en : n = "isinstance") (em : m = tyName t) (bn : T.bi.contains n = true) (bm : T.bi.contains m = true)
    (ha : PE X y (tE X.K TX b ex W (ev C a))) (hs : ∀ es, starEach (y :: es) X.env = (false, eval y X.env) :: starEach es X.env) : PE X (.Call (.Name n p) [y, .Name m p2] [] pos) (tE X.K TX b ex W (ev C (.isi a t))) := by
  obtain ⟨g1, g2, _, g4⟩ := cx.gl hn
  obtain ⟨k1, k2, _, k4⟩ := cx.gl hm
  subst en
  have mn : X.mg "isinstance" = none := (cx.free _ bn).2 (by decide +kernel)
  have mm : X.mg m = none := (cx.free _ bm).2 (by rw [em]; cases t <;> decide +kernel)
  have bt : bootBuiltins m = some (.type (tyName t)) := by rw [em]; cases t <;> decide +kernel
  have pm : PE X (.Name m p2) (tC (.ty (tyName t))) := pe_bltn k1 mm bt rfl k4 k2
  refine PE.weak (pe_callB call_isi g1 mn boot_isinstance (pa_cons ha (pa_cons pm pa_nil) (hs _)) g4 g2 (hs _) rfl) fun τ H Q ⟨ρ, σ, S, so, eo, h⟩ => ?_
  unfold ev at h
  refine ⟨ρ, σ, S, so, eo, At.mono (At.bd (rel := relE X.K) h) fun w H1 ⟨ρ1, v, S1, _, g1, so1, r1, h1⟩ => ?_⟩
  cases e : isTy v t with
  | none => rw [e] at h1; exact h1.elim
  | some k =>
    rw [e] at h1
    obtain ⟨u, ty, kit⟩ := ty_ok r1 e
    exact ⟨w, .ty (tyName t), u, .type (tyName t), k, rfl, .ty _, ty, kit, At.ok (rel := relE X.K) so1 h1 (.bl k)⟩
theorem s_bi (cx : Ctx T TX C X W N sc true ex) {f : Bi} {es : Es} {n : Str} {p : Pos} {g : Expr} {gs : List Expr} (hg : gloB sc n = true) (en : biName f = n) (bn : T.bi.contains n = true) (h : PA X (g :: gs) (tAs X.K TX b ex W (evs C es)))
    (he : starEach (g :: gs) X.env = (false, eval g X.env) :: starEach gs X.env) (hpl : (backTo pos (starEach gs X.env)).any (·.1) = false) : PE X (.Call (.Name n p) (g :: gs) [] pos) (tE X.K TX b ex W (ev C (.bi f es))) := by
  obtain ⟨g1, g2, _, g4⟩ := cx.gl hg
  subst en
  have fin : ∀ {τ : L2.St} {H : Hp} {Q : VK}, tE X.K TX b ex W (ev C (.bi f es)) τ H Q → tCB (rBi X.K TX b f) (tAs X.K TX b ex W (evs C es)) τ H Q := fun {τ H Q} ⟨ρ, σ, S, so, eo, q⟩ => by
    unfold ev at q
    exact ⟨ρ, σ, S, so, eo, At.mono (At.bd (rel := relA X.K) q) fun ws H1 ⟨ρ1, vs, S1, _, g1, so1, r1, h1⟩ => ⟨_, ρ1, S1, vs, so1, r1, h1⟩⟩
  have ok := bi_ok (T := TX) (b := b) (cx.calm rfl) f
  have fr := cx.free _ bn
  cases f with
  | gcd => exact PE.weak (pe_callBfun ok g1 (fr.1 rfl) h g2 he hpl) fun τ H Q q => fin q
  | abs => exact PE.weak (pe_callB ok g1 (fr.2 (by decide +kernel)) (by decide +kernel) h g4 g2 he hpl) fun τ H Q q => fin q
  | len => exact PE.weak (pe_callB ok g1 (fr.2 (by decide +kernel)) (by decide +kernel) h g4 g2 he hpl) fun τ H Q q => fin q
  | max2 => exact PE.weak (pe_callB ok g1 (fr.2 (by decide +kernel)) (by decide +kernel) h g4 g2 he hpl) fun τ H Q q => fin q
  | min2 => exact PE.weak (pe_callB ok g1 (fr.2 (by decide +kernel)) (by decide +kernel) h g4 g2 he hpl) fun τ H Q q => fin q
  | maxL => exact PE.weak (pe_callB ok g1 (fr.2 (by decide +kernel)) (by decide +kernel) h g4 g2 he hpl) fun τ H Q q => fin q
  | minL => exact PE.weak (pe_callB ok g1 (fr.2 (by decide +kernel)) (by decide +kernel) h g4 g2 he hpl) fun τ H Q q => fin q
  | sum => exact PE.weak (pe_callB ok g1 (fr.2 (by decide +kernel)) (by decide +kernel) h g4 g2 he hpl) fun τ H Q q => fin q
  | sorted => exact PE.weak (pe_callB ok g1 (fr.2 (by decide +kernel)) (by decide +kernel) h g4 g2 he hpl) fun τ H Q q => fin q
  | all => exact PE.weak (pe_callB ok g1 (fr.2 (by decide +kernel)) (by decide +kernel) h g4 g2 he hpl) fun τ H Q q => fin q
  | any => exact PE.weak (pe_callB ok g1 (fr.2 (by decide +kernel)) (by decide +kernel) h g4 g2 he hpl) fun τ H Q q => fin q
  | int => exact PE.weak (pe_callTy ok g1 (fr.2 (by decide +kernel)) (by decide +kernel) h g4 g2 he hpl) fun τ H Q q => fin q
  | list => exact PE.weak (pe_callTy ok g1 (fr.2 (by decide +kernel)) (by decide +kernel) h g4 g2 he hpl) fun τ H Q q => fin q
  | tuple => exact PE.weak (pe_callTy ok g1 (fr.2 (by decide +kernel)) (by decide +kernel) h g4 g2 he hpl) fun τ H Q q => fin q
  | str => exact PE.weak (pe_callTy ok g1 (fr.2 (by decide +kernel)) (by decide +kernel) h g4 g2 he hpl) fun τ H Q q => fin q
  | bool => exact PE.weak (pe_callTy ok g1 (fr.2 (by decide +kernel)) (by decide +kernel) h g4 g2 he hpl) fun τ H Q q => fin q
end
end MP
end
section
set_option Elab.async false
set_option linter.all false
set_option maxRecDepth 100000
set_option maxHeartbeats 1000000
/-! MPSound8: tests, arguments, walks, the held exception. -/
namespace MP
open PySem PySem.Spec PyProof.Rows L2
section
variable {T : Tab} {TX : Exc} {C : Nat → List PV → Sto → R PV} {X : Cx} {W : WX} {N : List Str} {sc : Scope} {cl : Bool} {ex : Option Held} {b : Nat}
variable {x y z : Expr} {a c d : E} {pos : Pos}
/-! ### tests -/
theorem t_not (ha : PT X x (tTs X.K TX b ex W (evT C a))) : PT X (.UnaryOp .Not x pos) (tTs X.K TX b ex W (evT C (.not a))) := by
  refine PT.weak (pt_not ha) fun τ H Q ⟨ρ, σ, S, so, eo, h⟩ => ?_
  unfold evT at h
  refine ⟨ρ, σ, S, so, eo, At.mono (At.bd (rel := relT) h) fun w H1 ⟨ρ1, v, S1, _, g1, so1, r1, h1⟩ => ?_⟩
  obtain rfl : v = w := r1
  exact At.ok (rel := relT) so1 h1 rfl
theorem t_and {rest : List Expr} (ha : PT X x (tTs X.K TX b ex W (evT C a))) (hb : PW X (.BoolOp .And (y :: rest) pos) (tTs X.K TX b ex W (evT C c))) : PW X (.BoolOp .And (x :: y :: rest) pos) (tTs X.K TX b ex W (evT C (.and a c))) := by
  refine PW.weak (pw_and ha hb) fun τ H Q ⟨ρ, σ, S, so, eo, h⟩ => ?_
  unfold evT at h
  refine ⟨ρ, σ, S, so, eo, At.mono (At.bd (rel := relT) h) fun w H1 ⟨ρ1, v, S1, _, g1, so1, r1, h1⟩ => ?_⟩
  obtain rfl : v = w := r1
  cases v with
  | true => exact iteT ⟨ρ1, σ, S1, so1, eo.grow g1, h1⟩
  | false => exact iteF (At.ok (rel := relT) so1 h1 rfl)
theorem t_or {rest : List Expr} (ha : PT X x (tTs X.K TX b ex W (evT C a))) (hb : PW X (.BoolOp .Or (y :: rest) pos) (tTs X.K TX b ex W (evT C c))) : PW X (.BoolOp .Or (x :: y :: rest) pos) (tTs X.K TX b ex W (evT C (.or a c))) := by
  refine PW.weak (pw_or ha hb) fun τ H Q ⟨ρ, σ, S, so, eo, h⟩ => ?_
  unfold evT at h
  refine ⟨ρ, σ, S, so, eo, At.mono (At.bd (rel := relT) h) fun w H1 ⟨ρ1, v, S1, _, g1, so1, r1, h1⟩ => ?_⟩
  obtain rfl : v = w := r1
  cases v with
  | true => exact iteT (At.ok (rel := relT) so1 h1 rfl)
  | false => exact iteF ⟨ρ1, σ, S1, so1, eo.grow g1, h1⟩
theorem t_cmp {o : Cm} (cx : Ctx T TX C X W N sc cl ex) (ha : PE X x (tE X.K TX b ex W (ev C a))) (hb : PE X y (tE X.K TX b ex W (ev C c))) (hm : behindInMarks (cmOf o) y = false) : PT X (.Compare x [cmOf o] [y] pos) (tTs X.K TX b ex W (evT C (.cmp o a c))) := by
  refine PT.weak (pt_cmpR (cmOp_ok (b := b) o cx.unit) ha hb hm) fun τ H Q ⟨ρ, σ, S, so, eo, h⟩ => ?_
  unfold evT at h
  refine ⟨ρ, σ, S, so, eo, At.mono (At.bd (rel := relE X.K) h) fun w H1 ⟨ρ1, v, S1, _, g1, so1, r1, h1⟩ => ?_⟩
  refine ⟨ρ1, σ, S1, so1, eo.grow g1, At.mono (At.bd (rel := relE X.K) h1) fun w2 H2 ⟨ρ2, u, S2, _, g2, so2, r2, h2⟩ => ?_⟩
  obtain ⟨k, e, h3⟩ := At.opt h2
  exact ⟨ρ2, S2, v, u, k, so2, RelP.mono g2.keep g2.pre r1, r2, e, k, rfl, At.ok (rel := relT) so2 h3 rfl⟩
theorem t_chain {o o' : Cm} (cx : Ctx T TX C X W N sc cl ex) (ha : PE X x (tE X.K TX b ex W (ev C a))) (hb : PE X y (tE X.K TX b ex W (ev C c))) (hd : PE X z (tE X.K TX b ex W (ev C d))) (hm : lastMarks [cmOf o, cmOf o'] [y, z] = false) :
    PT X (.Compare x [cmOf o, cmOf o'] [y, z] pos) (tTs X.K TX b ex W (evT C (.chain o o' a c d))) := by
  refine PT.weak (pt_chain (cmOp_ok (b := b) o cx.unit) (cmOp_ok (b := b) o' cx.unit) ha hb hd hm) fun τ H Q ⟨ρ, σ, S, so, eo, h⟩ => ?_
  unfold evT at h
  refine ⟨ρ, σ, S, so, eo, At.mono (At.bd (rel := relE X.K) h) fun w H1 ⟨ρ1, v, S1, _, g1, so1, r1, h1⟩ => ?_⟩
  refine ⟨ρ1, σ, S1, so1, eo.grow g1, At.mono (At.bd (rel := relE X.K) h1) fun w2 H2 ⟨ρ2, u, S2, _, g2, so2, r2, h2⟩ => ?_⟩
  have eo2 := (eo.grow g1).grow g2
  cases e : cmV S2 o v u with
  | none => rw [e] at h2; exact h2.elim
  | some k =>
    rw [e] at h2
    refine ⟨ρ2, S2, v, u, k, so2, RelP.mono g2.keep g2.pre r1, r2, e, k, rfl, ?_⟩
    cases k with
    | false => exact iteF ⟨false, rfl, At.ok (rel := relT) so2 h2 rfl⟩
    | true =>
      refine iteT ⟨ρ2, σ, S2, so2, eo2, At.mono (At.bd (rel := relE X.K) h2) fun w3 H3 ⟨ρ3, t, S3, _, g3, so3, r3, h3⟩ => ?_⟩
      obtain ⟨k2, e2, h4⟩ := At.opt h3
      exact ⟨ρ3, S3, u, t, k2, so3, RelP.mono g3.keep g3.pre r2, r3, e2, k2, rfl, At.ok (rel := relT) so3 h4 rfl⟩
/-- an expression of any kind as a test -/
theorem t_tru (ha : PE X x (tE X.K TX b ex W (ev C a))) (he : ∀ σ S, evT C a σ S = (ev C a σ S).bd fun v S1 => MP.opt (truV S1 v) S1)
    (hp : ∀ whole, isTrue x X.env whole = (do let v ← whole; standAt x.pos; holding [v] (truthy v))) : PT X x (tTs X.K TX b ex W (evT C a)) := by
  refine PT.weak (pt_truth ha hp) fun τ H Q ⟨ρ, σ, S, so, eo, h⟩ => ?_
  rw [he] at h
  refine ⟨ρ, σ, S, so, eo, At.mono (At.bd (rel := relE X.K) h) fun w H1 ⟨ρ1, v, S1, _, g1, so1, r1, h1⟩ => ?_⟩
  obtain ⟨k, e, h2⟩ := At.opt h1
  exact ⟨k, tru_of so1 r1 e, At.ok (rel := relT) so1 h2 rfl⟩
/-- one whose value is a bool -/
theorem t_val (ha : PE X x (tE X.K TX b ex W (ev C a))) (he : ∀ σ S, ev C a σ S = (evT C a σ S).bd fun c S1 => .ok (.bl c) S1)
    (hp : ∀ whole, isTrue x X.env whole = (do let v ← whole; standAt x.pos; holding [v] (truthy v))) : PT X x (tTs X.K TX b ex W (evT C a)) := by
  refine PT.weak (pt_val ha hp) fun τ H Q ⟨ρ, σ, S, so, eo, h⟩ => ?_
  refine ⟨ρ, σ, S, so, eo, ?_⟩
  rw [he]
  cases e : evT C a σ S with
  | ok k S1 =>
    rw [e] at h
    exact fun ρ' H' w g s r => ⟨k, RelP.of_bl r, h ρ' H' k g s rfl⟩
  | exc c as S1 => rw [e] at h; exact h
  | bad => rw [e] at h; exact h
/-! ### arguments, slices' parts -/
theorem a_nil : PA X [] (tAs X.K TX b ex W (evs C .nil)) := PA.weak pa_nil fun τ H Q ⟨ρ, σ, S, so, eo, h⟩ => At.ok (rel := relA X.K) so (by unfold evs at h; exact h) .nil
theorem a_cons {es : Es} {fs : List Expr} (ha : PE X x (tE X.K TX b ex W (ev C a))) (hr : PA X fs (tAs X.K TX b ex W (evs C es))) (hs : starEach (x :: fs) X.env = (false, eval x X.env) :: starEach fs X.env) : PA X (x :: fs) (tAs X.K TX b ex W (evs C (.cons a es))) := by
  refine PA.weak (pa_cons ha hr hs) fun τ H Q ⟨ρ, σ, S, so, eo, h⟩ => ?_
  unfold evs at h
  refine ⟨ρ, σ, S, so, eo, At.mono (At.bd (rel := relE X.K) h) fun w H1 ⟨ρ1, v, S1, _, g1, so1, r1, h1⟩ => ?_⟩
  refine ⟨ρ1, σ, S1, so1, eo.grow g1, At.mono (At.bd (rel := relA X.K) h1) fun ws H2 ⟨ρ2, vs, S2, _, g2, so2, r2, h2⟩ => ?_⟩
  exact At.ok (rel := relA X.K) so2 h2 (.cons (RelP.mono g2.keep g2.pre r1) r2)
theorem o_none : PO X none (tOs X.K TX b ex W (evo C .none)) := PO.weak po_none fun τ H Q ⟨ρ, σ, S, so, eo, h⟩ => At.ok (rel := relO) so (by unfold evo at h; exact h) rfl
theorem o_some (ha : PE X x (tE X.K TX b ex W (ev C a))) : PO X (some x) (tOs X.K TX b ex W (evo C (.some a))) := by
  refine PO.weak (po_some ha) fun τ H Q ⟨ρ, σ, S, so, eo, h⟩ => ?_
  unfold evo at h
  refine ⟨ρ, σ, S, so, eo, At.mono (At.bd (rel := relE X.K) h) fun w H1 ⟨ρ1, v, S1, _, g1, so1, r1, h1⟩ => ?_⟩
  split at h1
  · exact ⟨_, RelP.of_int r1, At.ok (rel := relO) so1 h1 rfl⟩
  · exact h1.elim
/-! ### targets of names -/
mutual
theorem g_ok {X : Cx} (hc : X.calm = true) (hN : X.N = N) (hd : N.Nodup) (hsc : X.env.scope = sc) {lo : Bool} (hf : lo = false → ∀ x, sc.names.lookup x = some .cell → X.fn x = true) : ∀ {t : Tg} {tg : Expr}, tgB N lo sc t tg = true →
    PG X tg (fun v τ H Q => ∃ ρ σ σ' u, EnvOk X.K TX none ρ H σ τ ∧ RelP X.K ρ H u v ∧ bindT t u σ = some σ' ∧ ∀ τ', EnvOk X.K TX none ρ H σ' τ' → Q τ' H)
  | .name i, tg, h => by
    unfold tgB at h
    split at h
    · rename_i n p
      have h' := Bool.and_eq_true_iff.mp h
      have hl : Loc X.env.scope n ∧ (X.fn n = true ∨ X.env.scope.names.lookup n = some .local) := by
        rw [hsc]
        have h2 := h'.2
        cases lo with
        | true => exact ⟨.inl (kindB_ok h2), .inr (kindB_ok h2)⟩
        | false =>
          have h3 := locB_ok (sc := sc) (x := n) h2
          exact ⟨h3, h3.elim .inr fun e => .inl (hf rfl n e)⟩
      have g := pg_name (X := X) (i := i) (x := n) (pos := p) (by rw [hN]; exact hd) (by rw [hN]; exact atB_ok h'.1) hl.1 hl.2
      refine ⟨fun pins s τ H v u Q I r hq => g.run pins s τ H v u Q I r ?_⟩
      obtain ⟨ρ, σ, σ', w, eo, rp, e, k⟩ := hq
      unfold bindT at e
      cases e
      exact k _ (eo.set i rp)
    · cases h
  | .tup ts, tg, h => by
    unfold tgB at h
    split at h
    · rename_i es k p
      have ih := gs_ok hc hN hd hsc hf h
      obtain ⟨n, hn, hst⟩ : ∃ n, (assignEach es X.env).length = n ∧ (assignEach es X.env).findIdx? (·.1) = none := ⟨_, rfl, ih.2.1⟩
      refine ⟨fun pins s τ H v u Q I r hq => (pg_tup hc ih.1 hn hst).run pins s τ H v u Q I r ?_⟩
      obtain ⟨ρ, σ, σ', w, eo, rp, e, kk⟩ := hq
      unfold bindT at e
      cases w with
      | tup xs =>
        obtain ⟨a, vs, rfl, hq, rs⟩ := rp.of_tup
        have e' : bindTs ts xs σ = some σ' := e
        refine ⟨a, vs, rfl, hq, ?_, ρ, σ, σ', xs, eo, rs, e', kk⟩
        rw [← rs.length, ← hn]
        exact ih.2.2 σ σ' xs e'
      | _ => cases e
    · cases h
theorem gs_ok {X : Cx} (hc : X.calm = true) (hN : X.N = N) (hd : N.Nodup) (hsc : X.env.scope = sc) {lo : Bool} (hf : lo = false → ∀ x, sc.names.lookup x = some .cell → X.fn x = true) : ∀ {ts : Tgs} {es : List Expr}, tgsB N lo sc ts es = true →
    PGs X es (fun vs τ H Q => ∃ ρ σ σ' us, EnvOk X.K TX none ρ H σ τ ∧ RelPs X.K ρ H us vs ∧ bindTs ts us σ = some σ' ∧ ∀ τ', EnvOk X.K TX none ρ H σ' τ' → Q τ' H) ∧
      (assignEach es X.env).findIdx? (·.1) = none ∧ ∀ σ σ' us, bindTs ts us σ = some σ' → us.length = (assignEach es X.env).length
  | .nil, [], _ => by
    refine ⟨⟨fun pins s τ H vs us Q I r hq => pgs_nil.run pins s τ H vs us Q I r ?_⟩, rfl, fun σ σ' us e => ?_⟩
    · obtain ⟨ρ, σ, σ', us', eo, rs, e, k⟩ := hq
      cases us' with
      | nil =>
        cases rs
        unfold bindTs at e
        cases e
        exact ⟨rfl, k _ eo⟩
      | cons _ _ => simp [bindTs] at e
    · cases us with
      | nil => rfl
      | cons _ _ => simp [bindTs] at e
  | .nil, _ :: _, h => by simp [tgsB] at h
  | .cons _ _, [], h => by simp [tgsB] at h
  | .cons t ts, e :: es, h => by
    have h' := Bool.and_eq_true_iff.mp (by simpa [tgsB] using h)
    have g1 := g_ok hc hN hd hsc hf h'.1
    obtain ⟨g2, g3, g4⟩ := gs_ok hc hN hd hsc hf h'.2
    have ha : assignEach (e :: es) X.env = (false, assign e X.env) :: assignEach es X.env := by
      have h1 := h'.1
      cases t with
      | name i => cases e <;> first | rfl | simp [tgB] at h1
      | tup ts => cases e <;> first | rfl | simp [tgB] at h1
    refine ⟨⟨fun pins s τ H vs us Q I r hq => (pgs_cons g1 g2 (by rw [ha]; rfl)).run pins s τ H vs us Q I r ?_⟩, ?_, fun σ σ' us e => ?_⟩
    · obtain ⟨ρ, σ, σ', us', eo, rs, e, k⟩ := hq
      cases rs with
      | nil => simp [bindTs] at e
      | cons r1 r2 =>
        unfold bindTs at e
        split at e
        · rename_i σ1 e1
          exact ⟨_, _, rfl, ρ, σ, σ1, _, eo, r1, e1, fun τ' eo' => ⟨ρ, σ1, σ', _, eo', r2, e, k⟩⟩
        · cases e
    · rw [ha, List.findIdx?_cons]
      simp [g3]
    · cases us with
      | nil => simp [bindTs] at e
      | cons u us =>
        unfold bindTs at e
        split at e
        · rename_i σ1 e1
          rw [ha, List.length_cons, List.length_cons, g4 σ1 σ' us e]
        · cases e
end
end
end MP
end
section
set_option Elab.async false
set_option linter.all false
set_option maxRecDepth 100000
set_option maxHeartbeats 1000000
/-! MPSound9: what a for walks, comprehensions, the held exception. -/
namespace MP
open PySem PySem.Spec PyProof.Rows L2
section
variable {X : Cx} {tg l : Expr} {tl : TE}
/-- a list or a tuple, walked -/
def iSeq (K : PySem.W.Frag) (tl : TE) : TI := fun σ H R => tl σ H fun x H1 => ∃ a, x = .ref a ∧ (((∃ vs, SqL K H1 a vs) ∧ R (Itl K a) H1) ∨ ((∃ vs, SqT K H1 a vs) ∧ R (Itt K a) H1))
theorem pi_seq (hl : PE X l tl) : PI X tg l (iSeq X.K tl) := by
  refine ⟨fun pins s σ H R I h => ?_⟩
  refine thn (hl.run pins s σ H _ I h) fun v s1 ⟨x, H1, I1, r1, a, e, q⟩ => ?_
  subst e
  cases r1
  have fresh : ∀ bb ∈ [s1.heap.objs.size], FpOk X pins H1 bb := fun bb hb => by
    obtain rfl : bb = s1.heap.objs.size := by simpa using hb
    exact I1.fpOk (Nat.le_refl _) (I1.hok.fresh (Nat.le_refl _))
  have kept : ∀ (o : Obj) (bb : Addr) (u : Obj), s1.heap.get? bb = some u → (s1.heap.push o).get? bb = some u := fun o bb u e => Heap.get?_push_of_some _ e
  rcases q with ⟨⟨vs, hq⟩, q⟩ | ⟨⟨vs, hq⟩, q⟩
  · obtain ⟨its, rv, p, hz⟩ := I1.list hq
    exact wpAny_pyIter_list p.isList ⟨_, [s1.heap.objs.size], _, _, H1, rfl, I1.kept (t' := s1.toks) (kept _), turn_list a _, ⟨_, Heap.get?_push_size _ rfl, rfl, rfl⟩, fresh, q⟩
  · obtain ⟨its, rv, p, hz⟩ := I1.tuple hq
    exact wpAny_pyIter_tuple (show s1.heap.IsTuple a its.toArray from p) ⟨_, [s1.heap.objs.size], _, _, H1, rfl, I1.kept (t' := s1.toks) (kept _), turn_tuple a _, ⟨_, Heap.get?_push_size _ rfl, rfl, rfl⟩, fresh, q⟩
end
section
variable {T : Tab} {TX : Exc} {C : Nat → List PV → Sto → R PV} {X : Cx} {W : WX} {N : List Str} {sc : Scope} {b : Nat}
variable {x y z tg : Expr} {a c d : E} {pos : Pos}
abbrev tI (K : PySem.W.Frag) (TX : Exc) (b : Nat) (W : WX) (r : Env → Sto → R MP.Walk) : TI := tG K TX b none W (WalkOk K b) r
section
variable {K : PySem.W.Frag} {ρ : List Addr} {H : Hp} {S : Sto}
theorem stands_get {S : Sto} {g : List (Nat × List PV)} (h : stands S g = true) {k : Nat} {xs : List PV} (m : (k, xs) ∈ g) : S.lst? k = some xs := by
  unfold stands at h
  exact of_decide_eq_true (List.all_eq_true.mp h (k, xs) m)
theorem walk_lst {k : Nat} {xs : List PV} {p : Addr} (ek : ρ[k]? = some p) : WalkOk K b ρ H (xs, [(k, xs)]) (Itl K p) := by
  refine ⟨xs.length, fun H' => ∃ vs, SqL K H' p vs ∧ vs.length = xs.length, fun i H' w H2 => H2 = H' ∧ ∀ vs, SqL K H' p vs → vs[i]? = some w,
    ⟨fun i H' hi ⟨vs, q, hl⟩ => ⟨vs, vs[i], q, by simp [show i < vs.length by omega]⟩, fun H' ⟨vs, q, hl⟩ => ⟨vs, q, by omega⟩, fun i H' w H2 hi ⟨vs, q, hl⟩ y => y⟩, rfl, ?_, ?_⟩
  · intro ρ' S' H' k' pr so st
    obtain ⟨vs, r, q⟩ := so.sql (stands_get st (List.mem_singleton.mpr rfl)) (pre_get pr ek)
    exact ⟨vs, q, r.length.symm⟩
  · rintro ρ' S' H' i w it H2 k' pr so st hi ⟨rfl, y⟩
    obtain ⟨vs, r, q⟩ := so.sql (stands_get st (List.mem_singleton.mpr rfl)) (pre_get pr ek)
    obtain ⟨v, h1, h2⟩ := r.get hi
    have e := y vs q
    rw [h1] at e
    cases e
    exact ⟨.refl, so, h2⟩
theorem walk_tp {xs : List PV} {vs : List V} {p : Addr} (h : SqT K H p vs) (r : RelPs K ρ H xs vs) : WalkOk K b ρ H (xs, []) (Itt K p) := by
  refine ⟨xs.length, fun H' => SqT K H' p vs, fun i H' w H2 => H2 = H' ∧ vs[i]? = some w,
    ⟨fun i H' hi q => ⟨vs, vs[i]'(by rw [← r.length]; exact hi), q, by simp⟩, fun H' q => ⟨vs, q, by rw [r.length]; exact Nat.le_refl _⟩, fun i H' w H2 hi q y => ⟨y.1, y.2 vs q⟩⟩, rfl, fun ρ' S' H' k pr so st => k.sqT h, ?_⟩
  rintro ρ' S' H' i w it H2 k' pr so st hi ⟨rfl, y⟩
  obtain ⟨v, h1, h2⟩ := r.get hi
  rw [h1] at y
  cases y
  exact ⟨.refl, so, h2.mono k' pr⟩
theorem walk_rng {lo : Int} {n : Nat} : WalkOk K b ρ H (rngL lo n, []) (Itr lo n) := by
  refine ⟨n, fun _ => True, _, walk_range, by simp [rngL], fun _ _ _ _ _ _ _ => trivial, ?_⟩
  rintro ρ' S' H' i w it H2 k' pr so st hi ⟨rfl, rfl⟩
  unfold rngL at hi
  rw [List.getElem?_map] at hi
  cases e : (List.range n)[i]? with
  | none => rw [e] at hi; cases hi
  | some j =>
    rw [e] at hi
    cases hi
    have : j = i := by
      have h2 := List.getElem?_eq_some_iff.mp e
      obtain ⟨_, h3⟩ := h2
      simpa using h3.symm
    subst this
    exact ⟨.refl, so, .int _⟩
theorem pair_ok {ρ' : List Addr} {S' : Sto} {H' : Hp} {u v : PV} {p q : V} {t : Addr} (so : StOk K b ρ' S' H') (h : H' t = none) (r1 : RelP K ρ' H' u p) (r2 : RelP K ρ' H' v q) :
    Grow b ρ' ρ' S' S' H' (upd H' t (.tup [p, q])) ∧ StOk K b ρ' S' (upd H' t (.tup [p, q])) ∧ RelP K ρ' (upd H' t (.tup [p, q])) (.tup [u, v]) (.ref t) :=
  ⟨.alloc h, so.alloc h, .tup (SqT.of upd_same) (.cons (r1.mono (.new h) (List.prefix_refl _)) (.cons (r2.mono (.new h) (List.prefix_refl _)) .nil))⟩
theorem enumL_get : ∀ {xs : List PV} {n i : Nat} {it : PV}, (enumL n xs)[i]? = some it → ∃ x, xs[i]? = some x ∧ it = .tup [.int ((n + i : Nat) : Int), x]
  | [], _, _, _, h => by simp [enumL] at h
  | x :: xs, n, 0, it, h => by
    have e : PV.tup [.int (n : Int), x] = it := by simpa [enumL] using h
    exact ⟨x, rfl, by rw [← e]; simp⟩
  | x :: xs, n, i + 1, it, h => by
    obtain ⟨y, h1, h2⟩ := enumL_get (xs := xs) (n := n + 1) (i := i) (it := it) (by simpa [enumL] using h)
    exact ⟨y, by simpa using h1, by rw [h2]; congr 3; omega⟩
theorem enumL_len : ∀ (xs : List PV) (n : Nat), (enumL n xs).length = xs.length
  | [], _ => rfl
  | x :: xs, n => by simp [enumL, enumL_len xs (n + 1)]
theorem walk_en {k : Nat} {xs : List PV} {p : Addr} (ek : ρ[k]? = some p) : WalkOk K b ρ H (enumL 0 xs, [(k, xs)]) (Ite K p) := by
  refine ⟨xs.length, fun H' => ∃ vs, SqL K H' p vs ∧ vs.length = xs.length, fun i H' w H2 => ∃ t u, w = .ref t ∧ H' t = none ∧ H2 = upd H' t (.tup [.int (i : Nat), u]) ∧ ∀ vs, SqL K H' p vs → vs[i]? = some u,
    ⟨fun i H' hi ⟨vs, q, hl⟩ => ⟨vs, vs[i], q, by simp [show i < vs.length by omega]⟩, fun H' ⟨vs, q, hl⟩ => ⟨vs, q, by omega⟩, fun i H' w H2 hi ⟨vs, q, hl⟩ y => y⟩, enumL_len xs 0, ?_, ?_⟩
  · intro ρ' S' H' k' pr so st
    obtain ⟨vs, r, q⟩ := so.sql (stands_get st (List.mem_singleton.mpr rfl)) (pre_get pr ek)
    exact ⟨vs, q, r.length.symm⟩
  · rintro ρ' S' H' i w it H2 k' pr so st hi ⟨t, u, rfl, ht, rfl, y⟩
    obtain ⟨vs, r, q⟩ := so.sql (stands_get st (List.mem_singleton.mpr rfl)) (pre_get pr ek)
    obtain ⟨x, hx, rfl⟩ := enumL_get hi
    obtain ⟨v, h1, h2⟩ := r.get hx
    have e := y vs q
    rw [h1] at e
    cases e
    rw [Nat.zero_add]
    exact pair_ok so ht (.int _) h2
theorem pairs_get {xs ys : List PV} {i : Nat} {it : PV} (h : (pairs xs ys)[i]? = some it) : ∃ x y, xs[i]? = some x ∧ ys[i]? = some y ∧ it = .tup [x, y] := by
  unfold pairs at h
  rw [List.getElem?_map] at h
  cases e : (xs.zip ys)[i]? with
  | none => rw [e] at h; cases h
  | some p =>
    rw [e] at h
    cases h
    obtain ⟨h1, h2⟩ := List.getElem?_zip_eq_some.mp e
    exact ⟨p.1, p.2, h1, h2, rfl⟩
theorem walk_zp {j k : Nat} {xs ys : List PV} {p q : Addr} (ej : ρ[j]? = some p) (ek : ρ[k]? = some q) : WalkOk K b ρ H (pairs xs ys, [(j, xs), (k, ys)]) (Itz K p q) := by
  have m1 : (j, xs) ∈ [(j, xs), (k, ys)] := List.mem_cons_self
  have m2 : (k, ys) ∈ [(j, xs), (k, ys)] := List.mem_cons_of_mem _ (List.mem_singleton.mpr rfl)
  refine ⟨min xs.length ys.length, fun H' => (∃ vs, SqL K H' p vs ∧ vs.length = xs.length) ∧ ∃ vs, SqL K H' q vs ∧ vs.length = ys.length,
    fun i H' w H2 => ∃ t u v, w = .ref t ∧ H' t = none ∧ H2 = upd H' t (.tup [u, v]) ∧ (∀ vs, SqL K H' p vs → vs[i]? = some u) ∧ ∀ vs, SqL K H' q vs → vs[i]? = some v,
    ⟨fun i H' hi ⟨⟨vs, h1, l1⟩, ws, h2, l2⟩ => ?_, fun H' ⟨⟨vs, h1, l1⟩, ws, h2, l2⟩ => ⟨vs, ws, h1, h2, by omega⟩, fun i H' w H2 hi _ y => y⟩, by simp [pairs], ?_, ?_⟩
  · have a1 : i < vs.length := by omega
    have a2 : i < ws.length := by omega
    exact ⟨vs, ws, vs[i], ws[i], h1, h2, by simp [a1], by simp [a2]⟩
  · intro ρ' S' H' k' pr so st
    obtain ⟨vs, r, h⟩ := so.sql (stands_get st m1) (pre_get pr ej)
    obtain ⟨ws, r2, h2⟩ := so.sql (stands_get st m2) (pre_get pr ek)
    exact ⟨⟨vs, h, r.length.symm⟩, ws, h2, r2.length.symm⟩
  · rintro ρ' S' H' i w it H2 k' pr so st hi ⟨t, u, v, rfl, ht, rfl, y1, y2⟩
    obtain ⟨vs, r, h⟩ := so.sql (stands_get st m1) (pre_get pr ej)
    obtain ⟨ws, r2, h2⟩ := so.sql (stands_get st m2) (pre_get pr ek)
    obtain ⟨x, z, hx, hz, rfl⟩ := pairs_get hi
    obtain ⟨u', e1, q1⟩ := r.get hx
    obtain ⟨v', e2, q2⟩ := r2.get hz
    have f1 := y1 vs h
    have f2 := y2 ws h2
    rw [e1] at f1
    rw [e2] at f2
    cases f1
    cases f2
    exact pair_ok so ht q1 q2
theorem walk_zt {xs ys : List PV} {vs ws : List V} {p q : Addr} (h : SqT K H p vs) (r : RelPs K ρ H xs vs) (h2 : SqT K H q ws) (r2 : RelPs K ρ H ys ws) : WalkOk K b ρ H (pairs xs ys, []) (RZ.ItzT K p q) := by
  have l1 := r.length
  have l2 := r2.length
  refine ⟨min xs.length ys.length, fun H' => SqT K H' p vs ∧ SqT K H' q ws,
    fun i H' w H2 => ∃ t u v, w = .ref t ∧ H' t = none ∧ H2 = upd H' t (.tup [u, v]) ∧ vs[i]? = some u ∧ ws[i]? = some v,
    ⟨fun i H' hi ⟨h1, h2⟩ => ?_, fun H' ⟨h1, h2⟩ => ⟨vs, ws, h1, h2, by omega⟩, fun i H' w H2 hi ⟨h1, h2⟩ ⟨t, u, v, e1, e2, e3, y1, y2⟩ => ⟨t, u, v, e1, e2, e3, y1 vs h1, y2 ws h2⟩⟩, by simp [pairs], fun ρ' S' H' k pr so st => ⟨k.sqT h, k.sqT h2⟩, ?_⟩
  · have a1 : i < vs.length := by omega
    have a2 : i < ws.length := by omega
    exact ⟨vs, ws, vs[i], ws[i], h1, h2, by simp [a1], by simp [a2]⟩
  · rintro ρ' S' H' i w it H2 k' pr so st hi ⟨t, u, v, rfl, ht, rfl, y1, y2⟩
    obtain ⟨x, z, hx, hz, rfl⟩ := pairs_get hi
    obtain ⟨u', e1, q1⟩ := r.get hx
    obtain ⟨v', e2, q2⟩ := r2.get hz
    rw [e1] at y1
    rw [e2] at y2
    cases y1
    cases y2
    exact pair_ok so ht (q1.mono k' pr) (q2.mono k' pr)
end
theorem i_seq (ha : PE X x (tE X.K TX b none W (ev C a))) : PI X tg x (tI X.K TX b W (evi C (.seq a))) := by
  refine ⟨fun pins s τ H R I hq => (pi_seq ha).run pins s τ H R I ?_⟩
  obtain ⟨ρ, σ, S, so, eo, h⟩ := hq
  unfold evi at h
  refine ⟨ρ, σ, S, so, eo, At.mono (At.bd (rel := relE X.K) h) fun w H1 ⟨ρ1, v, S1, _, g1, so1, r1, h1⟩ => ?_⟩
  obtain ⟨k, e, h2⟩ := At.opt h1
  unfold walkV at e
  split at e
  · cases e
    obtain ⟨p, vs, rfl, hq, rs⟩ := RelP.of_tup r1
    exact ⟨p, rfl, .inr ⟨⟨vs, hq⟩, At.ok (rel := WalkOk X.K b) so1 h2 (walk_tp hq rs)⟩⟩
  · rename_i kk _
    obtain ⟨p, rfl, ep⟩ := RelP.of_ref r1
    cases e1 : S1.lst? kk with
    | none => rw [e1] at e; cases e
    | some xs =>
      rw [e1] at e
      cases e
      obtain ⟨vs, rs, hs⟩ := so1.sql e1 ep
      exact ⟨p, rfl, .inl ⟨⟨vs, hs⟩, At.ok (rel := WalkOk X.K b) so1 h2 (walk_lst ep)⟩⟩
  · cases e
theorem small_ok {i : Int} (h : small i = true) : -(2 ^ 62) ≤ i ∧ i < 2 ^ 62 := by
  have h' := Bool.and_eq_true_iff.mp h
  exact ⟨of_decide_eq_true h'.1, of_decide_eq_true h'.2⟩
theorem i_rng1 {p : Pos} (hg : Gl X "range") (hm : X.mg "range" = none) (ha : PE X x (tE X.K TX b none W (ev C a))) (hs : starEach [x] X.env = [(false, eval x X.env)]) : PI X tg (.Call (.Name "range" p) [x] [] pos) (tI X.K TX b W (evi C (.rng1 a))) := by
  refine ⟨fun pins s τ H R I hq => (pi_range1 hg hm (pa_cons ha pa_nil hs) hs).run pins s τ H R I ?_⟩
  obtain ⟨ρ, σ, S, so, eo, h⟩ := hq
  unfold evi at h
  refine ⟨ρ, σ, S, so, eo, At.mono (At.bd (rel := relE X.K) h) fun w H1 ⟨ρ1, v, S1, _, g1, so1, r1, h1⟩ => ?_⟩
  split at h1
  · split at h1
    · rename_i hs
      obtain ⟨s1, s2⟩ := small_ok hs
      obtain rfl := RelP.of_int r1
      exact ⟨_, rfl, s1, s2, At.ok (rel := WalkOk X.K b) so1 h1 walk_rng⟩
    · exact h1.elim
  · exact h1.elim
theorem i_rng2 {p : Pos} (hg : Gl X "range") (hm : X.mg "range" = none) (ha : PE X x (tE X.K TX b none W (ev C a))) (hb : PE X y (tE X.K TX b none W (ev C c))) (hs : ∀ es, starEach (x :: es) X.env = (false, eval x X.env) :: starEach es X.env)
    (hs2 : starEach [y] X.env = [(false, eval y X.env)]) : PI X tg (.Call (.Name "range" p) [x, y] [] pos) (tI X.K TX b W (evi C (.rng2 a c))) := by
  refine ⟨fun pins s τ H R I hq => (pi_range2 hg hm (pa_cons ha (pa_cons hb pa_nil hs2) (hs _)) (by rw [hs, hs2]) hs2).run pins s τ H R I ?_⟩
  obtain ⟨ρ, σ, S, so, eo, h⟩ := hq
  unfold evi at h
  refine ⟨ρ, σ, S, so, eo, At.mono (At.bd (rel := relE X.K) h) fun w H1 ⟨ρ1, v, S1, _, g1, so1, r1, h1⟩ => ?_⟩
  refine ⟨ρ1, σ, S1, so1, eo.grow g1, At.mono (At.bd (rel := relE X.K) h1) fun w2 H2 ⟨ρ2, u, S2, _, g2, so2, r2, h2⟩ => ?_⟩
  split at h2
  · split at h2
    · rename_i hs
      have hs' := Bool.and_eq_true_iff.mp hs
      obtain ⟨s1, s2⟩ := small_ok hs'.1
      obtain ⟨s3, s4⟩ := small_ok hs'.2
      obtain rfl := RelP.of_int r1
      obtain rfl := RelP.of_int r2
      exact ⟨_, _, rfl, ⟨s1, s2, s3, s4⟩, At.ok (rel := WalkOk X.K b) so2 h2 walk_rng⟩
    · exact h2.elim
  · exact h2.elim
theorem i_zip {elts : List Expr} {kk : Nat} {p tpos : Pos} (hg : Gl X "zip") (hm : X.mg "zip" = none) (ha : PE X x (tE X.K TX b none W (ev C a))) (hb : PE X y (tE X.K TX b none W (ev C c))) (hs : ∀ es, starEach (x :: es) X.env = (false, eval x X.env) :: starEach es X.env)
    (hs2 : starEach [y] X.env = [(false, eval y X.env)]) : PI X (.Tuple elts kk tpos) (.Call (.Name "zip" p) [x, y] [] pos) (tI X.K TX b W (evi C (.zip a c))) := by
  refine ⟨fun pins s τ H R I hq => (RZ.pi_zipA hg hm (pa_cons ha (pa_cons hb pa_nil hs2) (hs _)) (hs _) (by rw [hs2]; rfl)).run pins s τ H R I ?_⟩
  obtain ⟨ρ, σ, S, so, eo, h⟩ := hq
  unfold evi at h
  refine ⟨ρ, σ, S, so, eo, At.mono (At.bd (rel := relE X.K) h) fun w H1 ⟨ρ1, v, S1, _, g1, so1, r1, h1⟩ => ?_⟩
  refine ⟨ρ1, σ, S1, so1, eo.grow g1, At.mono (At.bd (rel := relE X.K) h1) fun w2 H2 ⟨ρ2, u, S2, _, g2, so2, r2, h2⟩ => ?_⟩
  have r1' := RelP.mono g2.keep g2.pre r1
  obtain ⟨k, e, h3⟩ := At.opt h2
  unfold zipV at e
  split at e
  · cases e
    obtain ⟨p1, vs, rfl, q1, rs1⟩ := r1'.of_tup
    obtain ⟨p2, ws, rfl, q2, rs2⟩ := RelP.of_tup r2
    exact ⟨p1, p2, vs, ws, rfl, .inr ⟨q1, q2, At.ok (rel := WalkOk X.K b) so2 h3 (walk_zt q1 rs1 q2 rs2)⟩⟩
  · obtain ⟨p1, rfl, e1⟩ := r1'.of_ref
    obtain ⟨p2, rfl, e2⟩ := RelP.of_ref r2
    split at e
    · rename_i xs ys f1 f2
      cases e
      obtain ⟨vs, rs1, q1⟩ := so2.sql f1 e1
      obtain ⟨ws, rs2, q2⟩ := so2.sql f2 e2
      exact ⟨p1, p2, vs, ws, rfl, .inl ⟨q1, q2, At.ok (rel := WalkOk X.K b) so2 h3 (walk_zp e1 e2)⟩⟩
    · cases e
  · cases e
theorem i_enum {elts : List Expr} {kk : Nat} {p tpos : Pos} (hg : Gl X "enumerate") (hm : X.mg "enumerate" = none) (ha : PE X x (tE X.K TX b none W (ev C a))) (hs : starEach [x] X.env = [(false, eval x X.env)]) :
    PI X (.Tuple elts kk tpos) (.Call (.Name "enumerate" p) [x] [] pos) (tI X.K TX b W (evi C (.enum a))) := by
  refine ⟨fun pins s τ H R I hq => (pi_enum hg hm (pa_cons ha pa_nil hs) hs).run pins s τ H R I ?_⟩
  obtain ⟨ρ, σ, S, so, eo, h⟩ := hq
  unfold evi at h
  refine ⟨ρ, σ, S, so, eo, At.mono (At.bd (rel := relE X.K) h) fun w H1 ⟨ρ1, v, S1, _, g1, so1, r1, h1⟩ => ?_⟩
  split at h1
  · obtain ⟨p, rfl, ep⟩ := RelP.of_ref r1
    split at h1
    · rename_i xs e
      obtain ⟨vs, rs, q⟩ := so1.sql e ep
      exact ⟨p, vs, rfl, q, At.ok (rel := WalkOk X.K b) so1 h1 (walk_en ep)⟩
    · exact h1.elim
  · exact h1.elim
end
end MP
end
section
set_option Elab.async false
set_option linter.all false
set_option maxRecDepth 100000
set_option maxHeartbeats 1000000
/-! MPSound10: comprehensions, the held exception; every expression that is looked at runs like its MP. -/
namespace MP
open PySem PySem.Spec PyProof.Rows L2
section
variable {T : Tab} {TX : Exc} {C : Nat → List PV → Sto → R PV} {X : Cx} {W : WX} {N : List Str} {sc : Scope} {b : Nat} {cl : Bool} {ex : Option Held}
variable {x y z tg : Expr} {a c d : E} {pos : Pos}
/-! ### an exception's attribute, isinstance of it -/
theorem zip_lookup {K : PySem.W.Frag} {ρ : List Addr} {H : Hp} : ∀ {fs : List Str} {as : List PV} {ws : List V} {j : Nat} {f : Str} {v : PV}, fs.Nodup → RelPs K ρ H as ws → fs[j]? = some f → as[j]? = some v → ∃ w, (fs.zip ws).lookup f = some w ∧ RelP K ρ H v w
  | [], _, _, _, _, _, _, _, e, _ => by simp at e
  | _ :: _, [], _, _, _, _, _, .nil, _, e => by simp at e
  | g :: fs, u :: as, w :: ws, 0, f, v, _, .cons r _, e1, e2 => by
    have e1 : g = f := by simpa using e1
    have e2 : u = v := by simpa using e2
    subst e1
    subst e2
    exact ⟨w, by simp [List.lookup], r⟩
  | g :: fs, u :: as, w :: ws, j + 1, f, v, nd, .cons _ t, e1, e2 => by
    have nd' := List.nodup_cons.mp nd
    have e1 : fs[j]? = some f := by simpa using e1
    obtain ⟨w', h1, h2⟩ := zip_lookup nd'.2 t e1 (by simpa using e2)
    refine ⟨w', ?_, h2⟩
    have ne : (f == g) = false := by
      have : f ≠ g := fun z => nd'.1 (by rw [← z]; exact List.mem_of_getElem? e1)
      simpa using this
    rw [List.zip_cons_cons, List.lookup_cons, ne]
    exact h1
theorem s_eat (cx : Ctx T TX C X W N sc cl ex) {i j k : Nat} {n f : Str} {p : Pos} {kc : Nat} (hh : hxOf ex = some (k, kc)) (hk : k = i) (h1 : atB N i n = true) (h2 : visB sc n = true) (h3 : nameB n = true) (hf : (T.cls[kc]?.bind fun p => p.2.1[j]?) = some f)
    (hnd : ∀ p, T.cls[kc]? = some p → p.2.1.Nodup) : PE X (.Attribute (.Name n p) f pos) (tE X.K TX b ex W (ev C (.eat i j))) := by
  obtain ⟨q, hq, e1, e2⟩ : ∃ q, ex = some q ∧ q.i = k ∧ q.c = kc := by
    cases ex with
    | none => cases hh
    | some q => have e : (q.i, q.c) = (k, kc) := by simpa [hxOf] using hh
                exact ⟨q, rfl, congrArg Prod.fst e, congrArg Prod.snd e⟩
  subst hk
  subst e1
  subst e2
  obtain ⟨oe, pn, calm, ⟨Y, hY⟩, hz, ⟨vs, hv⟩, tab⟩ := cx.held q hq
  cases hp : T.cls[q.c]? with
  | none => rw [hp] at hf; cases hf
  | some pp =>
    rw [hp] at hf
    have hf : pp.2.1[j]? = some f := hf
    obtain ⟨t1, _⟩ := tab pp hp
    obtain ⟨ga, gg, sb, hd, nf⟩ := t1 f (List.mem_of_getElem? hf)
    have at_ := cx.attrs q.c pp hp
    have nd := hnd pp hp
    obtain ⟨n1, n2, _⟩ := nameB_ok h3
    have pn' : PE X (.Name n p) (tVar q.i) := pe_var (by rw [cx.names]; exact atB_ok h1) (by rw [cx.scope]; exact visB_ok h2) n1 n2
    refine ⟨fun pins s τ H Q I ht => ?_⟩
    obtain ⟨ρ, σ, S, so, eo, h⟩ := ht
    obtain ⟨as, s1, s2, x0, x1, x2, x3⟩ := eo.held q hq
    unfold ev at h
    rw [s1] at h
    obtain ⟨v, ev', h⟩ := At.opt (show At _ _ _ _ _ _ _ _ (MP.opt as[j]? S) Q from h)
    refine attr_of (by rfl) (thn (pn'.run pins s τ H (fun w H1 => w = .ref q.a ∧ H1 = H) I ⟨_, s2, rfl, rfl⟩) fun u s1' ⟨w, H1, I1, rw', e3, e4⟩ => ?_)
    subst e3
    subst e4
    obtain rfl : u = Value.ref q.a := rw'
    rcases x3 with ⟨z, _⟩ | ⟨_, dd, ws, e5, e6, r⟩
    · rw [at_] at z
      rw [z] at hf
      simp at hf
    · rw [at_] at e6
      obtain ⟨w, l1, l2⟩ := zip_lookup nd r hf ev'
      obtain ⟨mA, ns, hr⟩ : ObjOk X.prog X.w H1 s1'.heap dd (.xd (pp.2.1.zip ws)) := I1.hok dd _ e6
      obtain ⟨od, ho, hl⟩ := lookIn_ns ns
      obtain ⟨u, hu, ru⟩ := RelO.some_of (v := w) (o := mA f) (by rw [← l1]; exact hr f)
      have pin : s1'.heap.get? q.a = some oe := by
        have hm : (q.a, oe) ∈ X.pn := by rw [hY]; exact List.mem_cons_self
        exact (I1.pin (q.a, oe) (List.mem_append_left _ hm)).1
      have J : PySem.W.InstAt s1'.heap q.a oe (TX.at_ q.c) (some od) := ⟨pin, by rw [hz.1, x1], by unfold PySem.W.notCls; rw [hv] <;> rfl, by rw [hz.2, e5]; exact ho⟩
      exact HandSPX.exc_get I1.kIn J ga gg sb (PySem.W.findObj_own hd nf rfl (by rw [hl, hu])) (handed_of ru) ⟨w, H1, I1.tok _, ru, At.ok so h l2⟩
theorem s_eisi (cx : Ctx T TX C X W N sc cl ex) {i k kc : Nat} {n m g : Str} {p p2 p3 : Pos} (hh : hxOf ex = some (k, kc)) (hk : k = i) (h1 : atB N i n = true) (h2 : visB sc n = true) (h3 : nameB n = true) (hm : gloB sc m = true) (em : m = "isinstance") (bm : T.bi.contains m = true)
    (hg : gloB sc g = true) (hc : ((T.cls[kc]?).any fun p => p.2.1.isEmpty && p.2.2.contains g) = true) : PE X (.Call (.Name m p) [.Name n p2, .Name g p3] [] pos) (tE X.K TX b ex W (ev C (.eisi i))) := by
  obtain ⟨q, hq, e1, e2⟩ : ∃ q, ex = some q ∧ q.i = k ∧ q.c = kc := by
    cases ex with
    | none => cases hh
    | some q => have e : (q.i, q.c) = (k, kc) := by simpa [hxOf] using hh
                exact ⟨q, rfl, congrArg Prod.fst e, congrArg Prod.snd e⟩
  subst hk
  subst e1
  subst e2
  obtain ⟨oe, pn, calm, ⟨Y, hY⟩, hz, hv, tab⟩ := cx.held q hq
  cases hp : T.cls[q.c]? with
  | none => rw [hp] at hc; simp at hc
  | some pp =>
    rw [hp] at hc
    have hc := Bool.and_eq_true_iff.mp (show (pp.2.1.isEmpty && pp.2.2.contains g) = true by simpa using hc)
    have emp : pp.2.1 = [] := by simpa using hc.1
    obtain ⟨_, t2⟩ := tab pp hp
    obtain ⟨g1, g2, _, g4⟩ := cx.gl hm
    obtain ⟨k1, k2, _, k4⟩ := cx.gl hg
    subst em
    have mn : X.mg "isinstance" = none := (cx.free _ bm).2 (by decide +kernel)
    obtain ⟨n1, n2, _⟩ := nameB_ok h3
    have pn' : PE X (.Name n p2) (tVar q.i) := pe_var (by rw [cx.names]; exact atB_ok h1) (by rw [cx.scope]; exact visB_ok h2) n1 n2
    refine ⟨fun pins s τ H Q I ht => ?_⟩
    obtain ⟨ρ, σ, S, so, eo, h⟩ := ht
    obtain ⟨as, s1, s2, x0, x1, x2, x3⟩ := eo.held q hq
    unfold ev at h
    rw [s1] at h
    have h : At X.K TX b _ (relE X.K) ρ S H (.ok (.bl true) S) Q := h
    obtain ⟨EC, sup⟩ := t2 emp
    have at_ := cx.attrs q.c pp hp
    have dn : q.d = none := by
      rcases x3 with ⟨_, z⟩ | ⟨z, _⟩
      · exact z
      · exact absurd (at_.trans emp) z
    obtain ⟨cv, u, hu, ru, un, kit⟩ := sup g hc.2
    have pg' : PE X (.Name g p3) (tC cv) := by
      rcases hu with hu | ⟨hu, hb, _⟩
      · exact pe_glob k1 hu ru k2
      · exact pe_bltn k1 hu hb ru k4 k2
    have ci : CallR X (.builtin "isinstance") (rIsE X.K (TX.at_ q.c) q.a) := by
      have hz' : Zc (.ref (TX.at_ q.c)) none oe := by rw [← x1, ← dn]; exact hz
      have z := call_isE (X := Y) (a := q.a) (D := TX.at_ q.c) (oe := oe) (pn := pn) (by have e := EC; rw [hY] at e; exact e) hz' hv
      rw [hY]
      exact z
    exact (pe_callB ci g1 mn boot_isinstance (pa_cons pn' (pa_cons pg' pa_nil)) g4 g2).run pins s τ H Q I ⟨_, s2, cv, u, true, rfl, un, kit, At.ok (rel := relE X.K) so h (.bl true)⟩
/-! ### comprehensions -/
theorem Grow.fill {ρ : List Addr} {S : Sto} {H : Hp} {k : Nat} {a : Addr} {ys xs : List PV} {vs ws : List V} (hb : b ≤ k) (hk : S.cells[k]? = some (.lst ys)) (ha : ρ[k]? = some a) (hw : H a = some (.lst ws)) : Grow b ρ ρ S ⟨S.cells.set k (.lst xs), S.dirty⟩ H (upd H a (.lst vs)) :=
  ⟨.wlst hw, List.prefix_refl _, by simp, fun q u e n => ⟨by rw [upd_ne fun z => n (by rw [z]; exact List.mem_of_getElem? ha)]; exact e, n⟩, fun e => ⟨e, fun n hn u j c hj q => by
    rw [List.getElem?_set_ne (by omega)] at q
    exact u j c hj q⟩⟩
theorem StOk.fill {K : PySem.W.Frag} {ρ : List Addr} {S : Sto} {H : Hp} {k : Nat} {a : Addr} {ys xs : List PV} {vs : List V} (so : StOk K b ρ S H) (hk : S.cells[k]? = some (.lst ys)) (e : ρ[k]? = some a) (r : RelPs K ρ H xs vs) : StOk K b ρ ⟨S.cells.set k (.lst xs), S.dirty⟩ (upd H a (.lst vs)) :=
  let z := so.write (p := true) hk e r
  ⟨z.len, z.cell, z.inj, z.base⟩
theorem noExc_At {α β : Type} {K : PySem.W.Frag} {E E' : XK} {rel : List Addr → Hp → α → β → Prop} {ρ : List Addr} {S : Sto} {H : Hp} {r : R α} {Q : β → Hp → Prop} (h : At K TX b E rel ρ S H (noExc r) Q) : At K TX b E' rel ρ S H r Q := by
  cases r with
  | ok v S' => exact h
  | exc c as S' => exact h.elim
  | bad => exact h
/-- the turns' reading: from any place of the walk -/
theorem At.noE {α β : Type} {K : PySem.W.Frag} {E E' : XK} {rel : List Addr → Hp → α → β → Prop} {ρ : List Addr} {S : Sto} {H : Hp} {r : R α} {Q : β → Hp → Prop} (h : At K TX b (fun _ _ _ => False) rel ρ S H r Q) : At K TX b E rel ρ S H r Q := by
  cases r with
  | ok v S' => exact h
  | exc c as S' => exact fun ρ' H' cls d g so x => (h ρ' H' cls d g so x).elim
  | bad => exact h
end
end MP
end
section
set_option Elab.async false
set_option linter.all false
set_option maxRecDepth 100000
set_option maxHeartbeats 1000000
/-! MPSound11: comprehensions; every expression that is looked at runs like its MP. -/
namespace MP
open PySem PySem.Spec PyProof.Rows L2
section
variable {T : Tab} {TX : Exc} {C : Nat → List PV → Sto → R PV} {X : Cx} {W : WX} {N : List Str} {sc : Scope} {b : Nat} {cl : Bool} {ex : Option Held}
variable {x y z tg : Expr} {a c d : E} {pos : Pos}
abbrev noW : WX := fun _ _ _ _ => False
theorem Ctx.blk (cx : Ctx T TX C X W N sc true none) (s : Shared) (H : Hp) (scope : Scope) (A : Addr) (cs : List (Str × Addr)) (fp : List Addr) : Ctx T TX C (X.blk s H scope (compEnvC scope cs A X.env) fp) noW N (relS scope sc) true none :=
  ⟨by rw [← cx.scope]; rfl, cx.names, cx.nd, takes0, cx.calm, cx.unit, cx.free, cx.glb, cx.fns, cx.num, cx.exc, cx.exm, cx.attrs, fun x hx => by cases hx⟩
theorem wipe_env {K : PySem.W.Frag} {ρ : List Addr} {H : Hp} {σ : Env} {τ : L2.St} (e : EnvOk K TX none ρ H σ τ) (own : List Nat) : EnvOk K TX none ρ H (MP.wipe σ own) (L2.wipe τ own) := e.wipe own
/-- a target stores nowhere but at its own names -/
theorem own_len (τ : L2.St) (own : List Nat) : (L2.wipe τ own).length = τ.length := wipe_length τ own
/-- slots set at places of own are forgotten by wipe -/
theorem wipe_set {τ : L2.St} {own : List Nat} {i : Nat} {o : Option V} (h : i ∈ own) : L2.wipe (τ.set i o) own = L2.wipe τ own := by
  induction own with
  | nil => cases h
  | cons v vs ih =>
    show (L2.wipe (τ.set i o) vs).set v none = (L2.wipe τ vs).set v none
    rcases List.mem_cons.mp h with rfl | h
    · by_cases hm : i ∈ vs
      · rw [ih hm]
      · have e : ∀ (us : List Nat), i ∉ us → ∀ τ : L2.St, L2.wipe (τ.set i o) us = (L2.wipe τ us).set i o := by
          intro us
          induction us with
          | nil => intro _ τ; rfl
          | cons u us ihu =>
            intro hn τ
            have hn' : i ≠ u ∧ i ∉ us := ⟨fun z => hn (by rw [z]; exact List.mem_cons_self), fun z => hn (List.mem_cons_of_mem _ z)⟩
            show (L2.wipe (τ.set i o) us).set u none = ((L2.wipe τ us).set u none).set i o
            rw [ihu hn'.2 τ, List.set_comm _ _ hn'.1]
        rw [e vs hm, List.set_set]
    · rw [ih h]
theorem wipe_wipe {τ : L2.St} {own : List Nat} : L2.wipe (L2.wipe τ own) own = L2.wipe τ own := by
  have e : ∀ us : List Nat, (∀ u ∈ us, u ∈ own) → L2.wipe (L2.wipe τ us) own = L2.wipe τ own := by
    intro us
    induction us with
    | nil => intro _; rfl
    | cons u us ih =>
      intro h
      show L2.wipe ((L2.wipe τ us).set u none) own = _
      rw [wipe_set (h u List.mem_cons_self), ih fun v hv => h v (List.mem_cons_of_mem _ hv)]
  exact e own fun u h => h
mutual
theorem g_own {X : Cx} (hc : X.calm = true) (hN : X.N = N) (hd : N.Nodup) (hsc : X.env.scope = sc) {lo : Bool} (hf : lo = false → ∀ x, sc.names.lookup x = some .cell → X.fn x = true) {own : List Nat} : ∀ {t : Tg} {tg : Expr}, tgB N lo sc t tg = true → (∀ i ∈ t.slots, i ∈ own) →
    PG X tg (fun v τ H Q => ∃ ρ σ σ' u, EnvOk X.K TX none ρ H σ τ ∧ RelP X.K ρ H u v ∧ bindT t u σ = some σ' ∧ ∀ τ', EnvOk X.K TX none ρ H σ' τ' → L2.wipe τ' own = L2.wipe τ own → Q τ' H)
  | .name i, tg, h, hi => by
    unfold tgB at h
    split at h
    · rename_i n p
      have h' := Bool.and_eq_true_iff.mp h
      have hl : Loc X.env.scope n ∧ (X.fn n = true ∨ X.env.scope.names.lookup n = some .local) := by
        rw [hsc]
        have h2 := h'.2
        cases lo with
        | true => exact ⟨.inl (kindB_ok h2), .inr (kindB_ok h2)⟩
        | false =>
          have h3 := locB_ok (sc := sc) (x := n) h2
          exact ⟨h3, h3.elim .inr fun e => .inl (hf rfl n e)⟩
      have g := pg_name (X := X) (i := i) (x := n) (pos := p) (by rw [hN]; exact hd) (by rw [hN]; exact atB_ok h'.1) hl.1 hl.2
      refine ⟨fun pins s τ H v u Q I r hq => g.run pins s τ H v u Q I r ?_⟩
      obtain ⟨ρ, σ, σ', w, eo, rp, e, k⟩ := hq
      unfold bindT at e
      cases e
      exact k _ (eo.set i rp) (wipe_set (hi i (by simp [Tg.slots])))
    · cases h
  | .tup ts, tg, h, hi => by
    unfold tgB at h
    split at h
    · rename_i es k p
      have ih := gs_own hc hN hd hsc hf (own := own) h (by simpa [Tg.slots] using hi)
      refine ⟨fun pins s τ H v u Q I r hq => (pg_tup hc ih.1 rfl ih.2.1).run pins s τ H v u Q I r ?_⟩
      obtain ⟨ρ, σ, σ', w, eo, rp, e, kk⟩ := hq
      unfold bindT at e
      cases w with
      | tup xs =>
        obtain ⟨a, vs, rfl, hq, rs⟩ := rp.of_tup
        have e' : bindTs ts xs σ = some σ' := e
        refine ⟨a, vs, rfl, hq, ?_, ρ, σ, σ', xs, eo, rs, e', kk⟩
        rw [← rs.length]
        exact ih.2.2 σ σ' xs e'
      | _ => cases e
    · cases h
theorem gs_own {X : Cx} (hc : X.calm = true) (hN : X.N = N) (hd : N.Nodup) (hsc : X.env.scope = sc) {lo : Bool} (hf : lo = false → ∀ x, sc.names.lookup x = some .cell → X.fn x = true) {own : List Nat} : ∀ {ts : Tgs} {es : List Expr}, tgsB N lo sc ts es = true → (∀ i ∈ ts.slots, i ∈ own) →
    PGs X es (fun vs τ H Q => ∃ ρ σ σ' us, EnvOk X.K TX none ρ H σ τ ∧ RelPs X.K ρ H us vs ∧ bindTs ts us σ = some σ' ∧ ∀ τ', EnvOk X.K TX none ρ H σ' τ' → L2.wipe τ' own = L2.wipe τ own → Q τ' H) ∧
      (assignEach es X.env).findIdx? (·.1) = none ∧ ∀ σ σ' us, bindTs ts us σ = some σ' → us.length = (assignEach es X.env).length
  | .nil, [], _, _ => by
    have g := gs_ok (TX := TX) hc hN hd hsc hf (ts := .nil) (es := []) rfl
    refine ⟨⟨fun pins s τ H vs us Q I r hq => pgs_nil.run pins s τ H vs us Q I r ?_⟩, g.2⟩
    obtain ⟨ρ, σ, σ', us', eo, rs, e, k⟩ := hq
    cases us' with
    | nil =>
      cases rs
      unfold bindTs at e
      cases e
      exact ⟨rfl, k _ eo rfl⟩
    | cons _ _ => simp [bindTs] at e
  | .nil, _ :: _, h, _ => by simp [tgsB] at h
  | .cons _ _, [], h, _ => by simp [tgsB] at h
  | .cons t ts, e :: es, h, hi => by
    have g := gs_ok (TX := TX) hc hN hd hsc hf (ts := .cons t ts) (es := e :: es) h
    have h' := Bool.and_eq_true_iff.mp (by simpa [tgsB] using h)
    have hi' : (∀ i ∈ t.slots, i ∈ own) ∧ ∀ i ∈ ts.slots, i ∈ own :=
      ⟨fun i q => hi i (by simp [Tgs.slots, q]), fun i q => hi i (by simp [Tgs.slots, q])⟩
    have g1 := g_own hc hN hd hsc hf (own := own) h'.1 hi'.1
    obtain ⟨g2, g3, g4⟩ := gs_own hc hN hd hsc hf (own := own) h'.2 hi'.2
    have ha : assignEach (e :: es) X.env = (false, assign e X.env) :: assignEach es X.env := by
      have h1 := h'.1
      cases t with
      | name i => cases e <;> first | rfl | simp [tgB] at h1
      | tup ts => cases e <;> first | rfl | simp [tgB] at h1
    refine ⟨⟨fun pins s τ H vs us Q I r hq => (pgs_cons g1 g2 (by rw [ha]; rfl)).run pins s τ H vs us Q I r ?_⟩, g.2⟩
    obtain ⟨ρ, σ, σ', us', eo, rs, e, k⟩ := hq
    cases rs with
    | nil => simp [bindTs] at e
    | cons r1 r2 =>
      unfold bindTs at e
      split at e
      · rename_i σ1 e1
        exact ⟨_, _, rfl, ρ, σ, σ1, _, eo, r1, e1, fun τ' eo' w' => ⟨ρ, σ1, σ', _, eo', r2, e, fun τ'' eo'' w'' => k τ'' eo'' (w''.trans w')⟩⟩
      · cases e
end
abbrev gO (K : PySem.W.Frag) (TX : Exc) (own : List Nat) (t : Tg) : TG := fun v τ H Q => ∃ ρ σ σ' u, EnvOk K TX none ρ H σ τ ∧ RelP K ρ H u v ∧ bindT t u σ = some σ' ∧ ∀ τ', EnvOk K TX none ρ H σ' τ' → L2.wipe τ' own = L2.wipe τ own → Q τ' H
/-- a comprehension's run tells its reading -/
theorem lc_read {K : PySem.W.Frag} {t : Tg} {own : List Nat} {it : It} {co : Eo} {e : E} {τ : L2.St} {H : Hp} {Q : VK} (hq : tE K TX b none W (ev C (.lc t own it co e)) τ H Q) :
    tLc (tI K TX b W (evi C it)) (gO K TX own t) (tTs K TX b none noW (evc C co)) (tE K TX b none noW (ev C e)) ((own.map fun i => ((N[i]?).getD Str.empty, i)).map (·.2)) τ H Q := by
  have mapown : (own.map fun i => ((N[i]?).getD Str.empty, i)).map (·.2) = own := by
    rw [List.map_map]
    exact List.map_id' own
  rw [mapown]
  obtain ⟨ρ, σ, S, so, eo, h⟩ := hq
  unfold ev at h
  refine ⟨ρ, σ, S, so, eo, At.mono (At.bd (rel := WalkOk K b) h) fun J H1 ⟨ρ1, w, S1, _, g1, so1, wo, h1⟩ => fun D hD => ?_⟩
  have eo1 := eo.grow g1
  obtain ⟨n, G, Y, wk, hn, hG, hY⟩ := wo.ex
  have h1 : At K TX b (fun _ _ _ => False) (relE K) ρ1 S1 H1 _ Q := noExc_At h1
  have g0 : Grow b ρ1 (ρ1 ++ [D]) S1 (S1.push (.lst [])) H1 (upd H1 D (.lst [])) := .push so1.base hD
  have so0 : StOk K b (ρ1 ++ [D]) (S1.push (.lst [])) (upd H1 D (.lst [])) := so1.push hD .nil
  let run (xs : List PV) (Si : Sto) : R PV := (lcLoop S1.len (fun S => stands S w.2) (fun x => bindT t x (MP.wipe σ own)) (evc C co) (ev C e) xs Si).bd fun _ S2 => .ok (.ref S1.len) S2
  refine lc_it wk (fun i Hc => ∃ ρi Si, Grow b (ρ1 ++ [D]) ρi (S1.push (.lst [])) Si (upd H1 D (.lst [])) Hc ∧ StOk K b ρi Si Hc ∧ At K TX b (fun _ _ _ => False) (relE K) ρi Si Hc (run (w.1.drop i) Si) Q)
    ⟨ρ1 ++ [D], _, .refl, so0, At.grow g0 (by simpa [run] using h1)⟩ ?_ ?_ ?_
  · rintro i Hc hi ⟨ρi, Si, gi, soi, hq⟩
    refine hG ρi Si Hc (g0.keep.trans gi.keep) (g0.pre.trans gi.pre) soi ?_
    cases hst : stands Si w.2 with
    | true => rfl
    | false =>
      exfalso
      have : run (w.1.drop i) Si = .bad := by
        show R.bd _ _ = _
        cases w.1.drop i with
        | nil => unfold lcLoop; rw [hst]; rfl
        | cons x xs => unfold lcLoop; rw [hst]; rfl
      rw [this] at hq
      exact hq
  · rintro i xv Hc Hc' hin ⟨ρi, Si, gi, soi, hq⟩ hy
    have hlt : i < w.1.length := by rw [hn]; exact hin
    have hget : w.1[i]? = some (w.1[i]) := by simp [hlt]
    have hst : stands Si w.2 = true := by
      cases hst : stands Si w.2 with
      | true => rfl
      | false =>
        exfalso
        have : run (w.1.drop i) Si = .bad := by
          show R.bd _ _ = _
          cases w.1.drop i with
          | nil => unfold lcLoop; rw [hst]; rfl
          | cons x xs => unfold lcLoop; rw [hst]; rfl
        rw [this] at hq
        exact hq
    obtain ⟨gy, soy, ry⟩ := hY ρi Si Hc i xv _ Hc' (g0.keep.trans gi.keep) (g0.pre.trans gi.pre) soi hst hget hy
    have hq := At.grow gy hq
    have gi := gi.trans gy
    rw [List.drop_eq_getElem_cons hlt] at hq
    have hq : At K TX b (fun _ _ _ => False) (relE K) ρi Si Hc' ((lcLoop S1.len (fun S => stands S w.2) (fun x => bindT t x (MP.wipe σ own)) (evc C co) (ev C e) (w.1[i] :: w.1.drop (i + 1)) Si).bd fun _ S2 => .ok (.ref S1.len) S2) Q := hq
    unfold lcLoop at hq
    rw [hst, if_pos rfl] at hq
    have eoi := (((eo1.grow g0).grow gi).wipe own)
    cases hbd : bindT t w.1[i] (MP.wipe σ own) with
    | none => rw [hbd] at hq; exact hq.elim
    | some σ1 =>
      rw [hbd] at hq
      refine ⟨ρi, MP.wipe σ own, σ1, w.1[i], eoi, ry, hbd, fun τ1 eo1' hw => ⟨hw.trans wipe_wipe, ?_⟩⟩
      have hq : At K TX b (fun _ _ _ => False) (relE K) ρi Si Hc' ((((evc C co) σ1 Si).bd fun c S1' => _).bd fun _ S2 => .ok (.ref S1.len) S2) Q := hq
      refine ⟨ρi, σ1, Si, soy, eo1', ?_⟩
      -- the test, then the element
      cases hc : evc C co σ1 Si with
      | bad => rw [hc] at hq; exact hq.elim
      | exc c as S' => rw [hc] at hq; exact hq
      | ok c S2 =>
        rw [hc] at hq
        intro ρ2 H2 c' g2 so2 ec
        obtain rfl : c = c' := ec
        have hq := At.grow g2 hq
        cases c with
        | false => exact iteF ⟨ρ2, S2, gi.trans g2, so2, hq⟩
        | true =>
          refine iteT ⟨ρ2, σ1, S2, so2, eo1'.grow g2, ?_⟩
          have hq : At K TX b (fun _ _ _ => False) (relE K) ρ2 S2 H2 (((ev C e σ1 S2).bd fun y S3 => _).bd fun _ S2 => .ok (.ref S1.len) S2) Q := hq
          cases hv : ev C e σ1 S2 with
          | bad => rw [hv] at hq; exact hq.elim
          | exc c as S' => rw [hv] at hq; exact hq
          | ok y S3 =>
            rw [hv] at hq
            intro ρ3 H3 yv g3 so3 ry3
            have hq := At.grow g3 hq
            have g03 := (gi.trans g2).trans g3
            have eD : ρ3[S1.len]? = some D := pre_get g03.pre so1.new
            have hq : At K TX b (fun _ _ _ => False) (relE K) ρ3 S3 H3 ((match S3.cells[S1.len]? with
              | some (.lst acc) => if acc.length < lenMax then lcLoop S1.len (fun S => stands S w.2) (fun x => bindT t x (MP.wipe σ own)) (evc C co) (ev C e) (w.1.drop (i + 1)) ⟨S3.cells.set S1.len (.lst (acc ++ [y])), S3.dirty⟩ else (R.bad : R Unit)
              | _ => (R.bad : R Unit)).bd fun _ S2 => .ok (.ref S1.len) S2) Q := hq
            split at hq
            · rename_i acc hacc
              split at hq
              · rename_i hlen
                obtain ⟨vs, rs, hD3⟩ := so3.lst hacc eD
                refine ⟨vs, hD3, by rw [line_eq, ← rs.length]; exact hlen, ρ3, _, ?_, so3.fill hacc eD (rs.app (.cons ry3 .nil)), ?_⟩
                · exact g03.trans (.fill so1.base hacc eD hD3)
                · exact At.grow (.fill (vs := vs ++ [yv]) so1.base hacc eD hD3) hq
              · exact hq.elim
            · exact hq.elim
  · rintro Hc ⟨ρi, Si, gi, soi, hq⟩
    have en : w.1.drop n = [] := by rw [← hn]; exact List.drop_length
    rw [en] at hq
    have hq : At K TX b (fun _ _ _ => False) (relE K) ρi Si Hc ((lcLoop S1.len (fun S => stands S w.2) (fun x => bindT t x (MP.wipe σ own)) (evc C co) (ev C e) [] Si).bd fun _ S2 => .ok (.ref S1.len) S2) Q := hq
    unfold lcLoop at hq
    split at hq
    · exact At.ok (rel := relE K) soi hq (.ref (pre_get gi.pre so1.new))
    · exact hq.elim
theorem s_lc (cx : Ctx T TX C X W N sc true none) {t : Tg} {own : List Nat} {it : It} {co : Eo} {e : E} {elt iter : Expr} {ifs : List Expr} {scope : Scope} (hb : blkC N sc scope (own.map fun i => ((N[i]?).getD Str.empty, i)) = true)
    (htg : tgB N true (relS scope sc) t tg = true) (hown : ∀ i ∈ t.slots, i ∈ own) (hi : PI X tg iter (tI X.K TX b W (evi C it))) (hs : ∀ x, foldedSetIterable iter X.env x = pure x)
    (ht : ∀ Y : Cx, Y.K = X.K → Ctx T TX C Y noW N (relS scope sc) true none → PTs Y ifs (tTs Y.K TX b none noW (evc C co)))
    (he : ∀ Y : Cx, Y.K = X.K → Ctx T TX C Y noW N (relS scope sc) true none → PE Y elt (tE Y.K TX b none noW (ev C e))) :
    PE X (.ListComp elt [⟨tg, iter, ifs, 0⟩] scope pos) (tE X.K TX b none W (ev C (.lc t own it co e))) := by
  refine PE.weak (pe_lc (g := gO X.K TX own t) (tt := tTs X.K TX b none noW (evc C co)) (te := tE X.K TX b none noW (ev C e)) (cx.calm rfl) (by rw [cx.names]; exact cx.nd) hi (blkOk_by (by rw [cx.names, cx.scope]; exact hb))
    (fun s H A cs fp => g_own (X := X.blk s H scope (compEnvC scope cs A X.env) fp) (TX := TX) (own := own) (cx.calm rfl) cx.names cx.nd (cx.blk s H scope A cs fp).scope (lo := true) (fun q => by cases q) htg hown)
    (fun s H A cs fp => ht (X.blk s H scope (compEnvC scope cs A X.env) fp) rfl (cx.blk s H scope A cs fp)) (fun s H A cs fp => he (X.blk s H scope (compEnvC scope cs A X.env) fp) rfl (cx.blk s H scope A cs fp)) hs) fun τ H Q q => lc_read q
end
end MP
end
section
set_option Elab.async false
set_option linter.all false
set_option maxRecDepth 100000
set_option maxHeartbeats 1000000
/-! MPSound12: every expression that is looked at runs like its MP. -/
namespace MP
open PySem PySem.Spec PyProof.Rows L2
section
variable {T : Tab} {TX : Exc} {C : Nat → List PV → Sto → R PV} {N : List Str} {b : Nat}
/-- the attributes of each class have their own names -/
def Tab.ok (T : Tab) : Bool := T.cls.all fun p => decide p.2.1.Nodup
theorem Tab.nd (h : T.ok = true) {k : Nat} {p : Str × List Str × List Str} (e : T.cls[k]? = some p) : p.2.1.Nodup := of_decide_eq_true (List.all_eq_true.mp h p (List.mem_of_getElem? e))
theorem evs_len : ∀ {es : Es} {fs : List Expr} {sc : Scope} {cl : Bool} {hx : Option (Nat × Nat)}, trsB T N sc cl hx es fs = true → ∀ {σ : Env} {S : Sto} {vs : List PV} {S' : Sto}, evs C es σ S = .ok vs S' → vs.length = fs.length
  | .nil, [], _, _, _, _, σ, S, vs, S', h => by unfold evs at h; cases h; rfl
  | .nil, _ :: _, _, _, _, q, _, _, _, _, _ => by simp [trsB] at q
  | .cons _ _, [], _, _, _, q, _, _, _, _, _ => by simp [trsB] at q
  | .cons e es, f :: fs, _, _, _, q, σ, S, vs, S', h => by
    have q' := Bool.and_eq_true_iff.mp (by simpa [trsB] using q)
    unfold evs at h
    cases h1 : ev C e σ S with
    | bad => rw [h1] at h; cases h
    | exc c as S1 => rw [h1] at h; cases h
    | ok v S1 =>
      rw [h1] at h
      have h : (evs C es σ S1).bd (fun vs S2 => R.ok (v :: vs) S2) = .ok vs S' := h
      cases h2 : evs C es σ S1 with
      | bad => rw [h2] at h; cases h
      | exc c as S2 => rw [h2] at h; cases h
      | ok us S2 =>
        rw [h2] at h
        have ih := evs_len q'.2 h2
        cases h
        simp [ih]
theorem plain_of {sc : Scope} {cl : Bool} {hx : Option (Nat × Nat)} {e : E} {f : Expr} (h : trB T N sc cl hx e f = true) (env : PySem.Env)
    (ne : ∀ op p x, f ≠ .UnaryOp op x p) (nb : ∀ op vs p, f ≠ .BoolOp op vs p) (ni : ∀ t x y p, f ≠ .IfExp t x y p) (nc : ∀ x ops cs p, f ≠ .Compare x ops cs p) :
    ∀ whole, isTrue f env whole = (do let v ← whole; standAt f.pos; holding [v] (truthy v)) := by
  intro whole
  cases f with
  | UnaryOp op x p => exact absurd rfl (ne op p x)
  | BoolOp op vs p => exact absurd rfl (nb op vs p)
  | IfExp t x y p => exact absurd rfl (ni t x y p)
  | Compare x ops cs p => exact absurd rfl (nc x ops cs p)
  | _ => rfl
theorem folded_of {sc : Scope} {it : It} {tg f : Expr} (h : tiB T N sc it tg f = true) (env : PySem.Env) : ∀ x, foldedSetIterable f env x = pure x := by
  intro x
  cases f with
  | Set es k p =>
    exfalso
    cases it with
    | seq e => cases e <;> simp [tiB, trB, constB] at h
    | rng1 e => simp [tiB] at h
    | rng2 a c => simp [tiB] at h
    | zip a c => unfold tiB at h; split at h <;> simp_all
    | enum a => unfold tiB at h; split at h <;> simp_all
  | _ => rfl
mutual
theorem sE (hT : T.ok = true) : ∀ (e : E) {f : Expr} {X : Cx} {W : WX} {sc : Scope} {cl : Bool} {ex : Option Held}, Ctx T TX C X W N sc cl ex → trB T N sc cl (hxOf ex) e f = true → PE X f (tE X.K TX b ex W (ev C e))
  | .var i, f, X, W, sc, cl, ex, cx, h => by
    unfold trB at h
    split at h
    · simp only [Bool.and_eq_true] at h
      obtain ⟨⟨⟨h1, h2⟩, h3⟩, h4⟩ := h
      refine s_var cx h1 h2 h3 fun p hp e => ?_
      rw [hp] at h4
      simp [e] at h4
    · cases h
  | .cst v, f, X, W, sc, cl, ex, cx, h => s_const cx (by unfold trB at h; exact h)
  | .tup es, f, X, W, sc, cl, ex, cx, h => by
    unfold trB at h
    split at h
    · have h' := Bool.and_eq_true_iff.mp h
      exact s_tup (sEs hT es cx h'.1) fun σ S vs S' q => by rw [evs_len h'.1 q]; exact of_decide_eq_true h'.2
    · cases h
  | .lst es, f, X, W, sc, cl, ex, cx, h => by
    unfold trB at h
    split at h
    · have h' := Bool.and_eq_true_iff.mp h
      exact s_lst (sEs hT es cx h'.1) fun σ S vs S' q => by rw [evs_len h'.1 q]; exact of_decide_eq_true h'.2
    · cases h
  | .bin o a c, f, X, W, sc, cl, ex, cx, h => by
    unfold trB at h
    split at h
    · simp only [Bool.and_eq_true] at h
      rw [opB_ok h.1.1]
      exact s_bin (sE hT a cx h.1.2) (sE hT c cx h.2)
    · cases h
  | .neg a, f, X, W, sc, cl, ex, cx, h => by
    unfold trB at h
    split at h
    · exact s_neg (sE hT a cx h)
    · cases h
  | .not a, f, X, W, sc, cl, ex, cx, h => by
    unfold trB at h
    split at h
    · exact s_not (sE hT a cx h)
    · cases h
  | .and a c, f, X, W, sc, cl, ex, cx, h => by
    unfold trB at h
    split at h
    · have h' := Bool.and_eq_true_iff.mp h
      exact s_and (sE hT a cx h'.1) (pe_one (sE hT c cx h'.2))
    · have h' := Bool.and_eq_true_iff.mp h
      exact s_and (sE hT a cx h'.1) (sE hT c cx h'.2)
    · cases h
  | .or a c, f, X, W, sc, cl, ex, cx, h => by
    unfold trB at h
    split at h
    · have h' := Bool.and_eq_true_iff.mp h
      exact s_or (sE hT a cx h'.1) (pe_one (sE hT c cx h'.2))
    · have h' := Bool.and_eq_true_iff.mp h
      exact s_or (sE hT a cx h'.1) (sE hT c cx h'.2)
    · cases h
  | .cmp o a c, f, X, W, sc, cl, ex, cx, h => by
    unfold trB at h
    split at h
    · simp only [Bool.and_eq_true, Bool.not_eq_true'] at h
      obtain ⟨⟨⟨h1, h2⟩, h3⟩, h4⟩ := h
      have e := cmB_ok h1
      subst e
      exact s_cmp cx (sE hT a cx h2) (sE hT c cx h3) h4
    · cases h
  | .chain o o' a c d, f, X, W, sc, cl, ex, cx, h => by
    unfold trB at h
    split at h
    · simp only [Bool.and_eq_true, Bool.not_eq_true'] at h
      obtain ⟨⟨⟨⟨⟨h1, h1'⟩, h2⟩, h3⟩, h4⟩, h5⟩ := h
      have e := cmB_ok h1
      have e' := cmB_ok h1'
      subst e
      subst e'
      exact s_chain cx (sE hT a cx h2) (sE hT c cx h3) (sE hT d cx h4) h5
    · cases h
  | .ife c a d, f, X, W, sc, cl, ex, cx, h => by
    unfold trB at h
    split at h
    · simp only [Bool.and_eq_true] at h
      exact s_ife (sT hT c cx h.1.1) (sE hT a cx h.1.2) (sE hT d cx h.2)
    · cases h
  | .ix a c, f, X, W, sc, cl, ex, cx, h => by
    unfold trB at h
    split at h
    · simp only [Bool.and_eq_true, Bool.not_eq_true'] at h
      exact s_ix (sE hT a cx h.1.1) (sE hT c cx h.1.2) h.2
    · cases h
  | .slc a lo hi, f, X, W, sc, cl, ex, cx, h => by
    unfold trB at h
    split at h
    · simp only [Bool.and_eq_true] at h
      exact s_slc (sE hT a cx h.1.1) (sEo hT lo cx h.1.2) (sEo hT hi cx h.2)
    · cases h
  | .call n es, f, X, W, sc, cl, ex, cx, h => by
    unfold trB at h
    split at h
    · simp only [Bool.and_eq_true] at h
      obtain ⟨⟨⟨h1, h2⟩, h3⟩, h4⟩ := h
      subst h1
      have hs := h4
      cases es with
      | nil => simp [trsB] at h4
      | cons e1 es1 =>
        have h4' := Bool.and_eq_true_iff.mp (by simpa [trsB] using h4)
        exact s_call cx h2 (of_decide_eq_true h3) (sEs hT (.cons e1 es1) cx hs) (star_of h4'.1 _ _) (stars_of h4'.2 _ _)
    · cases h
  | .bi n es, f, X, W, sc, cl, ex, cx, h => by
    unfold trB at h
    split at h
    · simp only [Bool.and_eq_true] at h
      obtain ⟨⟨⟨⟨h1, h2⟩, h3⟩, h4⟩, h5⟩ := h
      subst h1
      have hs := h5
      cases es with
      | nil => simp [trsB] at h5
      | cons e1 es1 =>
        have h5' := Bool.and_eq_true_iff.mp (by simpa [trsB] using h5)
        exact s_bi cx h2 (of_decide_eq_true h3) h4 (sEs hT (.cons e1 es1) cx hs) (star_of h5'.1 _ _) (stars_of h5'.2 _ _)
    · cases h
  | .isi a t, f, X, W, sc, cl, ex, cx, h => by
    unfold trB at h
    split at h
    · simp only [Bool.and_eq_true] at h
      obtain ⟨⟨⟨⟨⟨⟨h1, h2⟩, h3⟩, h4⟩, h5⟩, h6⟩, h7⟩ := h
      exact s_isi cx h1 h2 (of_decide_eq_true h3) (of_decide_eq_true h4) h5 h6 (sE hT a cx h7) fun es => star_of h7 es _
    · cases h
  | .eat i j, f, X, W, sc, cl, ex, cx, h => by
    unfold trB at h
    split at h
    · split at h
      · rename_i k c hh
        simp only [Bool.and_eq_true] at h
        obtain ⟨⟨⟨⟨h1, h2⟩, h3⟩, h4⟩, h5⟩ := h
        exact s_eat cx hh (of_decide_eq_true h1) h2 h3 h4 (of_decide_eq_true h5) fun p hp => Tab.nd hT hp
      · cases h
    · cases h
  | .eisi i, f, X, W, sc, cl, ex, cx, h => by
    unfold trB at h
    split at h
    · split at h
      · rename_i k c hh
        simp only [Bool.and_eq_true] at h
        obtain ⟨⟨⟨⟨⟨⟨⟨⟨h1, h2⟩, h3⟩, h4⟩, h5⟩, h6⟩, h7⟩, h8⟩, h9⟩ := h
        exact s_eisi cx hh (of_decide_eq_true h1) h2 h3 h4 h5 (of_decide_eq_true h6) h7 h8 h9
      · cases h
    · cases h
  | .lc t own it co e, f, X, W, sc, cl, ex, cx, h => by
    unfold trB at h
    split at h
    · simp only [Bool.and_eq_true] at h
      obtain ⟨⟨⟨⟨⟨⟨⟨h1, h2⟩, h3⟩, h4⟩, h0⟩, h5⟩, h6⟩, h7⟩ := h
      subst h1
      have hn : ex = none := by
        cases ex with
        | none => rfl
        | some x => simp [hxOf] at h2
      subst hn
      refine s_lc cx h3 h4 (fun i hi => of_decide_eq_true (List.all_eq_true.mp h0 i hi)) (sIt hT it cx h5) (folded_of h5 _) (fun Y hY cy => ?_) fun Y hY cy => sE hT e cy h7
      split at h6
      · split at h6
        · exact ⟨fun pins s τ H Q I hq => pts_nil.run pins s τ H Q I (by
            obtain ⟨ρ, σ, S, so, eo, q⟩ := hq
            exact At.ok (rel := relT) so (by unfold evc at q; exact q) rfl)⟩
        · cases h6
      · have h6' := Bool.and_eq_true_iff.mp h6
        cases co with
        | none => exact absurd h6'.2 (by simp)
        | some c =>
          have q := h6'.1
          unfold troB at q
          have p := sT hT c (ex := none) cy q
          refine ⟨fun pins s τ H Q I hq => (pts_one p).run pins s τ H Q I ?_⟩
          obtain ⟨ρ, σ, S, so, eo, q⟩ := hq
          exact ⟨ρ, σ, S, so, eo, by unfold evc at q; exact q⟩
      · cases h6
    · cases h
theorem sT (hT : T.ok = true) : ∀ (e : E) {f : Expr} {X : Cx} {W : WX} {sc : Scope} {cl : Bool} {ex : Option Held}, Ctx T TX C X W N sc cl ex → trB T N sc cl (hxOf ex) e f = true → PT X f (tTs X.K TX b ex W (evT C e))
  | .not a, f, X, W, sc, cl, ex, cx, h => by
    unfold trB at h
    split at h
    · exact t_not (sT hT a cx h)
    · cases h
  | .and a c, f, X, W, sc, cl, ex, cx, h => by
    unfold trB at h
    split at h
    · have h' := Bool.and_eq_true_iff.mp h
      exact (t_and (sT hT a cx h'.1) (pw_and1 (sT hT c cx h'.2))).pt
    · have h' := Bool.and_eq_true_iff.mp h
      exact (t_and (sT hT a cx h'.1) (sW hT c .And rfl cx h'.2)).pt
    · cases h
  | .or a c, f, X, W, sc, cl, ex, cx, h => by
    unfold trB at h
    split at h
    · have h' := Bool.and_eq_true_iff.mp h
      exact (t_or (sT hT a cx h'.1) (pw_or1 (sT hT c cx h'.2))).pt
    · have h' := Bool.and_eq_true_iff.mp h
      exact (t_or (sT hT a cx h'.1) (sW hT c .Or rfl cx h'.2)).pt
    · cases h
  | .cmp o a c, f, X, W, sc, cl, ex, cx, h => by
    unfold trB at h
    split at h
    · simp only [Bool.and_eq_true, Bool.not_eq_true'] at h
      obtain ⟨⟨⟨h1, h2⟩, h3⟩, h4⟩ := h
      have e := cmB_ok h1
      subst e
      exact t_cmp cx (sE hT a cx h2) (sE hT c cx h3) h4
    · cases h
  | .chain o o' a c d, f, X, W, sc, cl, ex, cx, h => by
    unfold trB at h
    split at h
    · simp only [Bool.and_eq_true, Bool.not_eq_true'] at h
      obtain ⟨⟨⟨⟨⟨h1, h1'⟩, h2⟩, h3⟩, h4⟩, h5⟩ := h
      have e := cmB_ok h1
      have e' := cmB_ok h1'
      subst e
      subst e'
      exact t_chain cx (sE hT a cx h2) (sE hT c cx h3) (sE hT d cx h4) h5
    · cases h
  | .var i, f, X, W, sc, cl, ex, cx, h => by
    unfold trB at h
    split at h
    · simp only [Bool.and_eq_true] at h
      obtain ⟨⟨⟨h1, h2⟩, h3⟩, h4⟩ := h
      refine t_tru (s_var cx h1 h2 h3 fun p hp e => ?_) (fun σ S => ?_) fun _ => rfl
      · rw [hp] at h4
        simp [e] at h4
      · rw [evT, ev]
        split <;> rfl
    · cases h
  | .ix a c, f, X, W, sc, cl, ex, cx, h => by
    have h0 := h
    unfold trB at h
    split at h
    · simp only [Bool.and_eq_true, Bool.not_eq_true'] at h
      have p := s_ix (pos := by assumption) (sE hT a cx h.1.1) (sE hT c cx h.1.2) h.2
      refine t_tru p (fun σ S => ?_) fun _ => rfl
      rw [evT, ev]
      cases ev C a σ S with
      | ok v S1 =>
        show ((ev C c σ S1).bd _) = ((ev C c σ S1).bd _).bd _
        cases ev C c σ S1 <;> rfl
      | exc c as S1 => rfl
      | bad => rfl
    · cases h
  | .call n es, f, X, W, sc, cl, ex, cx, h => by
    have h0 := h
    unfold trB at h
    split at h
    · simp only [Bool.and_eq_true] at h
      obtain ⟨⟨⟨h1, h2⟩, h3⟩, h4⟩ := h
      subst h1
      have hs := h4
      cases es with
      | nil => simp [trsB] at h4
      | cons e1 es1 =>
        have h4' := Bool.and_eq_true_iff.mp (by simpa [trsB] using h4)
        exact t_tru (s_call cx h2 (of_decide_eq_true h3) (sEs hT (.cons e1 es1) cx hs) (star_of h4'.1 _ _) (stars_of h4'.2 _ _)) (fun σ S => by rw [evT, ev]) fun _ => rfl
    · cases h
  | .bi n es, f, X, W, sc, cl, ex, cx, h => by
    have h0 := h
    unfold trB at h
    split at h
    · simp only [Bool.and_eq_true] at h
      obtain ⟨⟨⟨⟨h1, h2⟩, h3⟩, h4⟩, h5⟩ := h
      subst h1
      have hs := h5
      cases es with
      | nil => simp [trsB] at h5
      | cons e1 es1 =>
        have h5' := Bool.and_eq_true_iff.mp (by simpa [trsB] using h5)
        exact t_tru (s_bi cx h2 (of_decide_eq_true h3) h4 (sEs hT (.cons e1 es1) cx hs) (star_of h5'.1 _ _) (stars_of h5'.2 _ _)) (fun σ S => by rw [evT, ev]) fun _ => rfl
    · cases h
  | .isi a t, f, X, W, sc, cl, ex, cx, h => by
    unfold trB at h
    split at h
    · simp only [Bool.and_eq_true] at h
      obtain ⟨⟨⟨⟨⟨⟨h1, h2⟩, h3⟩, h4⟩, h5⟩, h6⟩, h7⟩ := h
      refine t_val (s_isi cx h1 h2 (of_decide_eq_true h3) (of_decide_eq_true h4) h5 h6 (sE hT a cx h7) fun es => star_of h7 es _) (fun σ S => ?_) fun _ => rfl
      rw [evT, ev]
      cases ev C a σ S <;> rfl
    · cases h
  | .eisi i, f, X, W, sc, cl, ex, cx, h => by
    unfold trB at h
    split at h
    · split at h
      · rename_i k c hh
        simp only [Bool.and_eq_true] at h
        obtain ⟨⟨⟨⟨⟨⟨⟨⟨h1, h2⟩, h3⟩, h4⟩, h5⟩, h6⟩, h7⟩, h8⟩, h9⟩ := h
        refine t_val (s_eisi cx hh (of_decide_eq_true h1) h2 h3 h4 h5 (of_decide_eq_true h6) h7 h8 h9) (fun σ S => ?_) fun _ => rfl
        rw [evT, ev]
        split <;> rfl
      · cases h
    · cases h
  | .cst _, _, X, W, sc, cl, ex, cx, h => ⟨fun _ _ _ _ _ _ ⟨ρ, σ, S, so, eo, q⟩ => by unfold evT at q; exact q.elim⟩
  | .tup _, _, X, W, sc, cl, ex, cx, h => ⟨fun _ _ _ _ _ _ ⟨ρ, σ, S, so, eo, q⟩ => by unfold evT at q; exact q.elim⟩
  | .lst _, _, X, W, sc, cl, ex, cx, h => ⟨fun _ _ _ _ _ _ ⟨ρ, σ, S, so, eo, q⟩ => by unfold evT at q; exact q.elim⟩
  | .bin _ _ _, _, X, W, sc, cl, ex, cx, h => ⟨fun _ _ _ _ _ _ ⟨ρ, σ, S, so, eo, q⟩ => by unfold evT at q; exact q.elim⟩
  | .neg _, _, X, W, sc, cl, ex, cx, h => ⟨fun _ _ _ _ _ _ ⟨ρ, σ, S, so, eo, q⟩ => by unfold evT at q; exact q.elim⟩
  | .ife _ _ _, _, X, W, sc, cl, ex, cx, h => ⟨fun _ _ _ _ _ _ ⟨ρ, σ, S, so, eo, q⟩ => by unfold evT at q; exact q.elim⟩
  | .slc _ _ _, _, X, W, sc, cl, ex, cx, h => ⟨fun _ _ _ _ _ _ ⟨ρ, σ, S, so, eo, q⟩ => by unfold evT at q; exact q.elim⟩
  | .eat _ _, _, X, W, sc, cl, ex, cx, h => ⟨fun _ _ _ _ _ _ ⟨ρ, σ, S, so, eo, q⟩ => by unfold evT at q; exact q.elim⟩
  | .lc _ _ _ _ _, _, X, W, sc, cl, ex, cx, h => ⟨fun _ _ _ _ _ _ ⟨ρ, σ, S, so, eo, q⟩ => by unfold evT at q; exact q.elim⟩
/-- the rest of a chain of and, or -/
theorem sW (hT : T.ok = true) : ∀ (e : E) {f : Expr} {X : Cx} {W : WX} {sc : Scope} {cl : Bool} {ex : Option Held} (op : BoolOp) {x y : Expr} {r : List Expr} {p : Pos}, f = .BoolOp op (x :: y :: r) p → Ctx T TX C X W N sc cl ex → trB T N sc cl (hxOf ex) e f = true → PW X f (tTs X.K TX b ex W (evT C e))
  | .and a c, f, X, W, sc, cl, ex, op, _, _, _, _, hf, cx, h => by
    unfold trB at h
    split at h
    · have h' := Bool.and_eq_true_iff.mp h
      exact (t_and (sT hT a cx h'.1) (pw_and1 (sT hT c cx h'.2)))
    · have h' := Bool.and_eq_true_iff.mp h
      exact (t_and (sT hT a cx h'.1) (sW hT c .And rfl cx h'.2))
    · cases h
  | .or a c, f, X, W, sc, cl, ex, op, _, _, _, _, hf, cx, h => by
    unfold trB at h
    split at h
    · have h' := Bool.and_eq_true_iff.mp h
      exact (t_or (sT hT a cx h'.1) (pw_or1 (sT hT c cx h'.2)))
    · have h' := Bool.and_eq_true_iff.mp h
      exact (t_or (sT hT a cx h'.1) (sW hT c .Or rfl cx h'.2))
    · cases h
  | .var _, f, X, W, sc, cl, ex, op, _, _, _, _, hf, cx, h => by subst hf; simp [trB, constB] at h
  | .cst _, f, X, W, sc, cl, ex, op, _, _, _, _, hf, cx, h => by subst hf; simp [trB, constB] at h
  | .tup _, f, X, W, sc, cl, ex, op, _, _, _, _, hf, cx, h => by subst hf; simp [trB, constB] at h
  | .lst _, f, X, W, sc, cl, ex, op, _, _, _, _, hf, cx, h => by subst hf; simp [trB, constB] at h
  | .bin _ _ _, f, X, W, sc, cl, ex, op, _, _, _, _, hf, cx, h => by subst hf; simp [trB, constB] at h
  | .neg _, f, X, W, sc, cl, ex, op, _, _, _, _, hf, cx, h => by subst hf; simp [trB, constB] at h
  | .not _, f, X, W, sc, cl, ex, op, _, _, _, _, hf, cx, h => by subst hf; simp [trB, constB] at h
  | .cmp _ _ _, f, X, W, sc, cl, ex, op, _, _, _, _, hf, cx, h => by subst hf; simp [trB, constB] at h
  | .chain _ _ _ _ _, f, X, W, sc, cl, ex, op, _, _, _, _, hf, cx, h => by subst hf; simp [trB, constB] at h
  | .ife _ _ _, f, X, W, sc, cl, ex, op, _, _, _, _, hf, cx, h => by subst hf; simp [trB, constB] at h
  | .ix _ _, f, X, W, sc, cl, ex, op, _, _, _, _, hf, cx, h => by subst hf; simp [trB, constB] at h
  | .slc _ _ _, f, X, W, sc, cl, ex, op, _, _, _, _, hf, cx, h => by subst hf; simp [trB, constB] at h
  | .call _ _, f, X, W, sc, cl, ex, op, _, _, _, _, hf, cx, h => by subst hf; simp [trB, constB] at h
  | .bi _ _, f, X, W, sc, cl, ex, op, _, _, _, _, hf, cx, h => by subst hf; simp [trB, constB] at h
  | .isi _ _, f, X, W, sc, cl, ex, op, _, _, _, _, hf, cx, h => by subst hf; simp [trB, constB] at h
  | .eat _ _, f, X, W, sc, cl, ex, op, _, _, _, _, hf, cx, h => by subst hf; simp [trB, constB] at h
  | .eisi _, f, X, W, sc, cl, ex, op, _, _, _, _, hf, cx, h => by subst hf; simp [trB, constB] at h
  | .lc _ _ _ _ _, f, X, W, sc, cl, ex, op, _, _, _, _, hf, cx, h => by subst hf; simp [trB, constB] at h
theorem sEs (hT : T.ok = true) : ∀ (es : Es) {fs : List Expr} {X : Cx} {W : WX} {sc : Scope} {cl : Bool} {ex : Option Held}, Ctx T TX C X W N sc cl ex → trsB T N sc cl (hxOf ex) es fs = true → PA X fs (tAs X.K TX b ex W (evs C es))
  | .nil, [], X, W, sc, cl, ex, cx, h => a_nil
  | .nil, _ :: _, X, W, sc, cl, ex, cx, h => by simp [trsB] at h
  | .cons _ _, [], X, W, sc, cl, ex, cx, h => by simp [trsB] at h
  | .cons e es, f :: fs, X, W, sc, cl, ex, cx, h => by
    have h' := Bool.and_eq_true_iff.mp (by simpa [trsB] using h)
    exact a_cons (sE hT e cx h'.1) (sEs hT es cx h'.2) (star_of h'.1 _ _)
theorem sEo (hT : T.ok = true) : ∀ (e : Eo) {f : Option Expr} {X : Cx} {W : WX} {sc : Scope} {cl : Bool} {ex : Option Held}, Ctx T TX C X W N sc cl ex → troB T N sc cl (hxOf ex) e f = true → PO X f (tOs X.K TX b ex W (evo C e))
  | .none, none, X, W, sc, cl, ex, cx, h => o_none
  | .none, some _, X, W, sc, cl, ex, cx, h => by simp [troB] at h
  | .some e, none, X, W, sc, cl, ex, cx, h => by simp [troB] at h
  | .some e, some f, X, W, sc, cl, ex, cx, h => o_some (sE hT e cx (by unfold troB at h; exact h))
theorem sIt (hT : T.ok = true) : ∀ (it : It) {tg f : Expr} {X : Cx} {W : WX} {sc : Scope}, Ctx T TX C X W N sc true none → tiB T N sc it tg f = true → PI X tg f (tI X.K TX b W (evi C it))
  | .seq e, tg, f, X, W, sc, cx, h => i_seq (sE hT e cx (by unfold tiB at h; exact h))
  | .rng1 e, tg, f, X, W, sc, cx, h => by
    unfold tiB at h
    split at h
    · simp only [Bool.and_eq_true] at h
      obtain ⟨⟨⟨h1, h2⟩, h3⟩, h4⟩ := h
      have e2 := of_decide_eq_true h2
      subst e2
      exact i_rng1 (cx.gl h1).1 ((cx.free _ h3).2 (by decide +kernel)) (sE hT e cx h4) (star_of h4 _ _)
    · cases h
  | .rng2 a c, tg, f, X, W, sc, cx, h => by
    unfold tiB at h
    split at h
    · simp only [Bool.and_eq_true] at h
      obtain ⟨⟨⟨⟨h1, h2⟩, h3⟩, h4⟩, h5⟩ := h
      have e2 := of_decide_eq_true h2
      subst e2
      exact i_rng2 (cx.gl h1).1 ((cx.free _ h3).2 (by decide +kernel)) (sE hT a cx h4) (sE hT c cx h5) (fun es => star_of h4 es _) (star_of h5 _ _)
    · cases h
  | .zip a c, tg, f, X, W, sc, cx, h => by
    unfold tiB at h
    split at h
    · simp only [Bool.and_eq_true] at h
      obtain ⟨⟨⟨⟨h1, h2⟩, h3⟩, h4⟩, h5⟩ := h
      have e2 := of_decide_eq_true h2
      subst e2
      exact i_zip (cx.gl h1).1 ((cx.free _ h3).2 (by decide +kernel)) (sE hT a cx h4) (sE hT c cx h5) (fun es => star_of h4 es _) (star_of h5 _ _)
    · cases h
  | .enum a, tg, f, X, W, sc, cx, h => by
    unfold tiB at h
    split at h
    · simp only [Bool.and_eq_true] at h
      obtain ⟨⟨⟨h1, h2⟩, h3⟩, h4⟩ := h
      have e2 := of_decide_eq_true h2
      subst e2
      exact i_enum (cx.gl h1).1 ((cx.free _ h3).2 (by decide +kernel)) (sE hT a cx h4) (star_of h4 _ _)
    · cases h
end
end
end MP
end
section
set_option Elab.async false
set_option linter.all false
set_option maxRecDepth 100000
set_option maxHeartbeats 1000000
/-! MPSound13: the look at statements; forms of statements. -/
namespace MP
open PySem PySem.Spec PyProof.Rows L2
section
variable (T : Tab) (N : List Str)
/-- a value that is no comprehension and may be given to names -/
def notComp : Expr → Bool
  | .ListComp _ _ _ _ => false
  | .SetComp _ _ _ _ => false
  | .DictComp _ _ _ _ _ => false
  | _ => true
/-- a tuple that is written out is unpacked as it stands only if its parts are constants -/
def unpackB : Expr → Bool
  | .Tuple vs _ _ => vs.all (foldedForSure 8)
  | _ => true
mutual
def trS (sc : Scope) (cl : Bool) (hx : Option (Nat × Nat)) : St → Stmt → Bool
  | .asg t e, s => match s with
    | .Assign [g] v pos => match t with
      | .of (.name i) => match g with
        | .Name x p => atB N i x && locB sc x && !(hx.any fun q => decide (q.1 = i)) && trB T N sc cl hx e v && (notComp v || match v with
          | .ListComp _ _ s vp => cl && decide (sc.kind = .function) && kindB sc x .local && (p.line == vp.line) && !(s.names.any fun q => q.1 == x && (q.2 == .local || q.2 == .cell))
          | _ => false)
        | _ => false
      | .of (.tup ts) => cl && tgB N false sc (.tup ts) g && trB T N sc cl hx e v && notComp v && unpackB v
      | .sub a i => cl && (match g with
        | .Subscript x y _ => trB T N sc cl hx a x && trB T N sc cl hx i y && !isSlice y
        | _ => false) && trB T N sc cl hx e v && notComp v
    | _ => false
  | .par i j a c, s => match s with
    | .Assign [.Tuple [.Name x px, .Name y py] _ _] (.Tuple [u, v] _ _) _ => cl && atB N i x && atB N j y && !decide (i = j) && kindB sc x .local && kindB sc y .local && decide (sc.kind = .function) && (px.line == py.line) && !decide (x = y)
        && !([u, v].all (foldedForSure 8)) && !([u, v].all (constantsAlone 8)) && trB T N sc cl hx a u && trB T N sc cl hx c v
    | _ => false
  | .aug i o e, s => match s with
    | .AugAssign (.Name x _) .Add v _ => cl && (match o with
      | .add => true
      | _ => false) && atB N i x && locB sc x && trB T N sc cl hx e v
    | _ => false
  | .expr e, s => match s with
    | .Expr v _ => trB T N sc cl hx e v && notComp v
    | _ => false
  | .append a e, s => match s with
    | .Expr (.Call (.Attribute x f ap) [v] [] cp) _ => cl && decide (f = "append") && (ap.endLine == cp.line) && trB T N sc cl hx a x && trB T N sc cl hx e v && (match x with
      | .Name _ _ => true
      | .Subscript _ _ _ => true
      | _ => false)
    | _ => false
  | .ifs c p q, s => match s with
    | .If t u v _ => trB T N sc cl hx c t && trSs sc cl hx p u && trSs sc cl hx q v
    | _ => false
  | .fors t it p, s => match s with
    | .For g f u [] _ => cl && hx.isNone && tgB N false sc t g && tiB T N sc it g f && trSs sc cl hx p u
    | _ => false
  | .whiles c p, s => match s with
    | .While t u [] _ => cl && hx.isNone && trB T N sc cl hx c t && trSs sc cl hx p u
    | _ => false
  | .ret e, s => match s with
    | .Return (some v) _ => trB T N sc cl hx e v
    | _ => false
  | .retN, s => match s with
    | .Return none _ => true
    | _ => false
  | .raise c es, s => match s with
    | .Raise (some (.Call (.Name x _) [] [] _)) none _ => cl && gloB sc x && decide ((T.cls[c]?.map fun p => (p.1, p.2.1)) = some (x, [])) && (match es with
      | .nil => true
      | _ => false)
    | _ => false
  | .tryo p c i h, s => match s with
    | .Try u [.ExceptHandler (some (.Name x _)) n (v :: vs) _] [] [] _ => cl && hx.isNone && gloB sc x && decide ((T.cls[c]?.map (·.1)) = some x) && trSs sc cl hx p u && (match i, n with
      | some k, some y => atB N k y && kindB sc y .local && trSs sc false (some (k, c)) h (v :: vs)
      | none, none => trSs sc false none h (v :: vs)
      | _, _ => false)
    | _ => false
  | .pass, s => match s with
    | .Pass _ => true
    | _ => false
  | .brk, s => match s with
    | .Break _ => true
    | _ => false
  | .cont, s => match s with
    | .Continue _ => true
    | _ => false
def trSs (sc : Scope) (cl : Bool) (hx : Option (Nat × Nat)) : Ss → List Stmt → Bool
  | .nil, ss => ss.isEmpty
  | .cons s ss, ts => match ts with
    | t :: ts => trS sc cl hx s t && trSs sc cl hx ss ts
    | [] => false
end
end
/-- where a statement stands -/
structure CtxS (T : Tab) (TX : Exc) (C : Nat → List PV → Sto → R PV) (X : Cx) (W : WX) (N : List Str) (sc : Scope) (cl : Bool) (ex : Option Held) : Prop extends Ctx T TX C X W N sc cl ex where
  stk : X.stack = X.env :: X.outer
  frame : X.env.frame = some X.env.locals
  po : cl = true → PassesOwn (model X.prog X.w) X.A X.env X.xe
  fn : ∀ x, X.fn x = true
section
variable {T : Tab} {TX : Exc} {C : Nat → List PV → Sto → R PV} {X : Cx} {W : WX} {N : List Str} {sc : Scope} {b : Nat} {cl : Bool} {ex : Option Held}
variable {x y z tg : Expr} {a c d : E} {pos : Pos}
abbrev tSt (K : PySem.W.Frag) (TX : Exc) (b : Nat) (ex : Option Held) (W : WX) (r : Env → Sto → RS) : TS := tS K TX b ex W r
theorem swaps_of {v : Expr} (h : notComp v = true) (o : Option Expr) (l : Nat) (env : PySem.Env) : swapsWith v o l env = pure false := by
  cases v <;> first | rfl | cases h
theorem sole_of {v : Expr} (h : notComp v = true) (t : Expr) (l : Nat) (env : PySem.Env) : swapsWithSole [t] v l env = pure false := swaps_of h _ _ _
theorem stores_sub {v u i : Expr} {p : Pos} (env : PySem.Env) : swappedStores [.Subscript u i p] v env = pure none := by
  cases v <;> rfl
theorem stores_tup {v : Expr} {ts : List Expr} {k : Nat} {p : Pos} (h : unpackB v = true) (env : PySem.Env) : swappedStores [.Tuple ts k p] v env = pure none := by
  cases v with
  | Tuple vs k2 p2 =>
    have h : vs.all (foldedForSure 8) = true := h
    unfold swappedStores
    simp only [pure_bind]
    split
    · rfl
    · split
      · rfl
      · split
        · rfl
        · first | rfl | rw [if_pos h]
  | _ => rfl
theorem stores_par {u v : Expr} {x y : Str} {px py p p2 : Pos} {k k2 : Nat} (env : PySem.Env) (hk : env.scope.kind = .function) (hx : env.scope.names.lookup x = some .local) (hy : env.scope.names.lookup y = some .local) (hl : (px.line == py.line) = true) (hne : x ≠ y)
    (h1 : ([u, v].all (foldedForSure 8)) = false) (h2 : ([u, v].all (constantsAlone 8)) = false) (su : ∀ w q, u ≠ .Starred w q) (sv : ∀ w q, v ≠ .Starred w q) : swappedStores [.Tuple [.Name x px, .Name y py] k p] (.Tuple [u, v] k2 p2) env = pure (some [x, y]) := by
  have hb : env.blockKind = .function := by unfold Env.blockKind; rw [hk]; rfl
  have kx : env.kindOf x = some .local := hx
  have ky : env.kindOf y = some .local := hy
  have hl' : px.line = py.line := by simpa using hl
  have nu : (match u with
    | .Starred .. => true
    | _ => false) = false := by cases u <;> first | rfl | exact absurd rfl (su _ _)
  have nv : (match v with
    | .Starred .. => true
    | _ => false) = false := by cases v <;> first | rfl | exact absurd rfl (sv _ _)
  unfold swappedStores
  simp only [pure_bind, List.length_cons, List.length_nil, hb, bne_self_eq_false, Bool.or_false, List.any_cons, List.any_nil, nu, nv, kx, ky, List.head?_cons, Option.map_some, Option.getD_some, Expr.pos, List.filterMap_cons, hl', beq_self_eq_true, Bool.and_self, if_true, List.filterMap_nil, h1, h2, Bool.false_eq_true, if_false]
  have e2 : ([x, y] : List Str).eraseDups.length = 2 := by
    have : (y == x) = false := by simpa using fun e => hne e.symm
    simp [List.eraseDups_cons, List.filter, this]
  simp [e2]
end
end MP
end
section
set_option Elab.async false
set_option linter.all false
set_option maxRecDepth 100000
set_option maxHeartbeats 1000000
/-! MPSound14: each form of a statement. -/
namespace MP
open PySem PySem.Spec PyProof.Rows L2
section
variable {T : Tab} {TX : Exc} {C : Nat → List PV → Sto → R PV} {X : Cx} {W : WX} {N : List Str} {sc : Scope} {b : Nat} {cl : Bool} {ex : Option Held}
variable {x y z tg : Expr} {a c d : E} {pos : Pos}
theorem u_name (cx : CtxS T TX C X W N sc cl ex) {i : Nat} {n : Str} {v : Expr} {p : Pos} (h1 : atB N i n = true) (h2 : locB sc n = true) (h3 : ∀ q, hxOf ex = some q → q.1 ≠ i) (he : PE X v (tE X.K TX b ex W (ev C a))) (hs : swapsWith v (some (.Name n p)) pos.line X.env = pure false) :
    PS X (.Assign [.Name n p] v pos) (tSt X.K TX b ex W (xst C b (.asg (.of (.name i)) a))) := by
  refine PS.weak (ps_set (i := i) (by rw [cx.names]; exact cx.nd) (by rw [cx.names]; exact atB_ok h1) (by rw [cx.scope]; exact locB_ok h2) he hs (.inl (cx.fn n))) fun D τ H ⟨ρ, σ, S, so, eo, h⟩ => ?_
  unfold xst at h
  refine ⟨ρ, σ, S, so, eo, At.mono (AtS.st (rel := relE X.K) eo h) fun w H1 ⟨ρ1, v, S1, _, g1, so1, eo1, r1, h1⟩ => ?_⟩
  unfold bindT at h1
  exact h1 ρ1 H1 _ .refl so1 (eo1.setH i r1 fun q hq => h3 (q.i, q.c) (by rw [hq]; rfl))
theorem u_lc (cx : CtxS T TX C X W N sc true none) {i : Nat} {n : Str} {p : Pos} {t : Tg} {own : List Nat} {it : It} {co : Eo} {e : E} {elt iter : Expr} {ifs : List Expr} {scope : Scope} {vp : Pos} (h1 : atB N i n = true) (h2 : kindB sc n .local = true) (hkf : sc.kind = .function) (hl : (p.line == vp.line) = true)
    (hnm : (scope.names.any fun q => q.1 == n && (q.2 == .local || q.2 == .cell)) = false) (hb : blkC N sc scope (own.map fun i => ((N[i]?).getD Str.empty, i)) = true)
    (htg : tgB N true (relS scope sc) t tg = true) (hown : ∀ i ∈ t.slots, i ∈ own) (hi : PI X tg iter (tI X.K TX b W (evi C it))) (hs : ∀ x, foldedSetIterable iter X.env x = pure x)
    (ht : ∀ Y : Cx, Y.K = X.K → Ctx T TX C Y noW N (relS scope sc) true none → PTs Y ifs (tTs Y.K TX b none noW (evc C co)))
    (he : ∀ Y : Cx, Y.K = X.K → Ctx T TX C Y noW N (relS scope sc) true none → PE Y elt (tE Y.K TX b none noW (ev C e))) :
    PS X (.Assign [.Name n p] (.ListComp elt [⟨tg, iter, ifs, 0⟩] scope vp) pos) (tSt X.K TX b none W (xst C b (.asg (.of (.name i)) (.lc t own it co e)))) := by
  have cx' := cx.toCtx
  have ln : X.env.scope.names.lookup n = some .local := by rw [cx.scope]; exact kindB_ok h2
  refine PS.weak (ps_setLc (i := i) (g := gO X.K TX own t) (tt := tTs X.K TX b none noW (evc C co)) (te := tE X.K TX b none noW (ev C e)) (cx.calm rfl) (by rw [cx.names]; exact cx.nd) (by rw [cx.names]; exact atB_ok h1) ln
    (sw_true (by rw [cx.scope]; exact hkf) ln hl hnm) hi (blkOk_by (by rw [cx.names, cx.scope]; exact hb))
    (fun s H A cs fp => g_own (X := X.blk s H scope (compEnvC scope cs A X.env) fp) (TX := TX) (own := own) (cx.calm rfl) cx.names cx.nd (cx'.blk s H scope A cs fp).scope (lo := true) (fun q => by cases q) htg hown)
    (fun s H A cs fp => ht (X.blk s H scope (compEnvC scope cs A X.env) fp) rfl (cx'.blk s H scope A cs fp)) (fun s H A cs fp => he (X.blk s H scope (compEnvC scope cs A X.env) fp) rfl (cx'.blk s H scope A cs fp)) hs) fun D τ H ⟨ρ, σ, S, so, eo, h⟩ => ?_
  unfold xst at h
  exact lc_read (C := C) (it := it) ⟨ρ, σ, S, so, eo, At.mono (AtS.st (rel := relE X.K) eo h) fun w H1 ⟨ρ1, v, S1, _, g1, so1, eo1, r1, h1⟩ => by
    unfold bindT at h1
    exact h1 ρ1 H1 _ .refl so1 (eo1.set i r1)⟩
theorem u_tup (cx : CtxS T TX C X W N sc true none) {ts : Tgs} {g v : Expr} (hg : tgB N false sc (.tup ts) g = true) (he : PE X v (tE X.K TX b none W (ev C a))) (hn : notComp v = true) (hu : unpackB v = true) : PS X (.Assign [g] v pos) (tSt X.K TX b none W (xst C b (.asg (.of (.tup ts)) a))) := by
  have pg := g_ok (TX := TX) (X := X) (cx.calm rfl) cx.names cx.nd cx.scope (lo := false) (fun _ x _ => cx.fn x) hg
  obtain ⟨es, k, p, rfl⟩ : ∃ es k p, g = .Tuple es k p := by
    unfold tgB at hg
    split at hg
    · exact ⟨_, _, _, rfl⟩
    · cases hg
  refine PS.weak (ps_asg he pg (sole_of hn _ _ _) (stores_tup hu _) (by rfl)) fun D τ H ⟨ρ, σ, S, so, eo, h⟩ => ?_
  unfold xst at h
  refine ⟨ρ, σ, S, so, eo, At.mono (AtS.st (rel := relE X.K) eo h) fun w H1 ⟨ρ1, v, S1, _, g1, so1, eo1, r1, h1⟩ => ?_⟩
  cases e : bindT (.tup ts) v σ with
  | none => rw [e] at h1; exact h1.elim
  | some σ1 =>
    rw [e] at h1
    exact ⟨ρ1, σ, σ1, v, eo1, r1, e, fun τ' eo' => h1 ρ1 H1 τ' .refl so1 eo'⟩
theorem und_set {n : Nat} {v : PV} (hv : v.und n = true) : ∀ {xs : List PV} (j : Nat), PV.unds n xs = true → PV.unds n (xs.set j v) = true
  | [], _, _ => rfl
  | x :: xs, 0, h => by
    have h' := Bool.and_eq_true_iff.mp (by simpa [PV.unds] using h)
    simp [PV.unds, hv, h'.2]
  | x :: xs, j + 1, h => by
    have h' := Bool.and_eq_true_iff.mp (by simpa [PV.unds] using h)
    simp [PV.unds, h'.1, und_set hv j h'.2]
theorem und_app {n : Nat} {v : PV} (hv : v.und n = true) : ∀ {xs : List PV}, PV.unds n xs = true → PV.unds n (xs ++ [v]) = true
  | [], _ => by simp [PV.unds, hv]
  | x :: xs, h => by
    have h' := Bool.and_eq_true_iff.mp (by simpa [PV.unds] using h)
    simp [PV.unds, h'.1, und_app hv h'.2]
theorem u_sub (cx : CtxS T TX C X W N sc true ex) {u i v : Expr} {p : Pos} (ha : PE X u (tE X.K TX b ex W (ev C c))) (hi : PE X i (tE X.K TX b ex W (ev C d))) (hsl : isSlice i = false) (he : PE X v (tE X.K TX b ex W (ev C a))) (hn : notComp v = true) :
    PS X (.Assign [.Subscript u i p] v pos) (tSt X.K TX b ex W (xst C b (.asg (.sub c d) a))) := by
  have pg := pg_sub (pos := p) ha hi set_list (by
    intro w
    cases i <;> first | rfl | cases hsl)
  refine PS.weak (ps_asg he pg (sole_of hn _ _ _) (stores_sub _) (by rfl)) fun D τ H ⟨ρ, σ, S, so, eo, h⟩ => ?_
  unfold xst at h
  refine ⟨ρ, σ, S, so, eo, At.mono (AtS.st (rel := relE X.K) eo h) fun w H1 ⟨ρ1, v, S1, _, g1, so1, eo1, r1, h1⟩ => ?_⟩
  refine ⟨ρ1, σ, S1, so1, eo1, At.mono (AtS.st (rel := relE X.K) eo1 h1) fun w2 H2 ⟨ρ2, o, S2, _, g2, so2, eo2, r2, h2⟩ => ?_⟩
  refine ⟨ρ2, σ, S2, so2, eo2, At.mono (AtS.st (rel := relE X.K) eo2 h2) fun w3 H3 ⟨ρ3, k, S3, _, g3, so3, eo3, r3, h3⟩ => ?_⟩
  have r1' := RelP.mono (g2.trans g3).keep (g2.trans g3).pre r1
  have r2' := RelP.mono g3.keep g3.pre r2
  split at h3
  · split at h3
    · rename_i xs hx
      split at h3
      · rename_i j hj
        obtain ⟨p, rfl, ep⟩ := r2'.of_ref
        obtain rfl := RelP.of_int r3
        obtain ⟨vs, rs, hp⟩ := so3.lst hx ep
        refine ⟨p, vs, _, j, rfl, rfl, hp, by rw [← rs.length]; exact hj, ?_⟩
        refine h3 ρ3 _ τ (.write hx ep hp (fun m hm hv => und_set hv j hm) ?_) (so3.write hx ep (rs.set r1' j)) (eo3.mono (.wlst hp) (List.prefix_refl _))
        rw [← so3.len]
        exact r1'.und
      · exact h3.elim
    · exact h3.elim
  · exact h3.elim
theorem u_par (cx : CtxS T TX C X W N sc true none) {i j : Nat} {n m : Str} {u v : Expr} {px py p p2 : Pos} {k k2 : Nat} (h1 : atB N i n = true) (h2 : atB N j m = true) (hij : i ≠ j) (hn : kindB sc n .local = true) (hm : kindB sc m .local = true) (hk : sc.kind = .function)
    (hl : (px.line == py.line) = true) (hne : n ≠ m) (hf : ([u, v].all (foldedForSure 8)) = false) (hc : ([u, v].all (constantsAlone 8)) = false) (ha : PE X u (tE X.K TX b none W (ev C a))) (hb : PE X v (tE X.K TX b none W (ev C c)))
    (su : ∀ es, starEach (u :: es) X.env = (false, eval u X.env) :: starEach es X.env) (sv : starEach [v] X.env = [(false, eval v X.env)]) (nu : ∀ w q, u ≠ .Starred w q) (nv : ∀ w q, v ≠ .Starred w q) :
    PS X (.Assign [.Tuple [.Name n px, .Name m py] k p] (.Tuple [u, v] k2 p2) pos) (tSt X.K TX b none W (xst C b (.par i j a c))) := by
  have ln : X.env.scope.names.lookup n = some .local := by rw [cx.scope]; exact kindB_ok hn
  have lm : X.env.scope.names.lookup m = some .local := by rw [cx.scope]; exact kindB_ok hm
  refine PS.weak (ps_par (i := i) (j := j) (cx.calm rfl) (by rw [cx.names]; exact cx.nd) (by rw [cx.names]; exact atB_ok h1) (by rw [cx.names]; exact atB_ok h2) hij ln lm (pa_cons ha (pa_cons hb pa_nil sv) (su _))
    (stores_par _ (by rw [cx.scope]; exact hk) ln lm hl hne hf hc nu nv) rfl) fun D τ H ⟨ρ, σ, S, so, eo, h⟩ => ?_
  unfold xst at h
  refine ⟨ρ, σ, S, so, eo, At.mono (AtS.st (rel := relE X.K) eo h) fun w H1 ⟨ρ1, v, S1, _, g1, so1, eo1, r1, h1⟩ => ?_⟩
  refine ⟨ρ1, σ, S1, so1, eo1, At.mono (AtS.st (rel := relE X.K) eo1 h1) fun w2 H2 ⟨ρ2, o, S2, _, g2, so2, eo2, r2, h2⟩ => ?_⟩
  exact ⟨w, w2, rfl, h2 ρ2 H2 _ .refl so2 ((eo2.set i (RelP.mono g2.keep g2.pre r1)).set j r2)⟩
theorem u_aug (cx : CtxS T TX C X W N sc true ex) {i : Nat} {n : Str} {v : Expr} {p : Pos} (h1 : atB N i n = true) (h2 : locB sc n = true) (h3 : ∀ q, hxOf ex = some q → q.1 ≠ i) (he : PE X v (tE X.K TX b ex W (ev C a))) : PS X (.AugAssign (.Name n p) .Add v pos) (tSt X.K TX b ex W (xst C b (.aug i .add a))) := by
  refine PS.weak (ps_aug (i := i) (by rw [cx.names]; exact cx.nd) (by rw [cx.names]; exact atB_ok h1) (by rw [cx.scope]; exact locB_ok h2) he ip_add (.inl (cx.fn n))) fun D τ H ⟨ρ, σ, S, so, eo, h⟩ => ?_
  unfold xst at h
  split at h
  · rename_i u hu
    have hne : ∀ q, ex = some q → q.i ≠ i := fun q hq => h3 (q.i, q.c) (by rw [hq]; rfl)
    obtain ⟨w0, e0, r0⟩ := eo.val i u hu hne
    refine ⟨w0, e0, ρ, σ, S, so, eo, At.mono (AtS.st (rel := relE X.K) eo h) fun w H1 ⟨ρ1, v, S1, _, g1, so1, eo1, r1, h1⟩ => ?_⟩
    split at h1
    · obtain rfl := RelP.of_int r1
      obtain rfl := r0.of_int
      exact ⟨_, _, rfl, rfl, h1 ρ1 H1 _ .refl so1 (eo1.setH i (.int _) hne)⟩
    · exact h1.elim
  · exact h.elim
theorem u_expr {v : Expr} (he : PE X v (tE X.K TX b ex W (ev C a))) (hn : notComp v = true) : PS X (.Expr v pos) (tSt X.K TX b ex W (xst C b (.expr a))) := by
  refine PS.weak (ps_expr he (swaps_of hn _ _ _)) fun D τ H ⟨ρ, σ, S, so, eo, h⟩ => ?_
  unfold xst at h
  exact ⟨ρ, σ, S, so, eo, At.mono (AtS.st (rel := relE X.K) eo h) fun w H1 ⟨ρ1, v, S1, _, g1, so1, eo1, r1, h1⟩ => h1 ρ1 H1 τ .refl so1 eo1⟩
theorem u_append {u v : Expr} {ap cp : Pos} (ha : PE X u (tE X.K TX b ex W (ev C c))) (he : PE X v (tE X.K TX b ex W (ev C a))) (hbase : attributeBase u "append" X.env (eval u X.env) = eval u X.env) (hline : (ap.endLine == cp.line) = true)
    (sv : starEach [v] X.env = [(false, eval v X.env)]) : PS X (.Expr (.Call (.Attribute u "append" ap) [v] [] cp) pos) (tSt X.K TX b ex W (xst C b (.append c a))) := by
  refine PS.weak (ps_expr (pe_bm PySem.F.plainAttrs_list PySem.F.slot_list_append PySem.F.type_list_append mt_append ha (pa_cons he pa_nil sv) hbase (by rw [sv]; rfl) hline sv rfl) rfl) fun D τ H ⟨ρ, σ, S, so, eo, h⟩ => ?_
  unfold xst at h
  refine ⟨ρ, σ, S, so, eo, At.mono (AtS.st (rel := relE X.K) eo h) fun w H1 ⟨ρ1, o, S1, _, g1, so1, eo1, r1, h1⟩ => ?_⟩
  split at h1
  · split at h1
    · rename_i A _ ys hy
      obtain ⟨p, rfl, ep⟩ := RelP.of_ref r1
      obtain ⟨us, _, hp⟩ := so1.lst hy ep
      refine ⟨.inl ⟨rfl, _, .inl (.inl hp)⟩, ρ1, σ, S1, so1, eo1, At.mono (AtS.st (rel := relE X.K) eo1 h1) fun w2 H2 ⟨ρ2, v, S2, _, g2, so2, eo2, r2, h2⟩ => ?_⟩
      have ep2 := pre_get g2.pre ep
      split at h2
      · rename_i xs hx
        split at h2
        · rename_i hlen
          obtain ⟨vs, rs, hp2⟩ := so2.lst hx ep2
          refine ⟨p, vs, w2, rfl, rfl, hp2, by rw [line_eq, ← rs.length]; exact hlen, ?_⟩
          refine h2 ρ2 _ τ (.write hx ep2 hp2 (fun m hm hv => und_app hv hm) ?_) (so2.write hx ep2 (rs.app (.cons r2 .nil))) (eo2.mono (.wlst hp2) (List.prefix_refl _))
          rw [← so2.len]
          exact RelP.und r2
        · exact h2.elim
      · exact h2.elim
    · exact h1.elim
  · exact h1.elim
theorem u_if {t u : List Stmt} {p q : Ss} (hc : PT X x (tTs X.K TX b ex W (evT C a))) (h1 : PSs X t (tSt X.K TX b ex W (xss C b p))) (h2 : PSs X u (tSt X.K TX b ex W (xss C b q))) : PS X (.If x t u pos) (tSt X.K TX b ex W (xst C b (.ifs a p q))) := by
  refine PS.weak (ps_if hc h1 h2) fun D τ H ⟨ρ, σ, S, so, eo, h⟩ => ?_
  unfold xst at h
  refine ⟨ρ, σ, S, so, eo, At.mono (AtS.st (rel := relT) eo h) fun w H1 ⟨ρ1, v, S1, _, g1, so1, eo1, r1, h1⟩ => ?_⟩
  obtain rfl : v = w := r1
  cases v with
  | true => exact iteT ⟨ρ1, σ, S1, so1, eo1, h1⟩
  | false => exact iteF ⟨ρ1, σ, S1, so1, eo1, h1⟩
theorem u_ret {v : Expr} (he : PE X v (tE X.K TX b ex W (ev C a))) : PS X (.Return (some v) pos) (tSt X.K TX b ex W (xst C b (.ret a))) := by
  refine PS.weak (ps_ret he) fun D τ H ⟨ρ, σ, S, so, eo, h⟩ => ?_
  unfold xst at h
  exact ⟨ρ, σ, S, so, eo, At.mono (AtS.st (rel := relE X.K) eo h) fun w H1 ⟨ρ1, v, S1, _, g1, so1, eo1, r1, h1⟩ => h1 ρ1 H1 w .refl so1 r1⟩
theorem u_retN : PS X (.Return none pos) (tSt X.K TX b ex W (xst C b .retN)) := by
  refine PS.weak ps_retN fun D τ H ⟨ρ, σ, S, so, eo, h⟩ => ?_
  unfold xst at h
  exact h ρ H .non .refl so .non
theorem u_pass : PS X (.Pass pos) (tSt X.K TX b ex W (xst C b .pass)) := PS.weak ps_pass fun D τ H ⟨ρ, σ, S, so, eo, h⟩ => by
  unfold xst at h
  exact h ρ H τ .refl so eo
theorem u_brk : PS X (.Break pos) (tSt X.K TX b ex W (xst C b .brk)) := PS.weak ps_break fun D τ H ⟨ρ, σ, S, so, eo, h⟩ => by
  unfold xst at h
  exact h ρ H τ .refl so eo
theorem u_cont : PS X (.Continue pos) (tSt X.K TX b ex W (xst C b .cont)) := PS.weak ps_continue fun D τ H ⟨ρ, σ, S, so, eo, h⟩ => by
  unfold xst at h
  exact h ρ H τ .refl so eo
theorem u_nil : PSs X [] (tSt X.K TX b ex W (xss C b .nil)) := PSs.weak pss_nil fun D τ H ⟨ρ, σ, S, so, eo, h⟩ => by
  unfold xss at h
  exact h ρ H τ .refl so eo
theorem u_cons {s : Stmt} {ss : List Stmt} {p : MP.St} {q : Ss} (h1 : PS X s (tSt X.K TX b ex W (xst C b p))) (h2 : PSs X ss (tSt X.K TX b ex W (xss C b q))) : PSs X (s :: ss) (tSt X.K TX b ex W (xss C b (.cons p q))) := by
  refine PSs.weak (pss_cons h1 h2) fun D τ H ⟨ρ, σ, S, so, eo, h⟩ => ?_
  unfold xss at h
  refine ⟨ρ, σ, S, so, eo, ?_⟩
  cases e : xst C b p σ S with
  | next σ1 S1 =>
    rw [e] at h
    exact fun ρ' H' τ' g so' eo' => ⟨ρ', σ1, S1, so', eo', AtS.grow g h⟩
  | ret v S1 => rw [e] at h; exact h
  | brk σ1 S1 => rw [e] at h; exact h
  | cont σ1 S1 => rw [e] at h; exact h
  | exc k as σ1 S1 => rw [e] at h; exact h
  | bad => rw [e] at h; exact h.elim
end
end MP
end
section
set_option Elab.async false
set_option linter.all false
set_option maxRecDepth 100000
set_option maxHeartbeats 1000000
/-! MPSound15: loops, raise, try; every statement that is looked at runs like its MP. -/
namespace MP
open PySem PySem.Spec PyProof.Rows L2
section
variable {T : Tab} {TX : Exc} {C : Nat → List PV → Sto → R PV} {X : Cx} {W : WX} {N : List Str} {sc : Scope} {b : Nat} {cl : Bool} {ex : Option Held}
variable {x y z tg : Expr} {a c d : E} {pos : Pos}
theorem u_for (cx : CtxS T TX C X W N sc true none) {t : Tg} {it : It} {p : Ss} {iter : Expr} {body : List Stmt} (hg : tgB N false sc t tg = true) (hi : PI X tg iter (tI X.K TX b W (evi C it))) (hs : ∀ x, foldedSetIterable iter X.env x = pure x)
    (hb : PSs X body (tSt X.K TX b none W (xss C b p))) : PS X (.For tg iter body [] pos) (tSt X.K TX b none W (xst C b (.fors t it p))) := by
  have pg := g_ok (TX := TX) (X := X) (cx.calm rfl) cx.names cx.nd cx.scope (lo := false) (fun _ x _ => cx.fn x) hg
  refine PS.weak (ps_for (cx.po rfl) (cx.calm rfl) hi pg hb hs) fun D τ H ⟨ρ, σ, S, so, eo, h⟩ => ?_
  unfold xst at h
  refine ⟨ρ, σ, S, so, eo, At.mono (AtS.st (rel := WalkOk X.K b) eo h) fun J H1 ⟨ρ1, w, S1, _, g1, so1, eo1, wo, h1⟩ => ?_⟩
  obtain ⟨n, G, Y, wk, hn, hG, hY⟩ := wo.ex
  let run (xs : List PV) (σi : Env) (Si : Sto) : RS := forLoop (fun S => stands S w.2) (bindT t) (xss C b p) xs σi Si
  have bad : ∀ {xs : List PV} {σi : Env} {Si : Sto}, stands Si w.2 = false → run xs σi Si = .bad := fun {xs σi Si} hst => by
    show forLoop _ _ _ _ _ _ = _
    cases xs with
    | nil => unfold forLoop; rw [hst]; rfl
    | cons x xs => unfold forLoop; rw [hst]; rfl
  refine for_it (g := fun v τ H Q => ∃ ρ σ σ' u, EnvOk X.K TX none ρ H σ τ ∧ RelP X.K ρ H u v ∧ bindT t u σ = some σ' ∧ ∀ τ', EnvOk X.K TX none ρ H σ' τ' → Q τ' H) (tb := tSt X.K TX b none W (xss C b p)) (D := D) wk (fun i τi Hc => ∃ ρi σi Si, Grow b ρ1 ρi S1 Si H1 Hc ∧ StOk X.K b ρi Si Hc ∧ EnvOk X.K TX none ρi Hc σi τi ∧ AtS X.K TX b none W D ρi Si Hc (run (w.1.drop i) σi Si)) ⟨ρ1, σ, S1, .refl, so1, eo1, h1⟩ ?_ ?_ ?_
  · rintro i τi Hc hi ⟨ρi, σi, Si, gi, soi, eoi, hq⟩
    refine hG ρi Si Hc gi.keep gi.pre soi ?_
    cases hst : stands Si w.2 with
    | true => rfl
    | false => rw [bad hst] at hq; exact hq.elim
  · rintro i xv τi Hc Hc' hin ⟨ρi, σi, Si, gi, soi, eoi, hq⟩ hy
    have hlt : i < w.1.length := by rw [hn]; exact hin
    have hget : w.1[i]? = some (w.1[i]) := by simp [hlt]
    have hst : stands Si w.2 = true := by
      cases hst : stands Si w.2 with
      | true => rfl
      | false => rw [bad hst] at hq; exact hq.elim
    obtain ⟨gy, soy, ry⟩ := hY ρi Si Hc i xv _ Hc' gi.keep gi.pre soi hst hget hy
    have hq := AtS.grow gy hq
    have gi := gi.trans gy
    have eoi := eoi.grow gy
    rw [List.drop_eq_getElem_cons hlt] at hq
    have hq : AtS X.K TX b none W D ρi Si Hc' (forLoop (fun S => stands S w.2) (bindT t) (xss C b p) (w.1[i] :: w.1.drop (i + 1)) σi Si) := hq
    unfold forLoop at hq
    rw [hst, if_pos rfl] at hq
    cases hbd : bindT t w.1[i] σi with
    | none => rw [hbd] at hq; exact hq.elim
    | some σ1 =>
      rw [hbd] at hq
      have hq : AtS X.K TX b none W D ρi Si Hc' (match xss C b p σ1 Si with
        | .next σ2 S2 => forLoop (fun S => stands S w.2) (bindT t) (xss C b p) (w.1.drop (i + 1)) σ2 S2
        | .cont σ2 S2 => forLoop (fun S => stands S w.2) (bindT t) (xss C b p) (w.1.drop (i + 1)) σ2 S2
        | .brk σ2 S2 => .next σ2 S2
        | r => r) := hq
      refine ⟨ρi, σi, σ1, w.1[i], eoi, ry, hbd, fun τ1 eo1' => ⟨ρi, σ1, Si, soy, eo1', ?_⟩⟩
      cases e : xss C b p σ1 Si with
      | next σ2 S2 =>
        rw [e] at hq
        exact fun ρ' H' τ' g so' eo' => ⟨ρ', σ2, S2, gi.trans g, so', eo', AtS.grow g hq⟩
      | cont σ2 S2 =>
        rw [e] at hq
        exact fun ρ' H' τ' g so' eo' => ⟨ρ', σ2, S2, gi.trans g, so', eo', AtS.grow g hq⟩
      | brk σ2 S2 => rw [e] at hq; exact hq
      | ret v S2 => rw [e] at hq; exact hq
      | exc k as σ2 S2 => rw [e] at hq; exact hq
      | bad => rw [e] at hq; exact hq.elim
  · rintro τi Hc ⟨ρi, σi, Si, gi, soi, eoi, hq⟩
    have en : w.1.drop n = [] := by rw [← hn]; exact List.drop_length
    rw [en] at hq
    have hq : AtS X.K TX b none W D ρi Si Hc (forLoop (fun S => stands S w.2) (bindT t) (xss C b p) [] σi Si) := hq
    unfold forLoop at hq
    split at hq
    · exact hq ρi Hc τi .refl soi eoi
    · exact hq.elim
theorem u_while (cx : CtxS T TX C X W N sc true none) {p : Ss} {body : List Stmt} (hc : PT X x (tTs X.K TX b none W (evT C a))) (hb : PSs X body (tSt X.K TX b none W (xss C b p))) : PS X (.While x body [] pos) (tSt X.K TX b none W (xst C b (.whiles a p))) := by
  refine PS.weak (ps_while (cx.po rfl) hc hb) fun D τ H ⟨ρ, σ, S, so, eo, h⟩ => ?_
  unfold xst at h
  refine ⟨fun m τi Hc => ∃ ρi σi Si, StOk X.K b ρi Si Hc ∧ EnvOk X.K TX none ρi Hc σi τi ∧ AtS X.K TX b none W D ρi Si Hc (whileLoop (evT C a) (xss C b p) m σi Si), ⟨fuel, ρ, σ, S, so, eo, h⟩, ?_⟩
  rintro m τi Hc ⟨ρi, σi, Si, soi, eoi, hq⟩
  cases m with
  | zero => unfold whileLoop at hq; exact hq.elim
  | succ m =>
    unfold whileLoop at hq
    refine ⟨ρi, σi, Si, soi, eoi, At.mono (AtS.st (rel := relT) eoi hq) fun k H1 ⟨ρ1, v, S1, _, g1, so1, eo1, r1, h1⟩ => ?_⟩
    obtain rfl : v = k := r1
    cases v with
    | false => exact iteF (h1 ρ1 H1 τi .refl so1 eo1)
    | true =>
      refine iteT ⟨fun τ' H' => ∃ ρi σi Si, StOk X.K b ρi Si H' ∧ EnvOk X.K TX none ρi H' σi τ' ∧ AtS X.K TX b none W D ρi Si H' (whileLoop (evT C a) (xss C b p) m σi Si), fun τ' H' q => ⟨m, Nat.lt_succ_self m, q⟩, ρ1, σi, S1, so1, eo1, ?_⟩
      have h1 : AtS X.K TX b none W D ρ1 S1 H1 (match xss C b p σi S1 with
        | .next σ2 S2 => whileLoop (evT C a) (xss C b p) m σ2 S2
        | .cont σ2 S2 => whileLoop (evT C a) (xss C b p) m σ2 S2
        | .brk σ2 S2 => .next σ2 S2
        | r => r) := h1
      cases e : xss C b p σi S1 with
      | next σ2 S2 =>
        rw [e] at h1
        exact fun ρ' H' τ' g so' eo' => ⟨ρ', σ2, S2, so', eo', AtS.grow g h1⟩
      | cont σ2 S2 =>
        rw [e] at h1
        exact fun ρ' H' τ' g so' eo' => ⟨ρ', σ2, S2, so', eo', AtS.grow g h1⟩
      | brk σ2 S2 => rw [e] at h1; exact h1
      | ret v S2 => rw [e] at h1; exact h1
      | exc k as σ2 S2 => rw [e] at h1; exact h1
      | bad => rw [e] at h1; exact h1.elim
/-! ### raise -/
/-- X() of a class without an own __init__ -/
theorem make0 {c : Nat} {n : Str} {p : Pos} (hx : ExcK X.K X.mg (TX.at_ c) n []) (hg : Gl X n) (hd : (n == ("__debug__" : Str)) = false) : PMk X (.Call (.Name n p) [] [] pos) (fun _ H Q => Q (.ref (TX.at_ c)) none H) := by
  intro pins s τ H Q I h
  refine wpAny_Call_Name_kw (ld_glob I hg hx.gl ?_ hd)
  refine PySem.W.callWith_K0 I.kIn hx.kp ?_
  show wpAny _ _ (call (.ref (TX.at_ c)) []) _ _ _
  obtain ⟨bm, ns, nm, qn, bs, hdct, sn, sub, ab, col, dd, k0, k1, k2, k3, k5, mN, hC, hN, hni, F⟩ := exc_obj I.kIn (hx.no rfl)
  refine wpAny_call_exc_subT PySem.F.excBase_ValueError F hC hN hni (fun h' e hm => ?_) (Nat.zero_le _)
  exact mk_of I hm (raises_own hx.sb hx.ty) h (I.hok.gone hm.new)
theorem u_raise0 (cx : CtxS T TX C X W N sc true ex) {k : Nat} {n : Str} {p q : Pos} (hg : gloB sc n = true) (hk : (T.cls[k]?.map fun p => (p.1, p.2.1)) = some (n, [])) : PS X (.Raise (some (.Call (.Name n p) [] [] q)) none pos) (tSt X.K TX b ex W (xst C b (.raise k .nil))) := by
  obtain ⟨g1, g2, _, _⟩ := cx.gl hg
  cases e : T.cls[k]? with
  | none => rw [e] at hk; cases hk
  | some pp =>
    rw [e] at hk
    obtain ⟨n', fs, sup⟩ := pp
    have hk : (n', fs) = (n, []) := Option.some.inj hk
    cases hk
    have xk := cx.exc k _ e
    have lt : k < TX.n := by rw [cx.num]; exact (List.getElem?_eq_some_iff.mp e).1
    have at0 : TX.attrs k = [] := cx.attrs k _ e
    refine PS.weak (ps_raise (cx.calm rfl) cx.takes (make0 xk g1 g2)) fun D τ H ⟨ρ, σ, S, so, eo, h⟩ => ?_
    unfold xst evs at h
    exact h ρ H τ _ _ .refl so eo ⟨lt, rfl, by rw [at0]; rfl, .inl ⟨at0, rfl⟩⟩
/-! ### try -/
theorem Ctx.tr (cx : CtxS T TX C X W N sc true none) {W' : WX} {pn : List (Addr × Obj)} {xe : Value → Shared → Prop} (tk : Takes (X.tr pn xe) W') (po : PassesOwn (model X.prog X.w) X.A X.env xe) : CtxS T TX C (X.tr pn xe) W' N sc true none :=
  { scope := cx.scope, names := cx.names, nd := cx.nd, takes := tk, calm := cx.calm, unit := cx.unit, free := cx.free, glb := cx.glb, fns := cx.fns, num := cx.num, exc := cx.exc, exm := cx.exm, attrs := cx.attrs, held := (fun x hx => by cases hx), stk := cx.stk, frame := cx.frame, po := fun _ => po, fn := cx.fn }
/-- what a suite asks of the text's classes -/
structure SuiteOk (T : Tab) (TX : Exc) (K : PySem.W.Frag) (mg : Str → Option Value) (c : Nat) : Prop where
  tab : ∀ p : Str × List Str × List Str, T.cls[c]? = some p →
    (∀ f ∈ p.2.1, PySem.W.findIn K (.ref (TX.at_ c)) "__getattribute__" = some (some (.builtin "BaseException.__getattribute__")) ∧ PySem.W.findIn K (.ref (TX.at_ c)) "__getattr__" = some none ∧
      PySem.W.subIn K (.ref (TX.at_ c)) (.type "BaseException") = some true ∧ PySem.W.hasDictIn K (TX.at_ c) = true ∧ PySem.W.findIn K (.ref (TX.at_ c)) f = some none) ∧
    (p.2.1 = [] → ExcC K (TX.at_ c) ∧ ∀ z, p.2.2.contains z = true → ∃ (c' : V) (cv : Value), ((mg z = some cv) ∨ (mg z = none ∧ bootBuiltins z = some cv ∧ z ≠ "__name__")) ∧ RelV c' cv ∧ (∀ u, RelV c' u → u = cv) ∧ PySem.W.kitOne K (.ref (TX.at_ c)) cv = some true)
theorem Ctx.su (cx : CtxS T TX C X W N sc true none) (sk : ∀ c, SuiteOk T TX X.K X.mg c) {A : Addr} {oe : Obj} {cls : Value} {dd : Option Addr} {pn : List (Addr × Obj)} (hz : Zc cls dd oe) (hv : ∃ vs, oe.data = .fields vs) (k i : Nat) :
    CtxS T TX C (X.suite A ((A, oe) :: pn)) noW N sc false (some ⟨i, A, k, cls, dd⟩) :=
  { scope := cx.scope, names := cx.names, nd := cx.nd, takes := takes0, calm := (fun h => by cases h), unit := cx.unit, free := cx.free, glb := cx.glb, fns := (fun h => by cases h), num := cx.num, exc := cx.exc, exm := cx.exm, attrs := cx.attrs, stk := cx.stk, frame := cx.frame, po := (fun h => by cases h), fn := cx.fn,
    held := fun x hx => by
      cases hx
      exact ⟨oe, pn, rfl, ⟨X, rfl⟩, hz, hv, fun p hp => ⟨((sk k).tab p hp).1, ((sk k).tab p hp).2⟩⟩ }
theorem Ctx.su0 (cx : CtxS T TX C X W N sc true none) {A : Addr} {pn : List (Addr × Obj)} : CtxS T TX C (X.suite A pn) noW N sc false none :=
  { scope := cx.scope, names := cx.names, nd := cx.nd, takes := takes0, calm := (fun h => by cases h), unit := cx.unit, free := cx.free, glb := cx.glb, fns := (fun h => by cases h), num := cx.num, exc := cx.exc, exm := cx.exm, attrs := cx.attrs, stk := cx.stk, frame := cx.frame, po := (fun h => by cases h), fn := cx.fn,
    held := fun x hx => by cases hx }
theorem EnvOk.hold {K : PySem.W.Frag} {ρ : List Addr} {H : Hp} {σ : Env} {τ : L2.St} (e : EnvOk K TX none ρ H σ τ) {i : Nat} {A : Addr} {c : Nat} {cls : Value} {dd : Option Addr} {as : List PV} (hi : i < σ.length) (x : ExcOk K TX ρ H c as cls dd) :
    EnvOk K TX (some ⟨i, A, c, cls, dd⟩) ρ H (σ.set i (some (.tup (.int c :: as)))) (τ.set i (some (.ref A))) := by
  refine ⟨by simp [e.len], fun j u h n => ?_, fun x hx => ?_⟩
  · have ne : i ≠ j := n _ rfl
    rw [List.getElem?_set_ne ne] at h
    rw [List.getElem?_set_ne ne]
    exact e.val j u h fun x hx => by cases hx
  · cases hx
    exact ⟨as, by rw [List.getElem?_set_self hi], by rw [List.getElem?_set_self (by rw [← e.len]; exact hi)], x⟩
theorem EnvOk.unhold {K : PySem.W.Frag} {ρ : List Addr} {H : Hp} {σ : Env} {τ : L2.St} {q : Held} (e : EnvOk K TX (some q) ρ H σ τ) : EnvOk K TX none ρ H (σ.set q.i none) (τ.set q.i none) := by
  refine ⟨by simp [e.len], fun j u h n => ?_, fun x hx => by cases hx⟩
  by_cases hj : q.i = j
  · subst hj
    by_cases hi : q.i < σ.length
    · rw [List.getElem?_set_self hi] at h; cases h
    · rw [List.getElem?_eq_none (by simpa using hi)] at h; cases h
  · rw [List.getElem?_set_ne hj] at h
    rw [List.getElem?_set_ne hj]
    exact e.val j u h fun x hx => by cases hx; exact hj
theorem caught_exc {c : Nat} {i : Option Nat} {h : Env → Sto → RS} {d : Nat} {as : List PV} {σ : Env} {S : Sto} : caught c i h (.exc d as σ S) = if d = c then (if holdOk σ i then unslot i (h (hold c as σ i) S) else .bad) else .exc d as σ S := rfl
theorem u_try_as (cx : CtxS T TX C X W N sc true none) {p h : Ss} {k i : Nat} {n m : Str} {np hp : Pos} {body suite : List Stmt} {s0 : Stmt} (hg : gloB sc n = true) (hk : (T.cls[k]?.map (·.1)) = some n) (h1 : atB N i m = true) (h2 : kindB sc m .local = true)
    (hb : ∀ (W' : WX) (Y : Cx), Y.K = X.K ∧ Y.mg = X.mg → CtxS T TX C Y W' N sc true none → PSs Y body (tSt Y.K TX b none W' (xss C b p)))
    (hs : ∀ (A : Addr) (oe : Obj) (cls : Value) (dd : Option Addr) (pn : List (Addr × Obj)), Zc cls dd oe → (∃ vs, oe.data = .fields vs) → PSs (X.suite A ((A, oe) :: pn)) (s0 :: suite) (tSt X.K TX b (some ⟨i, A, k, cls, dd⟩) noW (xss C b h))) :
    PS X (.Try body [.ExceptHandler (some (.Name n np)) (some m) (s0 :: suite) hp] [] [] pos) (tSt X.K TX b none W (xst C b (.tryo p k (some i) h))) := by
  obtain ⟨g1, g2, _, _⟩ := cx.gl hg
  cases e : T.cls[k]? with
  | none => rw [e] at hk; cases hk
  | some pp =>
    rw [e] at hk
    obtain ⟨n', fs, sup⟩ := pp
    have hk : n' = n := Option.some.inj hk
    subst hk
    have xk := cx.exc k _ e
    have lt : k < TX.n := by rw [cx.num]; exact (List.getElem?_eq_some_iff.mp e).1
    have hi : X.N[i]? = some m := by rw [cx.names]; exact atB_ok h1
    refine PS.weak (ps_try_as (i := i) (c := .ref (TX.at_ k)) (tb := fun W' => tSt X.K TX b none W' (xss C b p)) (ts := fun A cls dd => tSt X.K TX b (some ⟨i, A, k, cls, dd⟩) noW (xss C b h)) (Wout := W) cx.stk cx.frame (by rw [cx.names]; exact cx.nd) hi
      (by show X.env.scope.names.lookup m = _; rw [cx.scope]; exact kindB_ok h2) ⟨g1, g2, .inl xk.gl⟩ cx.takes (fun W' pn xe tk po => hb W' (X.tr pn xe) ⟨rfl, rfl⟩ (Ctx.tr cx tk po)) hs) fun D τ H ⟨ρ, σ, S, so, eo, q⟩ => ?_
    unfold xst at q
    refine ⟨ρ, σ, S, so, eo, ?_⟩
    cases r : xss C b p σ S with
    | next σ1 S1 => rw [r] at q; exact q
    | ret v S1 => rw [r] at q; exact q
    | brk σ1 S1 => rw [r] at q; exact q
    | cont σ1 S1 => rw [r] at q; exact q
    | bad => rw [r] at q; exact q
    | exc d as σ1 S1 =>
      rw [r] at q
      intro ρ' H' τ' cls dd g so' eo' x
      have q := AtS.grow g q
      rw [caught_exc] at q
      refine ⟨decide (d = k), ?_, fun hd A hA => ?_, fun hd => ?_⟩
      · rw [x.2.1]
        exact cx.exm k d lt x.1
      · have hd : d = k := of_decide_eq_true hd
        subst hd
        rw [if_pos rfl] at q
        split at q
        · rename_i hl
          have hlen : i < σ1.length := of_decide_eq_true hl
          refine ⟨ρ', σ1.set i (some (.tup (.int d :: as))), S1, so', eo'.hold hlen x, ?_⟩
          have q : AtS X.K TX b none W D ρ' S1 H' (unslot (some i) (xss C b h (σ1.set i (some (.tup (.int d :: as)))) S1)) := q
          cases r2 : xss C b h (σ1.set i (some (.tup (.int d :: as)))) S1 with
          | next σ2 S2 => rw [r2] at q; exact fun ρ2 H2 τ2 g2 so2 eo2 => q ρ2 H2 _ g2 so2 eo2.unhold
          | brk σ2 S2 => rw [r2] at q; exact fun ρ2 H2 τ2 g2 so2 eo2 => q ρ2 H2 _ g2 so2 eo2.unhold
          | cont σ2 S2 => rw [r2] at q; exact fun ρ2 H2 τ2 g2 so2 eo2 => q ρ2 H2 _ g2 so2 eo2.unhold
          | ret v S2 => rw [r2] at q; exact q
          | exc c as σ2 S2 => rw [r2] at q; exact q.elim
          | bad => rw [r2] at q; exact q.elim
        · exact q.elim
      · have hd : ¬ d = k := of_decide_eq_false hd
        rw [if_neg hd] at q
        exact q ρ' H' τ' cls dd .refl so' eo' x
theorem u_try_only (cx : CtxS T TX C X W N sc true none) {p h : Ss} {k : Nat} {n : Str} {np hp : Pos} {body suite : List Stmt} {s0 : Stmt} (hg : gloB sc n = true) (hk : (T.cls[k]?.map (·.1)) = some n)
    (hb : ∀ (W' : WX) (Y : Cx), Y.K = X.K ∧ Y.mg = X.mg → CtxS T TX C Y W' N sc true none → PSs Y body (tSt Y.K TX b none W' (xss C b p)))
    (hs : ∀ (A : Addr) (pn : List (Addr × Obj)), PSs (X.suite A pn) (s0 :: suite) (tSt X.K TX b none noW (xss C b h))) :
    PS X (.Try body [.ExceptHandler (some (.Name n np)) none (s0 :: suite) hp] [] [] pos) (tSt X.K TX b none W (xst C b (.tryo p k none h))) := by
  obtain ⟨g1, g2, _, _⟩ := cx.gl hg
  cases e : T.cls[k]? with
  | none => rw [e] at hk; cases hk
  | some pp =>
    rw [e] at hk
    obtain ⟨n', fs, sup⟩ := pp
    have hk : n' = n := Option.some.inj hk
    subst hk
    have xk := cx.exc k _ e
    have lt : k < TX.n := by rw [cx.num]; exact (List.getElem?_eq_some_iff.mp e).1
    refine PS.weak (ps_try_only (c := .ref (TX.at_ k)) (tb := fun W' => tSt X.K TX b none W' (xss C b p)) (ts := fun A cls dd => tSt X.K TX b none noW (xss C b h)) (Wout := W) cx.stk cx.frame ⟨g1, g2, .inl xk.gl⟩ cx.takes
      (fun W' pn xe tk po => hb W' (X.tr pn xe) ⟨rfl, rfl⟩ (Ctx.tr cx tk po)) fun A oe cls dd pn _ _ => hs A _) fun D τ H ⟨ρ, σ, S, so, eo, q⟩ => ?_
    unfold xst at q
    refine ⟨ρ, σ, S, so, eo, ?_⟩
    cases r : xss C b p σ S with
    | next σ1 S1 => rw [r] at q; exact q
    | ret v S1 => rw [r] at q; exact q
    | brk σ1 S1 => rw [r] at q; exact q
    | cont σ1 S1 => rw [r] at q; exact q
    | bad => rw [r] at q; exact q
    | exc d as σ1 S1 =>
      rw [r] at q
      intro ρ' H' τ' cls dd g so' eo' x
      have q := AtS.grow g q
      rw [caught_exc] at q
      refine ⟨decide (d = k), ?_, fun hd A hA => ?_, fun hd => ?_⟩
      · rw [x.2.1]
        exact cx.exm k d lt x.1
      · have hd : d = k := of_decide_eq_true hd
        subst hd
        rw [if_pos rfl] at q
        have q : AtS X.K TX b none W D ρ' S1 H' (unslot none (xss C b h σ1 S1)) := q
        refine ⟨ρ', σ1, S1, so', eo', ?_⟩
        cases r2 : xss C b h σ1 S1 with
        | next σ2 S2 => rw [r2] at q; exact q
        | brk σ2 S2 => rw [r2] at q; exact q
        | cont σ2 S2 => rw [r2] at q; exact q
        | ret v S2 => rw [r2] at q; exact q
        | exc c as σ2 S2 => rw [r2] at q; exact q.elim
        | bad => rw [r2] at q; exact q.elim
      · have hd : ¬ d = k := of_decide_eq_false hd
        rw [if_neg hd] at q
        exact q ρ' H' τ' cls dd .refl so' eo' x
end
end MP
end
section
set_option Elab.async false
set_option linter.all false
set_option maxRecDepth 100000
set_option maxHeartbeats 1000000
/-! MPSound16: every statement that is looked at runs like its MP. -/
namespace MP
open PySem PySem.Spec PyProof.Rows L2
section
variable {T : Tab} {TX : Exc} {C : Nat → List PV → Sto → R PV} {X : Cx} {W : WX} {N : List Str} {sc : Scope} {b : Nat} {cl : Bool} {ex : Option Held}
/-- a comprehension's look, taken apart -/
theorem lc_parts {e : E} {elt : Expr} {gs : List Comprehension} {s : Scope} {vp : Pos} {hx : Option (Nat × Nat)} (h : trB T N sc cl hx e (.ListComp elt gs s vp) = true) :
    ∃ t own it co e' tg iter ifs, e = .lc t own it co e' ∧ gs = [⟨tg, iter, ifs, 0⟩] ∧ trB T N sc cl hx (.lc t own it co e') (.ListComp elt [⟨tg, iter, ifs, 0⟩] s vp) = true := by
  cases e with
  | lc t own it co e' =>
    have h0 := h
    unfold trB at h
    split at h
    · rename_i heq
      cases heq
      exact ⟨t, own, it, co, e', _, _, _, rfl, rfl, h0⟩
    · cases h
  | var i => exact absurd (show false = true from h) Bool.false_ne_true
  | cst v => exact absurd (show false = true from h) Bool.false_ne_true
  | tup es => exact absurd (show false = true from h) Bool.false_ne_true
  | lst es => exact absurd (show false = true from h) Bool.false_ne_true
  | bin o x y => exact absurd (show false = true from h) Bool.false_ne_true
  | neg x => exact absurd (show false = true from h) Bool.false_ne_true
  | not x => exact absurd (show false = true from h) Bool.false_ne_true
  | and x y => exact absurd (show false = true from h) Bool.false_ne_true
  | or x y => exact absurd (show false = true from h) Bool.false_ne_true
  | cmp o x y => exact absurd (show false = true from h) Bool.false_ne_true
  | chain o p x y z => exact absurd (show false = true from h) Bool.false_ne_true
  | ife x y z => exact absurd (show false = true from h) Bool.false_ne_true
  | ix x y => exact absurd (show false = true from h) Bool.false_ne_true
  | slc x y z => exact absurd (show false = true from h) Bool.false_ne_true
  | call f es => exact absurd (show false = true from h) Bool.false_ne_true
  | bi f es => exact absurd (show false = true from h) Bool.false_ne_true
  | isi x t => exact absurd (show false = true from h) Bool.false_ne_true
  | eat i j => exact absurd (show false = true from h) Bool.false_ne_true
  | eisi i => exact absurd (show false = true from h) Bool.false_ne_true
theorem v_lc (hT : T.ok = true) (cx : CtxS T TX C X W N sc cl ex) {i : Nat} {n : Str} {p pos : Pos} {e : E} {elt : Expr} {gs : List Comprehension} {s : Scope} {vp : Pos} (h1 : atB N i n = true) (h4 : trB T N sc cl (hxOf ex) e (.ListComp elt gs s vp) = true)
    (h5 : (cl && decide (sc.kind = .function) && kindB sc n .local && (p.line == vp.line) && !(s.names.any fun q => q.1 == n && (q.2 == .local || q.2 == .cell))) = true) :
    PS X (.Assign [.Name n p] (.ListComp elt gs s vp) pos) (tSt X.K TX b ex W (xst C b (.asg (.of (.name i)) e))) := by
  simp only [Bool.and_eq_true, Bool.not_eq_true'] at h5
  obtain ⟨⟨⟨⟨k1, k2⟩, k3⟩, k4⟩, k5⟩ := h5
  subst k1
  have cx' := cx.toCtx
  obtain ⟨t, own, it, co, e', tg, iter, ifs, rfl, rfl, h⟩ := lc_parts h4
  unfold trB at h
  simp only [Bool.and_eq_true] at h
  obtain ⟨⟨⟨⟨⟨⟨⟨_, m2⟩, m3⟩, m4⟩, m0⟩, m5⟩, m6⟩, m7⟩ := h
  have hn : ex = none := by
    cases ex with
    | none => rfl
    | some x => simp [hxOf] at m2
  subst hn
  refine u_lc cx h1 k3 (of_decide_eq_true k2) k4 k5 m3 m4 (fun i hi => of_decide_eq_true (List.all_eq_true.mp m0 i hi)) (sIt hT it cx' m5) (folded_of m5 _) (fun Y hY cy => ?_) fun Y hY cy => sE hT e' cy m7
  split at m6
  · split at m6
    · exact ⟨fun pins s τ H Q I hq => pts_nil.run pins s τ H Q I (by
        obtain ⟨ρ, σ, S, so, eo, q⟩ := hq
        exact At.ok (rel := relT) so (by unfold evc at q; exact q) rfl)⟩
    · cases m6
  · have m6' := Bool.and_eq_true_iff.mp m6
    cases co with
    | none => exact absurd m6'.2 (by simp)
    | some c =>
      have q := m6'.1
      unfold troB at q
      have p := sT (b := b) hT c (ex := none) cy q
      refine ⟨fun pins s τ H Q I hq => (pts_one p).run pins s τ H Q I ?_⟩
      obtain ⟨ρ, σ, S, so, eo, q⟩ := hq
      exact ⟨ρ, σ, S, so, eo, by unfold evc at q; exact q⟩
  · cases m6
theorem none_of {hx : Option Held} (h : (hxOf hx).isNone = true) : hx = none := by
  cases hx with
  | none => rfl
  | some x => simp [hxOf] at h
theorem v_asg (hT : T.ok = true) (cx : CtxS T TX C X W N sc cl ex) {t : Tt} {e : E} {s : Stmt} (h : trS T N sc cl (hxOf ex) (.asg t e) s = true) (hh : t = t → True) : PS X s (tSt X.K TX b ex W (xst C b (.asg t e))) := by
  have cx' := cx.toCtx
  unfold trS at h
  split at h
  · rename_i g v pos
    split at h
    · rename_i i
      split at h
      · simp only [Bool.and_eq_true] at h
        obtain ⟨⟨⟨⟨h1, h2⟩, h3⟩, h4⟩, h5⟩ := h
        have h3' : ∀ q, hxOf ex = some q → q.1 ≠ i := fun q hq e => by
          rw [hq] at h3
          simp [e] at h3
        cases hn : notComp v with
        | true => exact u_name cx h1 h2 h3' (sE hT e cx' h4) (swaps_of hn _ _ _)
        | false =>
          rw [hn, Bool.false_or] at h5
          split at h5
          · exact v_lc hT cx h1 h4 h5
          · cases h5
      · cases h
    · simp only [Bool.and_eq_true] at h
      obtain ⟨⟨⟨⟨h1, h2⟩, h3⟩, h4⟩, h5⟩ := h
      subst h1
      have hn : ex = none := by
        cases ex with
        | none => rfl
        | some x =>
          obtain ⟨_, _, hc, _⟩ := cx.held x rfl
          rw [cx.calm rfl] at hc
          cases hc
      subst hn
      exact u_tup cx h2 (sE hT e cx' h3) h4 h5
    · simp only [Bool.and_eq_true] at h
      obtain ⟨⟨⟨h1, h2⟩, h3⟩, h4⟩ := h
      subst h1
      split at h2
      · simp only [Bool.and_eq_true, Bool.not_eq_true'] at h2
        obtain ⟨⟨m1, m2⟩, m3⟩ := h2
        exact u_sub cx (sE hT _ cx' m1) (sE hT _ cx' m2) m3 (sE hT e cx' h3) h4
      · cases h2
  · cases h
theorem held_none (cx : CtxS T TX C X W N sc true ex) : ex = none := by
  cases ex with
  | none => rfl
  | some x =>
    obtain ⟨_, _, hc, _⟩ := cx.held x rfl
    rw [cx.calm rfl] at hc
    cases hc
theorem nostar_of {hx : Option (Nat × Nat)} {e : E} {f : Expr} (h : trB T N sc cl hx e f = true) : ∀ w q, f ≠ .Starred w q := by
  intro w q z
  subst z
  have := star_of h [] default
  cases this
theorem v_par (hT : T.ok = true) (cx : CtxS T TX C X W N sc cl ex) {i j : Nat} {a c : E} {s : Stmt} (h : trS T N sc cl (hxOf ex) (.par i j a c) s = true) : PS X s (tSt X.K TX b ex W (xst C b (.par i j a c))) := by
  have cx' := cx.toCtx
  unfold trS at h
  split at h
  · simp only [Bool.and_eq_true, Bool.not_eq_true'] at h
    obtain ⟨⟨⟨⟨⟨⟨⟨⟨⟨⟨⟨⟨h1, h2⟩, h3⟩, h4⟩, h5⟩, h6⟩, h7⟩, h8⟩, h9⟩, h10⟩, h11⟩, h12⟩, h13⟩ := h
    subst h1
    have hn := held_none cx
    subst hn
    exact u_par cx h2 h3 (of_decide_eq_false h4) h5 h6 (of_decide_eq_true h7) h8 (of_decide_eq_false h9) h10 h11 (sE hT a cx' h12) (sE hT c cx' h13) (fun es => star_of h12 es _) (star_of h13 _ _) (nostar_of h12) (nostar_of h13)
  · cases h
theorem v_append (hT : T.ok = true) (cx : CtxS T TX C X W N sc cl ex) {a e : E} {s : Stmt} (h : trS T N sc cl (hxOf ex) (.append a e) s = true) : PS X s (tSt X.K TX b ex W (xst C b (.append a e))) := by
  have cx' := cx.toCtx
  unfold trS at h
  split at h
  · rename_i x f ap v cp pos
    simp only [Bool.and_eq_true] at h
    obtain ⟨⟨⟨⟨⟨h1, h2⟩, h3⟩, h4⟩, h5⟩, h6⟩ := h
    subst h1
    have hf : f = "append" := of_decide_eq_true h2
    subst hf
    refine u_append (sE hT a cx' h4) (sE hT e cx' h5) ?_ h3 (star_of h5 _ _)
    split at h6
    · rfl
    · rfl
    · cases h6
  · cases h
theorem v_raise (cx : CtxS T TX C X W N sc cl ex) {k : Nat} {es : Es} {s : Stmt} (h : trS T N sc cl (hxOf ex) (.raise k es) s = true) : PS X s (tSt X.K TX b ex W (xst C b (.raise k es))) := by
  unfold trS at h
  split at h
  · simp only [Bool.and_eq_true] at h
    obtain ⟨⟨⟨h1, h2⟩, h3⟩, h4⟩ := h
    subst h1
    cases es with
    | nil => exact u_raise0 cx h2 (of_decide_eq_true h3)
    | cons _ _ => cases h4
  · cases h
end
section
variable {T : Tab} {TX : Exc} {C : Nat → List PV → Sto → R PV} {N : List Str} {b : Nat}
mutual
theorem sS (hT : T.ok = true) : ∀ (p : MP.St) {s : Stmt} {X : Cx} {W : WX} {sc : Scope} {cl : Bool} {ex : Option Held}, (∀ c, SuiteOk T TX X.K X.mg c) → CtxS T TX C X W N sc cl ex → trS T N sc cl (hxOf ex) p s = true → PS X s (tSt X.K TX b ex W (xst C b p))
  | .asg t e, s, X, W, sc, cl, ex, sk, cx, h => v_asg hT cx h fun _ => trivial
  | .par i j a c, s, X, W, sc, cl, ex, sk, cx, h => v_par hT cx h
  | .append a e, s, X, W, sc, cl, ex, sk, cx, h => v_append hT cx h
  | .raise k es, s, X, W, sc, cl, ex, sk, cx, h => v_raise cx h
  | .aug i o e, s, X, W, sc, cl, ex, sk, cx, h => by
    have cx' := cx.toCtx
    unfold trS at h
    split at h
    · simp only [Bool.and_eq_true] at h
      obtain ⟨⟨⟨⟨h1, h2⟩, h3⟩, h4⟩, h5⟩ := h
      subst h1
      have hn := held_none cx
      subst hn
      cases o with
      | add => exact u_aug cx h3 h4 (fun q hq => by cases hq) (sE hT e cx' h5)
      | _ => cases h2
    · cases h
  | .expr e, s, X, W, sc, cl, ex, sk, cx, h => by
    unfold trS at h
    split at h
    · have h' := Bool.and_eq_true_iff.mp h
      exact u_expr (sE hT e cx.toCtx h'.1) h'.2
    · cases h
  | .ifs c p q, s, X, W, sc, cl, ex, sk, cx, h => by
    unfold trS at h
    split at h
    · simp only [Bool.and_eq_true] at h
      exact u_if (sT hT c cx.toCtx h.1.1) (sSs hT p sk cx h.1.2) (sSs hT q sk cx h.2)
    · cases h
  | .fors t it p, s, X, W, sc, cl, ex, sk, cx, h => by
    unfold trS at h
    split at h
    · simp only [Bool.and_eq_true] at h
      obtain ⟨⟨⟨⟨h1, h2⟩, h3⟩, h4⟩, h5⟩ := h
      subst h1
      have hn := none_of h2
      subst hn
      exact u_for cx h3 (sIt hT it cx.toCtx h4) (folded_of h4 _) (sSs hT p sk cx h5)
    · cases h
  | .whiles c p, s, X, W, sc, cl, ex, sk, cx, h => by
    unfold trS at h
    split at h
    · simp only [Bool.and_eq_true] at h
      obtain ⟨⟨⟨h1, h2⟩, h3⟩, h4⟩ := h
      subst h1
      have hn := none_of h2
      subst hn
      exact u_while cx (sT hT c cx.toCtx h3) (sSs hT p sk cx h4)
    · cases h
  | .ret e, s, X, W, sc, cl, ex, sk, cx, h => by
    unfold trS at h
    split at h
    · exact u_ret (sE hT e cx.toCtx h)
    · cases h
  | .retN, s, X, W, sc, cl, ex, sk, cx, h => by
    unfold trS at h
    split at h
    · exact u_retN
    · cases h
  | .tryo p k i q, s, X, W, sc, cl, ex, sk, cx, h => by
    unfold trS at h
    split at h
    · simp only [Bool.and_eq_true] at h
      obtain ⟨⟨⟨⟨⟨h1, h2⟩, h3⟩, h4⟩, h5⟩, h6⟩ := h
      subst h1
      have hn := none_of h2
      subst hn
      have hb : ∀ (W' : WX) (Y : Cx), Y.K = X.K ∧ Y.mg = X.mg → CtxS T TX C Y W' N sc true none → PSs Y _ (tSt Y.K TX b none W' (xss C b p)) := fun W' Y e cy => sSs hT p (by rw [e.1, e.2]; exact sk) cy h5
      split at h6
      · rename_i k' y
        simp only [Bool.and_eq_true] at h6
        obtain ⟨⟨m1, m2⟩, m3⟩ := h6
        exact u_try_as cx h3 (of_decide_eq_true h4) m1 m2 hb fun A oe cls dd pn hz hv => sSs hT q (X := X.suite A ((A, oe) :: pn)) (ex := some ⟨k', A, k, cls, dd⟩) sk (Ctx.su cx sk hz hv k k') m3
      · exact u_try_only cx h3 (of_decide_eq_true h4) hb fun A pn => sSs hT q (X := X.suite A pn) (ex := none) sk (Ctx.su0 cx) h6
      · cases h6
    · cases h
  | .pass, s, X, W, sc, cl, ex, sk, cx, h => by
    unfold trS at h
    split at h
    · exact u_pass
    · cases h
  | .brk, s, X, W, sc, cl, ex, sk, cx, h => by
    unfold trS at h
    split at h
    · exact u_brk
    · cases h
  | .cont, s, X, W, sc, cl, ex, sk, cx, h => by
    unfold trS at h
    split at h
    · exact u_cont
    · cases h
theorem sSs (hT : T.ok = true) : ∀ (p : Ss) {s : List Stmt} {X : Cx} {W : WX} {sc : Scope} {cl : Bool} {ex : Option Held}, (∀ c, SuiteOk T TX X.K X.mg c) → CtxS T TX C X W N sc cl ex → trSs T N sc cl (hxOf ex) p s = true → PSs X s (tSt X.K TX b ex W (xss C b p))
  | .nil, [], X, W, sc, cl, ex, sk, cx, h => u_nil
  | .nil, _ :: _, X, W, sc, cl, ex, sk, cx, h => by simp [trSs] at h
  | .cons _ _, [], X, W, sc, cl, ex, sk, cx, h => by simp [trSs] at h
  | .cons p q, s :: ss, X, W, sc, cl, ex, sk, cx, h => by
    have h' := Bool.and_eq_true_iff.mp (by simpa [trSs] using h)
    exact u_cons (sS hT p sk cx h'.1) (sSs hT q sk cx h'.2)
end
end
end MP
end
section
set_option Elab.async false
set_option linter.all false
set_option maxRecDepth 100000
set_option maxHeartbeats 1000000
/-! MPSound17: defs by their bodies; what the top leaves; the end of a law. -/
namespace MP
open PySem PySem.Spec PyProof.Rows L2
/-! ### defs -/
/-- a def: its name, its row of the text, its names by slot, its parameters, its MP -/
structure DefT where
  name : Str
  st : Stmt
  N : List Str
  ps : List Str
  fd : FDef
def scopeB (N ps : List Str) (sc : Scope) : Bool :=
  decide (sc.kind = .function) && !sc.isCoroutine && !sc.isGenerator && decide N.Nodup && decide (N.take ps.length = ps) && (ps.all fun x => locB sc x) && (sc.names.all fun y => !decide (y.2 = .free))
def DefT.look (T : Tab) (t : DefT) : Bool := scopeB t.N t.ps (defScope t.st) && trSs T t.N (defScope t.st) true none t.fd.body (defBody t.st) && decide (t.ps.length = t.fd.np) && decide (t.N.length = t.fd.nn)
theorem scopeB_ok {N ps : List Str} {sc : Scope} (h : scopeB N ps sc = true) : FnScope N ps sc := by
  unfold scopeB at h
  simp only [Bool.and_eq_true, Bool.not_eq_true'] at h
  obtain ⟨⟨⟨⟨⟨⟨h1, h2⟩, h3⟩, h4⟩, h5⟩, h6⟩, h7⟩ := h
  refine ⟨of_decide_eq_true h1, h2, h3, of_decide_eq_true h4, of_decide_eq_true h5, fun x hx => ?_, fun y hy e => ?_⟩
  · have z := List.all_eq_true.mp h6 x hx
    exact (locB_ok z)
  · have z := List.all_eq_true.mp h7 y hy
    simp [e] at z
/-- what the text's top leaves -/
structure GlobOk (T : Tab) (TX : Exc) (D : List DefT) (K : PySem.W.Frag) (mg : Str → Option Value) : Prop where
  free : ∀ x, T.bi.contains x = true → (x = "gcd" → mg x = some (.builtin "math.gcd")) ∧ (x ≠ "gcd" → mg x = none)
  glb : ∀ p ∈ T.glb, ∃ w u, mg p.1 = some u ∧ RelV w u ∧ ∀ ρ H, RelP K ρ H p.2 w
  num : TX.n = T.cls.length
  exc : ∀ (c : Nat) (p : Str × List Str × List Str), T.cls[c]? = some p → ExcK K mg (TX.at_ c) p.1 p.2.1
  exm : ∀ c d, c < TX.n → d < TX.n → PySem.W.exmOne K (.ref (TX.at_ d)) (.ref (TX.at_ c)) = some (decide (d = c))
  attrs : ∀ (c : Nat) (p : Str × List Str × List Str), T.cls[c]? = some p → TX.attrs c = p.2.1
  suite : ∀ c, SuiteOk T TX K mg c
  fns : ∀ (f : Nat) (t : DefT), D[f]? = some t → ∃ fa fdata, mg t.name = some (.ref fa) ∧ PySem.W.keepIn K (.ref fa) = true ∧ Binds K fdata t.ps [] ∧ (∀ (s : Shared) (us : List Value), us.length = t.ps.length → BindsTo s fdata ⟨us, []⟩ (t.ps.zip us)) ∧ FunD K t.name t.name (defArgs t.st) (defBody t.st) (defScope t.st) [] [] fa fdata
section
variable {T : Tab} {TX : Exc} {D : List DefT} {K : PySem.W.Frag} {mg : Str → Option Value} {P : Program} {w : World} {base : Heap}
/-- a def's promise, d calls deep -/
abbrev spF (K : PySem.W.Frag) (TX : Exc) (D : List DefT) (d f : Nat) : Sp := spC K TX (callN (D.map (·.fd)) d f)
theorem start_env {TX : Exc} {ρ : List Addr} {H : Hp} {args : List PV} {vs : List V} {N : List Str} {np : Nat} (r : RelPs K ρ H args vs) (h1 : args.length = np) : EnvOk K TX none ρ H (args.map some ++ List.replicate (N.length - np) none) (L2.start N vs) := by
  have hl := r.length
  refine ⟨by simp [L2.start, ← hl, h1], fun i v h _ => ?_, fun x hx => by cases hx⟩
  by_cases hi : i < args.length
  · rw [List.getElem?_append_left (by simpa using hi), List.getElem?_map] at h
    cases e : args[i]? with
    | none => rw [e] at h; cases h
    | some u =>
      rw [e] at h
      have h : u = v := by simpa using h
      subst h
      obtain ⟨w, h2, h3⟩ := r.get e
      refine ⟨w, ?_, h3⟩
      unfold L2.start
      rw [List.getElem?_append_left (by simpa [← hl] using hi), List.getElem?_map, h2]
      rfl
  · rw [List.getElem?_append_right (by simpa using Nat.le_of_not_lt hi), List.getElem?_replicate] at h
    split at h <;> cases h
/-- what a def made is forgotten -/
theorem trunc_ok {ρ ρ' : List Addr} {S S1 : Sto} {H H' : Hp} (so : StOk K S.cells.length ρ S H) (g : Grow S.cells.length ρ ρ' ⟨S.cells, false⟩ S1 H H') (so' : StOk K S.cells.length ρ' S1 H') (hd : S1.dirty = false) :
    Grow S.cells.length ρ ρ S ⟨S1.cells.take S.cells.length, S.dirty⟩ H H' ∧ StOk K S.cells.length ρ ⟨S1.cells.take S.cells.length, S.dirty⟩ H' := by
  have okS : okU S.cells.length S.cells := fun k c hk q => by
    obtain ⟨a, ha⟩ := so.lt q
    have co := so.cell k c a q ha
    have hl := so.len
    cases c with
    | lst xs => obtain ⟨vs, r, _⟩ := co; have z := r.und; rw [hl] at z; exact z
    | ro xs => obtain ⟨vs, r, _⟩ := co; have z := r.und; rw [hl] at z; exact z
    | _ => exact co.elim
  obtain ⟨_, u⟩ := g.und hd
  have okT := u _ (Nat.le_refl _) okS
  have gl : S.cells.length ≤ S1.cells.length := g.len
  have hlen : (S1.cells.take S.cells.length).length = S.cells.length := by
    rw [List.length_take]
    omega
  have tk : ρ'.take S.cells.length <+: ρ := by
    obtain ⟨t, rfl⟩ := g.pre
    rw [← so.len, List.take_left]
    exact List.prefix_refl _
  have get : ∀ {k : Nat} {c : Cell}, (S1.cells.take S.cells.length)[k]? = some c → k < S.cells.length ∧ S1.cells[k]? = some c := fun {k c} q => by
    have h1 := (List.getElem?_eq_some_iff.mp q).1
    rw [hlen] at h1
    rw [List.getElem?_take_of_lt h1] at q
    exact ⟨h1, q⟩
  refine ⟨⟨g.keep, List.prefix_refl _, by rw [hlen]; exact Nat.le_refl _, fun a o e n => ⟨(g.frame a o e n).1, n⟩, fun e => ⟨e, fun n hn us k c hk q => ?_⟩⟩, ⟨by rw [hlen]; exact so.len, fun k c a q e => ?_, fun j k a c d e1 e2 q1 q2 n1 n2 => ?_, by rw [hlen]; exact Nat.le_refl _⟩⟩
  · obtain ⟨h1, q⟩ := get q
    exact u n hn us k c hk q
  · obtain ⟨h1, q⟩ := get q
    have co := so'.cell k c a q (pre_get g.pre e)
    have un := okT k c h1 q
    cases c with
    | lst xs => obtain ⟨vs, r, z⟩ := co; exact ⟨vs, r.cut tk un, z⟩
    | ro xs => obtain ⟨vs, r, z⟩ := co; exact ⟨vs, r.cut tk un, z⟩
    | _ => exact co
  · obtain ⟨_, q1⟩ := get q1
    obtain ⟨_, q2⟩ := get q2
    exact so'.inj j k a c d (pre_get g.pre e1) (pre_get g.pre e2) q1 q2 n1 n2
/-- leaving a def -/
theorem fin_ok {E : XK} {ρ ρ' : List Addr} {S S1 : Sto} {H H' : Hp} {v : PV} {w : V} {Q : VK} (so : StOk K S.cells.length ρ S H) (g : Grow S.cells.length ρ ρ' ⟨S.cells, false⟩ S1 H H') (so' : StOk K S.cells.length ρ' S1 H') (r : RelP K ρ' H' v w)
    (h : At K TX S.cells.length E (relE K) ρ S H (fin S v S1) Q) : Q w H' := by
  unfold fin at h
  split at h
  · rename_i hp
    have hp' := Bool.and_eq_true_iff.mp hp
    obtain ⟨g2, so2⟩ := trunc_ok so g so' (by simpa using hp'.2)
    exact h ρ H' w g2 so2 (r.pure_any hp'.1)
  · refine h ρ' H' w ⟨g.keep, g.pre, g.len, g.frame, fun e => ?_⟩ ⟨so'.len, so'.cell, so'.inj, so'.base⟩ r
    have e' : S.dirty = false ∧ S1.dirty = false := by simpa using e
    exact ⟨e'.1, (g.und e'.2).2⟩
theorem finX_ok {E : XK} {ρ ρ' : List Addr} {S S1 : Sto} {H H' : Hp} {c : Nat} {as : List PV} {cls : Value} {d : Option Addr} {Q : VK} (so : StOk K S.cells.length ρ S H) (g : Grow S.cells.length ρ ρ' ⟨S.cells, false⟩ S1 H H') (so' : StOk K S.cells.length ρ' S1 H') (x : ExcOk K TX ρ' H' c as cls d)
    (h : At K TX S.cells.length E (relE K) ρ S H (if PV.pures as && !S1.dirty then .exc c as ⟨S1.cells.take S.cells.length, S.dirty⟩ else .bad) Q) : E cls d H' := by
  split at h
  · rename_i hp
    have hp' := Bool.and_eq_true_iff.mp hp
    obtain ⟨g2, so2⟩ := trunc_ok so g so' (by simpa using hp'.2)
    refine h ρ H' cls d g2 so2 ?_
    obtain ⟨h0, h1, h2, h3⟩ := x
    exact ⟨h0, h1, h2, h3.imp id fun ⟨n, dd, ws, e, z, r⟩ => ⟨n, dd, ws, e, z, r.pure_any hp'.1⟩⟩
  · exact h.elim
theorem _root_.L2.FunD.lk {x qual : Str} {params : Arguments} {body : List Stmt} {scope : Scope} {dvs : List V} {kws : List (Str × V)} {f : Addr} {fd : FuncData} (F : FunD K x qual params body scope dvs kws f fd) : ∃ oc od osl, K.lookup f = some ⟨oc, od, .func fd, osl⟩ := by
  obtain ⟨oc, od, dV, kV, doc, pm, an, cdv, ct, osl, rfl, lk, _⟩ := F.ex
  exact ⟨oc, od, osl, lk⟩
/-- every def keeps its promise -/
theorem fn_all (hT : T.ok = true) (hD : (D.all fun t => t.look T) = true) (hn : T.fns = D.map (·.name)) (G : GlobOk T TX D K mg) : ∀ (d f : Nat) (t : DefT), D[f]? = some t →
    ∃ fa fdata, mg t.name = some (.ref fa) ∧ PySem.W.keepIn K (.ref fa) = true ∧ Binds K fdata t.ps [] ∧ (∀ (s : Shared) (us : List Value), us.length = t.ps.length → BindsTo s fdata ⟨us, []⟩ (t.ps.zip us)) ∧ FnOk P w K mg base (L2.CX P w) d fa fdata t.ps (spF K TX D d f) ∧ ∃ oc od osl, K.lookup fa = some ⟨oc, od, .func fdata, osl⟩
  | 0, f, t, h => by
    obtain ⟨fa, fdata, h1, h2, h3, h4, F⟩ := G.fns f t h
    refine ⟨fa, fdata, h1, h2, h3, h4, ⟨fun vs H Q E q => ?_, fun A outer s H args us vs Q E hr e0 hb hv q => ?_⟩, F.lk⟩
    · obtain ⟨ρ, S, args, so, r, q⟩ := q
      unfold callN at q
      exact q.elim
    · obtain ⟨ρ, S, args, so, r, q⟩ := q
      unfold callN at q
      exact q.elim
  | d + 1, f, t, h => by
    have IH := fn_all hT hD hn G d
    obtain ⟨fa, fdata, h1, h2, h3, h4, F⟩ := G.fns f t h
    have lk := List.all_eq_true.mp hD t (List.mem_of_getElem? h)
    unfold DefT.look at lk
    simp only [Bool.and_eq_true] at lk
    obtain ⟨⟨⟨l1, l2⟩, l3⟩, l4⟩ := lk
    have l3 : t.ps.length = t.fd.np := of_decide_eq_true l3
    have l4 : t.N.length = t.fd.nn := of_decide_eq_true l4
    have SC := scopeB_ok l1
    have body : ∀ {args : List PV} {S : Sto}, callN (D.map (·.fd)) (d + 1) f args S = if args.length = t.fd.np then runF (callN (D.map (·.fd)) d) t.fd args S else .bad := fun {args S} => by
      rw [callN, List.getElem?_map, h]
      rfl
    refine ⟨fa, fdata, h1, h2, h3, h4, F.ok SC (fun vs H Q E q => ?_) (fun cdv A outer s H vs Q E hr q => ?_), F.lk⟩
    · obtain ⟨ρ, S, args, so, r, q⟩ := q
      rw [body] at q
      split at q
      · rename_i hl
        rw [l3, ← hl, r.length]
      · exact q.elim
    · let X : Cx := cxOf (L2.CX P w) P w K mg base t.N t.name (defScope t.st) fa cdv A outer s H E
      have cx : CtxS T TX (callN (D.map (·.fd)) d) X (fun cls dd _ H' => E cls dd H') t.N (defScope t.st) true none :=
        { scope := rfl, names := rfl, nd := SC.nd, takes := takes_of rfl rfl rfl rfl, calm := (fun _ => rfl), unit := hr.units, free := G.free, glb := G.glb, num := G.num, exc := G.exc, exm := G.exm, attrs := G.attrs, held := (fun x hx => by cases hx), stk := rfl, frame := rfl,
          po := (fun _ => passes_of rfl), fn := (fun _ => rfl),
          fns := (fun _ g x hg => by
            rw [hn, List.getElem?_map] at hg
            cases e : D[g]? with
            | none => rw [e] at hg; cases hg
            | some u =>
              rw [e] at hg
              have hg : u.name = x := by simpa using hg
              subst hg
              obtain ⟨ga, gd, k1, k2, k3, _, k4, _⟩ := IH g u e
              exact ⟨ga, gd, u.ps, d, k1, k2, k3, k4, hr⟩) }
      obtain ⟨ρ, S, args, so, r, q⟩ := q
      rw [body] at q
      split at q
      · rename_i hl
        refine ⟨_, sSs (b := S.cells.length) hT t.fd.body G.suite cx l2, ρ, args.map some ++ List.replicate (t.N.length - t.fd.np) none, ⟨S.cells, false⟩, ⟨so.len, so.cell, so.inj, Nat.le_refl _⟩, start_env r hl, ?_⟩
        unfold runF at q
        rw [l4]
        cases e : xss (callN (D.map (·.fd)) d) S.cells.length t.fd.body (args.map some ++ List.replicate (t.fd.nn - t.fd.np) none) ⟨S.cells, false⟩ with
        | next σ1 S1 => rw [e] at q; exact fun ρ' H' τ g so' eo' => fin_ok so g so' .non q
        | ret v S1 => rw [e] at q; exact fun ρ' H' w g so' r' => fin_ok so g so' r' q
        | exc c as σ1 S1 => rw [e] at q; exact fun ρ' H' τ cls dd g so' eo' x => finX_ok so g so' x q
        | brk σ1 S1 => rw [e] at q; exact q.elim
        | cont σ1 S1 => rw [e] at q; exact q.elim
        | bad => rw [e] at q; exact q.elim
      · exact q.elim
end
end MP
end
section
set_option Elab.async false
set_option linter.all false
set_option maxRecDepth 100000
set_option maxHeartbeats 1000000
/-! MPSound18: the look at what the top leaves; the end of a law. -/
namespace MP
open PySem PySem.Spec PyProof.Rows L2 He
/-- a value that stays, as the top has it -/
def pvB (K : PySem.W.Frag) : Nat → PV → Value → Bool
  | 0, _, _ => false
  | n + 1, v, u => match v, u with
    | .non, .none => true
    | .bl a, .bool c => a == c
    | .int a, .int c _ => decide (a = c)
    | .str a, .str c _ => decide (a = c)
    | .tup xs, .ref p => match K.lookup p with
      | some ⟨.type c, _, .seq its _, _⟩ => decide (c = "tuple") && decide (its.size ≤ sizeLine) && decide (xs.length = its.toList.length) && (xs.zip its.toList).all fun q => pvB K n q.1 q.2
      | _ => false
    | _, _ => false
theorem pvB_ok {K : PySem.W.Frag} : ∀ {n : Nat} {v : PV} {u : Value}, pvB K n v u = true → ∃ w, RelV w u ∧ ∀ ρ H, RelP K ρ H v w
  | 0, _, _, h => by cases h
  | n + 1, v, u, h => by
    unfold pvB at h
    split at h
    · exact ⟨.non, rfl, fun _ _ => .non⟩
    · rename_i a c
      have e : a = c := eq_of_beq h
      subst e
      exact ⟨.bl a, rfl, fun _ _ => .bl a⟩
    · rename_i a c t
      have e : a = c := of_decide_eq_true h
      subst e
      exact ⟨.int a, ⟨t, rfl⟩, fun _ _ => .int a⟩
    · rename_i a c t
      have e : a = c := of_decide_eq_true h
      subst e
      exact ⟨.str a, ⟨t, rfl⟩, fun _ _ => .str a⟩
    · rename_i xs p
      split at h
      · rename_i c dd its m sl hk
        simp only [Bool.and_eq_true] at h
        obtain ⟨⟨⟨h1, h2⟩, h3⟩, h4⟩ := h
        have h1 : c = "tuple" := of_decide_eq_true h1
        subst h1
        have h3 : xs.length = its.toList.length := of_decide_eq_true h3
        have all : ∀ (ys : List PV) (us : List Value), ys.length = us.length → ((ys.zip us).all fun q => pvB K n q.1 q.2) = true → ∃ ws, Vals ws us ∧ ∀ ρ H, RelPs K ρ H ys ws := by
          intro ys
          induction ys with
          | nil =>
            intro us e _
            cases us with
            | nil => exact ⟨[], .nil, fun _ _ => .nil⟩
            | cons _ _ => cases e
          | cons y ys ih =>
            intro us e a
            cases us with
            | nil => cases e
            | cons u us =>
              rw [List.zip_cons_cons, List.all_cons, Bool.and_eq_true] at a
              obtain ⟨w, r1, r2⟩ := pvB_ok a.1
              obtain ⟨ws, s1, s2⟩ := ih us (by simpa using e) a.2
              exact ⟨w :: ws, .cons r1 s1, fun ρ H => .cons (r2 ρ H) (s2 ρ H)⟩
        obtain ⟨ws, s1, s2⟩ := all xs its.toList h3 h4
        exact ⟨.ref p, rfl, fun ρ H => .tup (.inr ⟨_, its, m, hk, rfl, rfl, of_decide_eq_true h2, s1⟩) (s2 ρ H)⟩
      · cases h
    · cases h
def clAt (T : Tab) (K : PySem.W.Frag) (c : Nat) : Addr := match T.cls[c]? with
  | some p => ga K p.1
  | none => 0
def txOf (T : Tab) (K : PySem.W.Frag) : Exc := ⟨T.cls.length, clAt T K, fun c => match T.cls[c]? with
  | some p => p.2.1
  | none => []⟩
def oVal (a : Option (Option Value)) (b : Option (Option Value)) : Bool := decide (a = b)
def freeB (K : PySem.W.Frag) (x : Str) : Bool := if x = "gcd" then oVal (PySem.W.nsIn K mainGlobals x) (some (some (.builtin "math.gcd"))) else oVal (PySem.W.nsIn K mainGlobals x) (some none)
def glbB (K : PySem.W.Frag) (p : Str × PV) : Bool := match PySem.W.nsIn K mainGlobals p.1 with
  | some (some u) => pvB K 20 p.2 u
  | _ => false
/-- a class that isinstance may be asked of -/
def supB (K : PySem.W.Frag) (A : Addr) (z : Str) : Bool := match PySem.W.nsIn K mainGlobals z with
  | some (some (.ref a)) => decide (PySem.W.kitOne K (.ref A) (.ref a) = some true)
  | some none => match bootBuiltins z with
    | some (.type t) => !decide (z = "__name__") && decide (PySem.W.kitOne K (.ref A) (.type t) = some true)
    | _ => false
  | _ => false
def excB (K : PySem.W.Frag) (p : Str × List Str × List Str) : Bool :=
  let A := ga K p.1
  oVal (PySem.W.nsIn K mainGlobals p.1) (some (some (.ref A))) && PySem.W.keepIn K (.ref A) && decide (PySem.W.subIn K (.ref A) (.type "BaseException") = some true) && decide (PySem.W.typeIn K (.ref A) = some (.type "type")) &&
  (!p.2.1.isEmpty || PySem.W.excIn K A [.type "ValueError", .type "Exception", .type "BaseException", .type "object"] "ValueError.__new__") &&
  oVal (PySem.W.findIn K (.ref A) "__getattribute__") (some (some (.builtin "BaseException.__getattribute__"))) && oVal (PySem.W.findIn K (.ref A) "__getattr__") (some none) && PySem.W.hasDictIn K A && (p.2.1.all fun f => oVal (PySem.W.findIn K (.ref A) f) (some none)) &&
  oVal (PySem.W.findIn K (.ref A) "__class__") (some (some (.builtin "object.__class__"))) && oVal (PySem.W.specialIn K (.builtin "object.__class__") "__get__") (some (some (.builtin "getset_descriptor.__get__"))) && decide (PySem.W.takesIn K (.builtin "object.__class__") = some true) &&
  decide (PySem.W.mroIn K A (.type "object") = some true) && (p.2.2.all fun z => supB K A z)
def headB (T : Tab) (K : PySem.W.Frag) : Bool :=
  (T.bi.all fun x => freeB K x) && (T.glb.all fun p => glbB K p) && (T.cls.all fun p => excB K p) &&
  ((List.range T.cls.length).all fun c => (List.range T.cls.length).all fun d => decide (PySem.W.exmOne K (.ref (clAt T K d)) (.ref (clAt T K c)) = some (decide (d = c))))
def defD (t : DefT) : DefD := ⟨(t.name, none), t.name, t.name, defArgs t.st, defBody t.st, defScope t.st, [], []⟩
def lookM (T : Tab) (D : List DefT) (K : PySem.W.Frag) : Bool × List FnW :=
  (headB T K && D.all fun t => oVal (PySem.W.nsIn K mainGlobals t.name) (some (some (.ref (ga K t.name)))) && (defD t).ok K, D.map fun t => fnW K (t.name, none))
def goodM (D : List DefT) : Bool × List FnW := (true, D.map fun t => (defD t).val)
def seenM (n : Nat) (T : Tab) (D : List DefT) (g : Addr → Option Obj) : Bool × List FnW := lookM T D (frG g (asD g n))
def hookM (n : Nat) (T : Tab) (D : List DefT) : PySem.W.Hook :=
  { α := Bool × List FnW, obs := (fun s => seenM n T D s.heap.get?), val := (fun _ => goodM D), says := (fun _ h => ∃ K : PySem.W.Frag, K.In h ∧ lookM T D K = goodM D),
    of := (fun _ _ e => ⟨_, frG_in, e⟩), keeps := (fun _ _ _ ⟨K, hK, e⟩ k => ⟨K, hK.keeps k, e⟩) }
theorem seenM_eq {n : Nat} {T : Tab} {D : List DefT} {g : Addr → Option Obj} {s : Shared} (h : ∀ a, g a = s.heap.get? a) : seenM n T D g = (hookM n T D).obs s := by
  have e : g = s.heap.get? := funext h
  rw [e]
  rfl
/-- how each def's arguments are bound -/
def BdT (t : DefT) : Prop := ∀ (kV doc pm : Value) (an : Option Addr) (cdv ct : Value) (us : List Value), us.length = t.ps.length → bindArgs (PySem.W.fnOf t.name t.name (defArgs t.st) (defBody t.st) (defScope t.st) .none kV doc pm an cdv ct) ⟨us, []⟩ = pure (t.ps.zip us)
inductive AllT (F : DefT → Prop) : List DefT → Prop
  | nil : AllT F []
  | cons {t : DefT} {D : List DefT} : F t → AllT F D → AllT F (t :: D)
theorem AllT.get {F : DefT → Prop} : ∀ {D : List DefT}, AllT F D → ∀ {i : Nat} {t : DefT}, D[i]? = some t → F t
  | _, .nil, _, _, e => by simp at e
  | _, .cons h _, 0, _, e => by simp at e; subst e; exact h
  | _, .cons _ hs, i + 1, _, e => hs.get (by simpa using e)
theorem glob_ok {T : Tab} {D : List DefT} {K : PySem.W.Frag} {mg : Str → Option Value} {h : Heap} (X : K.In h) (G : h.Ns mainGlobals mg) (hl : lookM T D K = goodM D) (hb : AllT BdT D) : GlobOk T (txOf T K) D K mg := by
  have h1 : (headB T K && D.all fun t => oVal (PySem.W.nsIn K mainGlobals t.name) (some (some (.ref (ga K t.name)))) && (defD t).ok K) = true := congrArg Prod.fst hl
  have h2 : (D.map fun t => fnW K (t.name, none)) = D.map fun t => (defD t).val := congrArg Prod.snd hl
  rw [Bool.and_eq_true] at h1
  obtain ⟨hd, hf⟩ := h1
  unfold headB at hd
  simp only [Bool.and_eq_true] at hd
  obtain ⟨⟨⟨d1, d2⟩, d3⟩, d4⟩ := hd
  have clA : ∀ {c : Nat} {p : Str × List Str × List Str}, T.cls[c]? = some p → clAt T K c = ga K p.1 := fun {c p} e => by unfold clAt; rw [e]
  have parts : ∀ {c : Nat} {p : Str × List Str × List Str}, T.cls[c]? = some p → excB K p = true := fun {c p} e => List.all_eq_true.mp d3 p (List.mem_of_getElem? e)
  refine ⟨fun x hx => ?_, fun p hp => ?_, rfl, fun c p e => ?_, fun c d hc hd => ?_, fun c p e => ?_, fun c => ⟨fun p e => ?_⟩, fun f t e => ?_⟩
  · have z := List.all_eq_true.mp d1 x (by simpa using hx)
    unfold freeB at z
    by_cases hg : x = "gcd"
    · rw [if_pos hg] at z
      exact ⟨fun _ => PySem.W.mg_of X G (of_decide_eq_true z), fun n => absurd hg n⟩
    · rw [if_neg hg] at z
      exact ⟨fun e => absurd e hg, fun _ => PySem.W.mg_none_of X G (of_decide_eq_true z)⟩
  · have z := List.all_eq_true.mp d2 p hp
    unfold glbB at z
    split at z
    · rename_i u hu
      obtain ⟨w, r, q⟩ := pvB_ok z
      exact ⟨w, u, PySem.W.mg_of X G hu, r, q⟩
    · cases z
  · have z := parts e
    unfold excB at z
    simp only [Bool.and_eq_true] at z
    obtain ⟨⟨⟨⟨⟨⟨⟨⟨⟨⟨⟨⟨⟨z1, z2⟩, z3⟩, z4⟩, z5⟩, z6⟩, z7⟩, z8⟩, z9⟩, z10⟩, z11⟩, z12⟩, z13⟩, z14⟩ := z
    show ExcK K mg (clAt T K c) p.1 p.2.1
    rw [clA e]
    refine ⟨PySem.W.mg_of X G (of_decide_eq_true z1), z2, of_decide_eq_true z3, of_decide_eq_true z4, fun h0 => ?_⟩
    rw [h0] at z5
    simpa using z5
  · have z := List.all_eq_true.mp (List.all_eq_true.mp d4 c (List.mem_range.mpr hc)) d (List.mem_range.mpr hd)
    exact of_decide_eq_true z
  · show (match T.cls[c]? with
      | some p => p.2.1
      | none => []) = p.2.1
    rw [e]
  · have z := parts e
    unfold excB at z
    simp only [Bool.and_eq_true] at z
    obtain ⟨⟨⟨⟨⟨⟨⟨⟨⟨⟨⟨⟨⟨z1, z2⟩, z3⟩, z4⟩, z5⟩, z6⟩, z7⟩, z8⟩, z9⟩, z10⟩, z11⟩, z12⟩, z13⟩, z14⟩ := z
    show (∀ f ∈ p.2.1, PySem.W.findIn K (.ref (clAt T K c)) "__getattribute__" = _ ∧ PySem.W.findIn K (.ref (clAt T K c)) "__getattr__" = _ ∧ PySem.W.subIn K (.ref (clAt T K c)) _ = _ ∧ PySem.W.hasDictIn K (clAt T K c) = _ ∧ PySem.W.findIn K (.ref (clAt T K c)) f = _) ∧
      (p.2.1 = [] → ExcC K (clAt T K c) ∧ ∀ z, p.2.2.contains z = true → ∃ (c' : V) (cv : Value), ((mg z = some cv) ∨ (mg z = none ∧ bootBuiltins z = some cv ∧ z ≠ "__name__")) ∧ RelV c' cv ∧ (∀ u, RelV c' u → u = cv) ∧ PySem.W.kitOne K (.ref (clAt T K c)) cv = some true)
    rw [clA e]
    refine ⟨fun f hf => ⟨of_decide_eq_true z6, of_decide_eq_true z7, of_decide_eq_true z3, z8, of_decide_eq_true (List.all_eq_true.mp z9 f hf)⟩, fun h0 => ⟨⟨of_decide_eq_true z6, of_decide_eq_true z7, of_decide_eq_true z3, z8, of_decide_eq_true z10, of_decide_eq_true z11, of_decide_eq_true z12, of_decide_eq_true z13⟩, fun z hz => ?_⟩⟩
    have y := List.all_eq_true.mp z14 z (by simpa using hz)
    unfold supB at y
    split at y
    · rename_i a ha
      exact ⟨.ref a, .ref a, .inl (PySem.W.mg_of X G ha), rfl, fun u r => r, of_decide_eq_true y⟩
    · rename_i ha
      split at y
      · rename_i t ht
        have y' := Bool.and_eq_true_iff.mp y
        exact ⟨.ty t, .type t, .inr ⟨PySem.W.mg_none_of X G ha, ht, by simpa using y'.1⟩, rfl, fun u r => r, of_decide_eq_true y'.2⟩
      · cases y
    · cases y
  · have z := List.all_eq_true.mp hf t (List.mem_of_getElem? e)
    rw [Bool.and_eq_true] at z
    have ev : fnW K (t.name, none) = (defD t).val := by
      have e2 : (D.map fun t => fnW K (t.name, none))[f]? = (D.map fun t => (defD t).val)[f]? := by rw [h2]
      rw [List.getElem?_map, List.getElem?_map, e] at e2
      exact Option.some.inj e2
    obtain ⟨fd, F⟩ := DefD.funD (d := defD t) ev z.2
    have b := hb.get e
    have F' : FunD K t.name t.name (defArgs t.st) (defBody t.st) (defScope t.st) [] [] (ga K t.name) fd := F
    exact ⟨ga K t.name, fd, PySem.W.mg_of X G (of_decide_eq_true z.1), F.kp, F'.bindsN b, fun s us hl => F'.bindsA b s us hl, F'⟩
/-- the end of a law: MP's run of it gives True -/
theorem law_walk {l : PySem.W.OpenLaw} {q : Program} {loose : List Str} {XP : (Str → Option Value) → Heap → Prop} {d : DefRec} {T : Tab} {D : List DefT} {n li dd : Nat} {tl : DefT} (hmost : l.most = some 63) (hdf : d.params.defaults = []) (hr : Room dd callerA) (hT : T.ok = true) (hD : (D.all fun t => t.look T) = true)
    (hn : T.fns = D.map (·.name)) (hb : AllT BdT D) (hli : D[li]? = some tl) (hps : tl.ps = [("script" : Str)]) (hname : d.name = tl.name) (main : ∀ ns : List Int, ns.length ≤ 63 → ∃ S', callN (D.map (·.fd)) dd li [.ref 0] ⟨[.ro (ns.map .int)], false⟩ = .ok (.bl true) S') :
    PySem.W.WalkO q loose XP (hookM n T D).says l.row.toRowW d [] (fun f vs => PySem.call f vs) := by
  refine Att.attach_call hmost hdf fun w s₀ s₁ mg mb fa o pm cd doc a vs ns G Y ho hd hcd hmg hobj hints hlen hg => ?_
  obtain ⟨K, KX, hl⟩ := Y
  have GO : GlobOk T (txOf T K) D K mg := glob_ok KX G.T.g hl hb
  have GO2 : ∃ fdata, (∀ (s : Shared) (us : List Value), us.length = tl.ps.length → BindsTo s fdata ⟨us, []⟩ (tl.ps.zip us)) ∧ ∀ base : Heap, FnOk l.prog w K mg base (L2.CX l.prog w) dd fa fdata tl.ps (spF K (txOf T K) D dd li) := by
    obtain ⟨fa1, fd1, a1, _, _, a4, F1⟩ := GO.fns li tl hli
    obtain ⟨_, _, _, lk1⟩ := F1.lk
    refine ⟨fd1, a4, fun base => ?_⟩
    obtain ⟨fa2, fd2, b1, _, _, _, F2, _, _, _, lk2⟩ := fn_all (P := l.prog) (w := w) (base := base) hT hD hn GO dd li tl hli
    rw [hname] at hmg
    cases hmg.symm.trans a1
    cases hmg.symm.trans b1
    rw [lk1] at lk2
    cases lk2
    exact F2
  obtain ⟨fdata, hbd, hF⟩ := GO2
  refine law_call (k := dd) (fd := fdata) (x := "script") (CX := L2.CX l.prog w) (sp := spF K (txOf T K) D dd li) KX G.T.g G.T.b G.T.builtins G.T.nolimit hg hobj hints (Nat.le_trans hlen (by decide)) hr (fun base _ _ => ?_) (fun s u => ?_) (fun H hO hS => ?_) fun H e s' z => ?_
  · rw [← hps]
    exact hF base
  · have z := hbd s [u] (by rw [hps]; rfl)
    rw [hps] at z
    exact z
  · obtain ⟨S', hS'⟩ := main ns hlen
    have ro : RoL K H a (ns.map V.int) := by
      rcases hS with h | h
      · rcases h with h | h
        · rcases hO a with z | ⟨o, xs, z⟩
          · rw [h] at z; cases z
          · rw [h] at z; cases z
        · exact .inl h
      · exact .inr h
    have isI : ∀ ms : List Int, RelPs K [a] H (ms.map PV.int) (ms.map V.int) := fun ms => by
      induction ms with
      | nil => exact .nil
      | cons m ms ih => exact .cons (.int m) ih
    refine ⟨[a], ⟨[.ro (ns.map .int)], false⟩, [.ref 0], ⟨rfl, fun k c b q e => ?_, fun j k b c e e1 e2 q1 q2 n1 n2 => ?_, Nat.le_refl _⟩, .cons (.ref rfl) .nil, ?_⟩
    · match k, q, e with
      | 0, q, e =>
        cases q; cases e
        exact ⟨_, isI ns, ro⟩
      | k + 1, q, e => cases q
    · match j, q1 with
      | 0, q1 => cases q1; cases n1
      | j + 1, q1 => cases q1
    · rw [hS']
      intro ρ' H' v g so r
      exact r.of_bl
  · obtain ⟨_, _, _, _, _, _, _, _, _, _, _, _, z⟩ := z
    exact z
end MP
end
section
set_option Elab.async false
set_option linter.all false
set_option maxRecDepth 100000
/-! MPTool: how MP's runs are computed; sizes of numbers; lowest terms. -/
namespace MP
theorem callN_of {F : List FDef} {d i : Nat} {fd : FDef} {args : List PV} {S : Sto} (h : F[i]? = some fd) (hl : args.length = fd.np) : callN F (d + 1) i args S = runF (callN F d) fd args S := by
  rw [callN, h]
  exact if_pos hl
theorem fin_pure {S : Sto} {v : PV} {cs : List Cell} (h : v.pure = true) : fin S v ⟨cs, false⟩ = .ok v ⟨cs.take S.cells.length, S.dirty⟩ := by
  unfold fin
  rw [h]
  rfl
theorem fin_same {S : Sto} {v : PV} (h : v.pure = true) : fin S v ⟨S.cells, false⟩ = .ok v S := by
  rw [fin_pure h, List.take_length]
theorem fin_ref {S : Sto} {k : Nat} {cs : List Cell} : fin S (.ref k) ⟨cs, false⟩ = .ok (.ref k) ⟨cs, S.dirty⟩ := by
  unfold fin
  show R.ok _ (⟨cs, S.dirty || false⟩ : Sto) = _
  rw [Bool.or_false]
section
variable {α β : Type} {C : Nat → List PV → Sto → R PV} {b : Nat}
theorem bd_ok {a : α} {S : Sto} {f : α → Sto → R β} : (R.ok a S).bd f = f a S := by simp only [R.bd]
theorem bd_exc {c : Nat} {as : List PV} {S : Sto} {f : α → Sto → R β} : (R.exc c as S).bd f = .exc c as S := by simp only [R.bd]
theorem st_ok {a : α} {S : Sto} {σ : Env} {f : α → Sto → RS} : (R.ok a S).st σ f = f a S := by simp only [R.st]
theorem st_exc {c : Nat} {as : List PV} {S : Sto} {σ : Env} {f : α → Sto → RS} : (R.exc c as S).st σ f = .exc c as σ S := by simp only [R.st]
theorem xss_cons {s : St} {ss : Ss} {σ : Env} {S : Sto} : xss C b (.cons s ss) σ S = (xst C b s σ S).seq (xss C b ss) := by
  rw [xss]
  unfold RS.seq
  cases xst C b s σ S <;> rfl
theorem xss_nil {σ : Env} {S : Sto} : xss C b .nil σ S = .next σ S := by rw [xss]
theorem seq_next {σ : Env} {S : Sto} {f : Env → Sto → RS} : (RS.next σ S).seq f = f σ S := by simp only [RS.seq]
theorem seq_ret {v : PV} {S : Sto} {f : Env → Sto → RS} : (RS.ret v S).seq f = .ret v S := by simp only [RS.seq]
theorem seq_brk {σ : Env} {S : Sto} {f : Env → Sto → RS} : (RS.brk σ S).seq f = .brk σ S := by simp only [RS.seq]
theorem seq_cont {σ : Env} {S : Sto} {f : Env → Sto → RS} : (RS.cont σ S).seq f = .cont σ S := by simp only [RS.seq]
theorem seq_exc {c : Nat} {as : List PV} {σ : Env} {S : Sto} {f : Env → Sto → RS} : (RS.exc c as σ S).seq f = .exc c as σ S := by simp only [RS.seq]
theorem eqV_int {S : Sto} {i j : Int} : eqV S (.int i) (.int j) = some (decide (i = j)) := by
  unfold eqV
  simp only [toDS, PV.toD]
  have z : ∀ i : Int, shaped (.int i) = true := fun _ => rfl
  rw [z, z]
  show some ((PySem.PyData.int i).eqv (.int j)) = _
  congr 1
theorem eqV_pr {S : Sto} {i j k l : Int} : eqV S (.tup [.int i, .int j]) (.tup [.int k, .int l]) = some (decide (i = k) && decide (j = l)) := by
  unfold eqV
  simp only [toDS, PV.toD, PV.toDs, Option.map]
  have z : ∀ i j : Int, shaped (.tuple [.int i, .int j]) = true := fun _ _ => rfl
  rw [z, z]
  show some ((PySem.PyData.tuple [.int i, .int j]).eqv (.tuple [.int k, .int l])) = _
  congr 1
  rw [PySem.PyData.eqv, PySem.PyData.eqvAll, PySem.PyData.eqvAll, PySem.PyData.eqvAll]
  simp [PySem.PyData.eqv]
  rfl
/-- a for that never stops early keeps what each turn keeps -/
theorem for_inv {g : Sto → Bool} {bind : PV → Env → Option Env} {body : Env → Sto → RS} {P : Nat → Env → Sto → Prop} (hg : ∀ i σ S, P i σ S → g S = true) : ∀ (xs : List PV) (i : Nat) (σ : Env) (S : Sto), P i σ S →
    (∀ j x σ S, xs[j]? = some x → P (i + j) σ S → ∃ σ1 σ2 S2, bind x σ = some σ1 ∧ body σ1 S = .next σ2 S2 ∧ P (i + j + 1) σ2 S2) → ∃ σ' S', forLoop g bind body xs σ S = .next σ' S' ∧ P (i + xs.length) σ' S'
  | [], i, σ, S, h, _ => ⟨σ, S, by unfold forLoop; rw [if_pos (hg _ _ _ h)], h⟩
  | x :: xs, i, σ, S, h, st => by
    obtain ⟨σ1, σ2, S2, e1, e2, h2⟩ := st 0 x σ S rfl h
    obtain ⟨σ', S', e3, h3⟩ := for_inv hg xs (i + 1) σ2 S2 h2 fun j y σ S hj hP => by
      have e : i + 1 + j = i + (j + 1) := by omega
      rw [e] at hP ⊢
      exact st (j + 1) y σ S hj hP
    refine ⟨σ', S', ?_, ?_⟩
    · unfold forLoop
      rw [if_pos (hg _ _ _ h), e1]
      show (match body σ1 S with
        | .next σ2 S2 => forLoop g bind body xs σ2 S2
        | .cont σ2 S2 => forLoop g bind body xs σ2 S2
        | .brk σ2 S2 => .next σ2 S2
        | r => r) = _
      rw [e2]
      exact e3
    · have e : i + (x :: xs).length = i + 1 + xs.length := by rw [List.length_cons]; omega
      rw [e]
      exact h3
theorem evi_rng1 {e : E} {σ : Env} {S S1 : Sto} {n : Int} (h : ev C e σ S = .ok (.int n) S1) (hs : small n = true) : evi C (.rng1 e) σ S = .ok (rngL 0 n.toNat, []) S1 := by
  rw [evi, h]
  show (if small n = true then R.ok (rngL 0 n.toNat, []) S1 else .bad) = _
  rw [if_pos hs]
theorem xst_for {t : Tg} {it : It} {p : Ss} {σ : Env} {S S1 : Sto} {w : Walk} (h : evi C it σ S = .ok w S1) : xst C b (.fors t it p) σ S = forLoop (fun S => stands S w.2) (bindT t) (xss C b p) w.1 σ S1 := by
  rw [xst, h]
  rfl
theorem xss_step {s : St} {ss : Ss} {σ σ' : Env} {S S' : Sto} (h : xst C b s σ S = .next σ' S') : xss C b (.cons s ss) σ S = xss C b ss σ' S' := by
  rw [xss_cons, h]
  rfl
theorem xss_ret {s : St} {ss : Ss} {σ σ' : Env} {S S' : Sto} {v : PV} (h : xst C b s σ S = .next σ' S') (g : ∃ S2, xss C b ss σ' S' = .ret v S2) : ∃ S2, xss C b (.cons s ss) σ S = .ret v S2 := by
  rw [xss_step h]
  exact g
theorem xss_same {s : St} {ss : Ss} {σ : Env} {S : Sto} {v : PV} (h : xst C b s σ S = .next σ S) (g : ∃ S2, xss C b ss σ S = .ret v S2) : ∃ S2, xss C b (.cons s ss) σ S = .ret v S2 := xss_ret h g
/-- a for over a range that keeps what each turn keeps -/
theorem for_rng {t : Tg} {e : E} {p : Ss} {σ : Env} {S : Sto} {n : Nat} {P : Nat → Env → Sto → Prop} (h : ev C e σ S = .ok (.int n) S) (hn : n < 1000000) (h0 : P 0 σ S)
    (st : ∀ j σ S, j < n → P j σ S → ∃ σ1 σ2 S2, bindT t (.int j) σ = some σ1 ∧ xss C b p σ1 S = .next σ2 S2 ∧ P (j + 1) σ2 S2) : ∃ σ' S', xst C b (.fors t (.rng1 e) p) σ S = .next σ' S' ∧ P n σ' S' := by
  have sm : small (n : Int) = true := by
    unfold small
    have h1 : -(2 ^ 62 : Int) ≤ n := by omega
    have h2 : (n : Int) < 2 ^ 62 := by omega
    simp only [h1, h2, decide_true, Bool.and_self]
  obtain ⟨σ', S', e1, h1⟩ := for_inv (g := fun S => stands S []) (bind := bindT t) (body := xss C b p) (fun _ _ _ _ => rfl) (rngL 0 n) 0 σ S h0 fun j x σ S hj hP => by
    have z : x = .int (0 + (j : Int)) ∧ j < n := by
      unfold rngL at hj
      rw [List.getElem?_map] at hj
      by_cases q : j < n
      · rw [List.getElem?_range q] at hj
        exact ⟨(Option.some.inj hj).symm, q⟩
      · rw [List.getElem?_eq_none (by simpa using q)] at hj
        cases hj
    rw [Int.zero_add] at z
    obtain ⟨rfl, hj2⟩ := z
    rw [Nat.zero_add] at hP ⊢
    exact st j σ S hj2 hP
  refine ⟨σ', S', ?_, ?_⟩
  · rw [xst_for (evi_rng1 h sm)]
    exact e1
  · have z : 0 + (rngL 0 n).length = n := by simp [rngL]
    rw [z] at h1
    exact h1
theorem rngL_len {a : Int} {n : Nat} : (rngL a n).length = n := by simp [rngL]
theorem rngL_get {a : Int} {n j : Nat} {x : PV} (h : (rngL a n)[j]? = some x) : x = .int (a + j) ∧ j < n := by
  unfold rngL at h
  rw [List.getElem?_map] at h
  by_cases hj : j < n
  · rw [List.getElem?_range hj] at h
    exact ⟨(Option.some.inj h).symm, hj⟩
  · rw [List.getElem?_eq_none (by simpa using hj)] at h
    cases h
/-- a def that leaves the store alone -/
theorem run_ret {fd : FDef} {args : List PV} {S : Sto} {v : PV} (h : xss C S.cells.length fd.body (args.map some ++ List.replicate (fd.nn - fd.np) none) ⟨S.cells, false⟩ = .ret v ⟨S.cells, false⟩) (p : v.pure = true) : runF C fd args S = .ok v S := by
  unfold runF
  rw [h]
  exact fin_same p
theorem run_retT {fd : FDef} {args : List PV} {S : Sto} {v : PV} {cs : List Cell} (h : xss C S.cells.length fd.body (args.map some ++ List.replicate (fd.nn - fd.np) none) ⟨S.cells, false⟩ = .ret v ⟨cs, false⟩) (p : v.pure = true) : runF C fd args S = .ok v ⟨cs.take S.cells.length, S.dirty⟩ := by
  unfold runF
  rw [h]
  exact fin_pure p
theorem run_main {fd : FDef} {args : List PV} {S S' : Sto} {v : PV} (h : xss C S.cells.length fd.body (args.map some ++ List.replicate (fd.nn - fd.np) none) ⟨S.cells, false⟩ = .ret v S') : ∃ S', runF C fd args S = .ok v S' := by
  unfold runF
  rw [h]
  show ∃ S'', fin S v S' = _
  unfold fin
  split
  · exact ⟨_, rfl⟩
  · exact ⟨_, rfl⟩
theorem run_exc {fd : FDef} {args : List PV} {S : Sto} {c : Nat} {as : List PV} {σ : Env} (h : xss C S.cells.length fd.body (args.map some ++ List.replicate (fd.nn - fd.np) none) ⟨S.cells, false⟩ = .exc c as σ ⟨S.cells, false⟩) (p : PV.pures as = true) : runF C fd args S = .exc c as S := by
  unfold runF
  rw [h]
  show (if (PV.pures as && !false) = true then R.exc c as ⟨S.cells.take S.cells.length, S.dirty⟩ else .bad) = _
  rw [p, List.take_length]
  rfl
end
/-! ### sizes -/
def sz (k : Nat) (a : Int) : Prop := a.natAbs < 2 ^ k
theorem sz.mono {j k : Nat} {a : Int} (h : sz j a) (l : j ≤ k) : sz k a := Nat.lt_of_lt_of_le h (Nat.pow_le_pow_right (by decide) l)
theorem sz.neg {k : Nat} {a : Int} (h : sz k a) : sz k (-a) := by unfold sz; rw [Int.natAbs_neg]; exact h
theorem sz.mul {j k : Nat} {a b : Int} (h : sz j a) (h' : sz k b) : sz (j + k) (a * b) := by
  unfold sz at *
  rw [Int.natAbs_mul, Nat.pow_add]
  exact Nat.mul_lt_mul'' h h'
theorem sz.add {k : Nat} {a b : Int} (h : sz k a) (h' : sz k b) : sz (k + 1) (a + b) := by
  unfold sz at *
  have z := Int.natAbs_add_le a b
  rw [Nat.pow_succ]
  omega
theorem sz.sub {k : Nat} {a b : Int} (h : sz k a) (h' : sz k b) : sz (k + 1) (a - b) := by
  rw [Int.sub_eq_add_neg]
  exact h.add h'.neg
theorem sz.fdiv {k : Nat} {a b : Int} (h : sz k a) : sz k (a.fdiv b) ∨ b = 0 := by
  by_cases hb : b = 0
  · exact .inr hb
  left
  unfold sz at *
  rcases Int.lt_or_gt_of_ne hb with hb | hb
  · have : (a.fdiv b).natAbs ≤ a.natAbs := by
      rw [← Int.neg_fdiv_neg, Int.fdiv_eq_ediv_of_nonneg _ (by omega)]
      have z := Int.natAbs_ediv_le_natAbs (-a) (-b)
      rw [Int.natAbs_neg] at z
      exact z
    omega
  · have : (a.fdiv b).natAbs ≤ a.natAbs := by
      rw [Int.fdiv_eq_ediv_of_nonneg _ (by omega)]
      exact Int.natAbs_ediv_le_natAbs a b
    omega
theorem sz.log {k : Nat} {a : Int} (h : sz k a) : a.natAbs.log2 ≤ k := by
  by_cases h0 : a.natAbs = 0
  · rw [h0]; exact Nat.zero_le k
  · exact Nat.le_of_lt ((Nat.log2_lt h0).mpr h)
theorem mulOk_of {j k : Nat} {a b : Int} (h : sz j a) (h' : sz k b) (l : j + k + 2 ≤ 134217728) : mulOk a b = true := by
  have h1 := h.log
  have h2 := h'.log
  have : a.natAbs.log2 + b.natAbs.log2 + 2 ≤ 134217728 := by omega
  simp [mulOk, this]
theorem mulOk_l {a b : Int} (h : sz 64 a) : mulOk a b = true := by
  have h : a.natAbs < 2 ^ 64 := h
  unfold mulOk
  rw [decide_eq_true h]
  rfl
theorem mulOk_r {a b : Int} (h : sz 64 b) : mulOk a b = true := by
  have h : b.natAbs < 2 ^ 64 := h
  unfold mulOk
  rw [decide_eq_true h, Bool.or_true]
  rfl
theorem divOk_of {k : Nat} {b : Int} (h : sz k b) (l : k < 9000) (h0 : b ≠ 0) : divOk b = true := by
  have h1 := h.log
  have : b.natAbs.log2 < 9000 := by omega
  simp [divOk, this, h0]
/-! ### lowest terms -/
def mkG (t b : Int) : Int := ((Nat.gcd t.natAbs b.natAbs : Nat) : Int)
def mkT (t b : Int) : Int := (if b < 0 then -t else t).fdiv (mkG t b)
def mkB (t b : Int) : Int := (if b < 0 then -b else b).fdiv (mkG t b)
theorem mkG_pos {t b : Int} (h : b ≠ 0) : 0 < mkG t b := by
  unfold mkG
  have : 0 < Nat.gcd t.natAbs b.natAbs := Nat.gcd_pos_of_pos_right _ (by omega)
  omega
theorem mkG_dl (t b : Int) : mkG t b ∣ t := by
  unfold mkG
  exact Int.ofNat_dvd_left.mpr (Nat.gcd_dvd_left _ _)
theorem mkG_dr (t b : Int) : mkG t b ∣ b := by
  unfold mkG
  exact Int.ofNat_dvd_left.mpr (Nat.gcd_dvd_right _ _)
/-- what make promises -/
theorem mk_ok {t b : Int} (h : b ≠ 0) : ∃ s : Int, s ≠ 0 ∧ t = mkT t b * s ∧ b = mkB t b * s ∧ 0 < mkB t b ∧ Nat.gcd (mkT t b).natAbs (mkB t b).natAbs = 1 ∧ s.natAbs = Nat.gcd t.natAbs b.natAbs := by
  have gp := mkG_pos (t := t) h
  obtain ⟨x, hx⟩ := mkG_dl t b
  obtain ⟨y, hy⟩ := mkG_dr t b
  have gn : mkG t b ≠ 0 := by omega
  have co : Nat.gcd x.natAbs y.natAbs = 1 := by
    have e : Nat.gcd t.natAbs b.natAbs = (mkG t b).natAbs * Nat.gcd x.natAbs y.natAbs := by
      rw [← Nat.gcd_mul_left, ← Int.natAbs_mul, ← Int.natAbs_mul, ← hx, ← hy]
    have e2 : (mkG t b).natAbs = Nat.gcd t.natAbs b.natAbs := by unfold mkG; rfl
    rw [e2] at e
    have p : 0 < Nat.gcd t.natAbs b.natAbs := Nat.gcd_pos_of_pos_right _ (by omega)
    exact Nat.eq_of_mul_eq_mul_left p (by omega)
  have sg : (mkG t b).natAbs = Nat.gcd t.natAbs b.natAbs := by unfold mkG; rfl
  by_cases hb : b < 0
  · have et : mkT t b = -x := by
      unfold mkT
      rw [if_pos hb]
      refine Int.fdiv_eq_of_eq_mul_left gn ?_
      rw [Int.neg_mul, Int.mul_comm x, ← hx]
    have eb : mkB t b = -y := by
      unfold mkB
      rw [if_pos hb]
      refine Int.fdiv_eq_of_eq_mul_left gn ?_
      rw [Int.neg_mul, Int.mul_comm y, ← hy]
    refine ⟨-mkG t b, by omega, ?_, ?_, ?_, ?_, ?_⟩
    · rw [et, Int.neg_mul_neg, Int.mul_comm x]; exact hx
    · rw [eb, Int.neg_mul_neg, Int.mul_comm y]; exact hy
    · rw [eb]
      have : y < 0 := by
        rcases Int.lt_or_le y 0 with q | q
        · exact q
        · have : 0 ≤ mkG t b * y := Int.mul_nonneg (by omega) q
          omega
      omega
    · rw [et, eb, Int.natAbs_neg, Int.natAbs_neg]; exact co
    · rw [Int.natAbs_neg]; exact sg
  · have et : mkT t b = x := by
      unfold mkT
      rw [if_neg hb]
      refine Int.fdiv_eq_of_eq_mul_left gn ?_
      rw [Int.mul_comm x, ← hx]
    have eb : mkB t b = y := by
      unfold mkB
      rw [if_neg hb]
      refine Int.fdiv_eq_of_eq_mul_left gn ?_
      rw [Int.mul_comm y, ← hy]
    refine ⟨mkG t b, by omega, ?_, ?_, ?_, ?_, ?_⟩
    · rw [et, Int.mul_comm x]; exact hx
    · rw [eb, Int.mul_comm y]; exact hy
    · rw [eb]
      have : 0 < y := by
        rcases Int.lt_or_le 0 y with q | q
        · exact q
        · have : mkG t b * y ≤ 0 := Int.mul_nonpos_of_nonneg_of_nonpos (by omega) q
          omega
      exact this
    · rw [et, eb]; exact co
    · exact sg
theorem mkT_sz {k : Nat} {t b : Int} (h : sz k t) (hb : b ≠ 0) : sz k (mkT t b) := by
  have gp := mkG_pos (t := t) hb
  unfold mkT
  split
  · exact h.neg.fdiv.resolve_right (by omega)
  · exact h.fdiv.resolve_right (by omega)
theorem mkB_sz {k : Nat} {t b : Int} (h : sz k b) (hb : b ≠ 0) : sz k (mkB t b) := by
  have gp := mkG_pos (t := t) hb
  unfold mkB
  split
  · exact h.neg.fdiv.resolve_right (by omega)
  · exact h.fdiv.resolve_right (by omega)
theorem mkB_pos {t b : Int} (hb : b ≠ 0) : 0 < mkB t b := (mk_ok hb).choose_spec.2.2.2.1
theorem mk_cross {t b : Int} (hb : b ≠ 0) : mkT t b * b = t * mkB t b := by
  obtain ⟨s, _, e1, e2, _⟩ := mk_ok (t := t) hb
  have z : mkT t b * (mkB t b * s) = (mkT t b * s) * mkB t b := by
    rw [← Int.mul_assoc, Int.mul_assoc, Int.mul_comm (mkB t b) s, ← Int.mul_assoc]
  rw [← e1, ← e2] at z
  exact z
theorem mk_gcd {t b : Int} (hb : b ≠ 0) : Nat.gcd (mkT t b).natAbs (mkB t b).natAbs = 1 := (mk_ok hb).choose_spec.2.2.2.2.1
/-- what is in lowest terms is told by its ratio -/
theorem mk_cross2 {t b T B : Int} (hb : b ≠ 0) (h : t * B = T * b) : mkT t b * B = T * mkB t b := by
  have c := mk_cross (t := t) hb
  have e : b * (mkT t b * B) = b * (T * mkB t b) := by
    calc b * (mkT t b * B) = (mkT t b * b) * B := by rw [← Int.mul_assoc, Int.mul_comm b]
      _ = t * mkB t b * B := by rw [c]
      _ = (t * B) * mkB t b := by rw [Int.mul_assoc, Int.mul_comm (mkB t b), ← Int.mul_assoc]
      _ = T * b * mkB t b := by rw [h]
      _ = b * (T * mkB t b) := by rw [Int.mul_comm T, Int.mul_assoc]
  exact Int.eq_of_mul_eq_mul_left hb e
/-- v is the ratio T to B in lowest terms -/
abbrev pr (t b : Int) : PV := .tup [.int t, .int b]
def Q (v : PV) (T B : Int) (k : Nat) : Prop := ∃ t b, v = pr t b ∧ 0 < b ∧ Nat.gcd t.natAbs b.natAbs = 1 ∧ t * B = T * b ∧ sz k t ∧ sz k b
theorem Q.mk {t b T B : Int} {k : Nat} (hb : b ≠ 0) (h : t * B = T * b) (ht : sz k t) (hz : sz k b) : Q (pr (mkT t b) (mkB t b)) T B k :=
  ⟨_, _, rfl, mkB_pos hb, mk_gcd hb, mk_cross2 hb h, mkT_sz ht hb, mkB_sz hz hb⟩
theorem sz.pow {k : Nat} {t : Int} (h : sz k t) : ∀ n : Nat, sz (1 + k * n) (t ^ n)
  | 0 => by rw [Nat.mul_zero, Int.pow_zero]; unfold sz; decide
  | n + 1 => by
    have z := (sz.pow h n).mul h
    rw [Int.pow_succ, Nat.mul_succ, ← Nat.add_assoc]
    exact z
theorem same_terms {a b c d : Int} (hb : 0 < b) (hd : 0 < d) (g1 : Nat.gcd a.natAbs b.natAbs = 1) (g2 : Nat.gcd c.natAbs d.natAbs = 1) (h : a * d = c * b) : a = c ∧ b = d := by
  have hn : a.natAbs * d.natAbs = c.natAbs * b.natAbs := by rw [← Int.natAbs_mul, ← Int.natAbs_mul, h]
  have d1 : b.natAbs ∣ d.natAbs := by
    have z : b.natAbs ∣ a.natAbs * d.natAbs := hn ▸ Nat.dvd_mul_left _ _
    exact (Nat.Coprime.symm g1).dvd_of_dvd_mul_left z
  have d2 : d.natAbs ∣ b.natAbs := by
    have z : d.natAbs ∣ c.natAbs * b.natAbs := hn ▸ Nat.dvd_mul_left _ _
    exact (Nat.Coprime.symm g2).dvd_of_dvd_mul_left z
  have e : b.natAbs = d.natAbs := Nat.dvd_antisymm d1 d2
  have e2 : b = d := by omega
  subst e2
  exact ⟨Int.eq_of_mul_eq_mul_right (by omega) h, rfl⟩
/-! ### Euclid's steps -/
def fibP : Nat → Nat × Nat
  | 0 => (0, 1)
  | n + 1 => ((fibP n).2, (fibP n).1 + (fibP n).2)
/-- one turn: over at 0 -/
def euc : Nat → Nat → Nat → Option (Nat × Nat)
  | 0, a, b => if b = 0 then some (a, b) else none
  | n + 1, a, b => if b = 0 then some (a, b) else euc n b (a % b)
theorem euc_fib : ∀ (n a b : Nat), b < a → euc n a b = none → (fibP (n + 1)).1 ≤ b ∧ (fibP (n + 2)).1 ≤ a
  | 0, a, b, h, e => by
    unfold euc at e
    split at e
    · cases e
    · rename_i hb
      refine ⟨?_, ?_⟩ <;> simp [fibP] <;> omega
  | n + 1, a, b, h, e => by
    unfold euc at e
    split at e
    · cases e
    · rename_i hb
      obtain ⟨h1, h2⟩ := euc_fib n b (a % b) (Nat.mod_lt _ (by omega)) e
      refine ⟨h2, ?_⟩
      have q : b + a % b ≤ a := by
        have z := Nat.div_add_mod a b
        have w : 1 ≤ a / b := (Nat.one_le_div_iff (by omega)).mpr (by omega)
        have w2 : b * 1 ≤ b * (a / b) := Nat.mul_le_mul_left b w
        omega
      have f : (fibP (n + 3)).1 = (fibP (n + 1)).1 + (fibP (n + 2)).1 := rfl
      show (fibP (n + 3)).1 ≤ a
      omega
theorem euc_gcd : ∀ (n a b : Nat) (r : Nat × Nat), euc n a b = some r → r = (Nat.gcd a b, 0)
  | 0, a, b, r, e => by
    unfold euc at e
    split at e
    · rename_i h; subst h; cases e; simp
    · cases e
  | n + 1, a, b, r, e => by
    unfold euc at e
    split at e
    · rename_i h; subst h; cases e; simp
    · rename_i h
      rw [euc_gcd n b (a % b) r e, Nat.gcd_comm b (a % b), ← Nat.gcd_rec, Nat.gcd_comm]
theorem euc_of {n a b : Nat} (h : b < (fibP (n + 2)).1) : euc (n + 1) a b = some (Nat.gcd a b, 0) := by
  cases e : euc (n + 1) a b with
  | some r => rw [euc_gcd _ _ _ _ e]
  | none =>
    unfold euc at e
    split at e
    · cases e
    · rename_i hb
      obtain ⟨_, h2⟩ := euc_fib n b (a % b) (Nat.mod_lt _ (by omega)) e
      omega
/-- the law's own Euclid: slots 3 and 4 -/
theorem euc_loop {bind : PV → Env → Option Env} {body : Env → Sto → RS} {g : Sto → Bool} {S : Sto} {mk : Nat → Nat → Option PV → Env} (hg : g S = true) (hb : ∀ x a b k, ∃ k', bind x (mk a b k) = some (mk a b k')) (h0 : ∀ a k, body (mk a 0 k) S = .brk (mk a 0 k) S) (h1 : ∀ a b k, b ≠ 0 → body (mk a b k) S = .next (mk b (a % b) k) S) :
    ∀ (xs : List PV) (a b : Nat) (k : Option PV) (r : Nat × Nat), euc xs.length a b = some r → ∃ k', forLoop g bind body xs (mk a b k) S = .next (mk r.1 r.2 k') S
  | [], a, b, k, r, e => by
    unfold forLoop
    rw [if_pos hg]
    change euc 0 a b = some r at e
    unfold euc at e
    split at e
    · cases e; exact ⟨k, rfl⟩
    · cases e
  | x :: xs, a, b, k, r, e => by
    unfold forLoop
    rw [if_pos hg]
    obtain ⟨k', e1⟩ := hb x a b k
    rw [e1]
    change euc (xs.length + 1) a b = some r at e
    unfold euc at e
    split at e
    · rename_i hb0
      subst hb0
      cases e
      refine ⟨k', ?_⟩
      show (match body (mk a 0 k') S with
        | .next σ2 S2 => forLoop g bind body xs σ2 S2
        | .cont σ2 S2 => forLoop g bind body xs σ2 S2
        | .brk σ2 S2 => .next σ2 S2
        | r => r) = _
      rw [h0]
    · rename_i hb0
      obtain ⟨k2, e2⟩ := euc_loop hg hb h0 h1 xs b (a % b) k' r e
      refine ⟨k2, ?_⟩
      show (match body (mk a b k') S with
        | .next σ2 S2 => forLoop g bind body xs σ2 S2
        | .cont σ2 S2 => forLoop g bind body xs σ2 S2
        | .brk σ2 S2 => .next σ2 S2
        | r => r) = _
      rw [h1 _ _ _ hb0]
      exact e2
theorem fib701 : 2 ^ 480 ≤ (fibP 701).1 := by decide +kernel
/-! ### the law's draws -/
/-- the store with the draws' state -/
def G (ns : List Int) (a i c : Int) (tl : List Cell) : Sto := ⟨.ro (ns.map .int) :: .lst (ns.map .int) :: .lst [.int a, .ref 1, .int i, .int c] :: tl, false⟩
end MP
end
section
set_option Elab.async false
set_option linter.all false
set_option maxRecDepth 100000
/-! MPRat: pairs in lowest terms are Lean's rational numbers. -/
namespace MP
/-- the value of a number in lowest terms -/
def fr (q : Rat) : PV := pr q.num q.den
theorem fr_zero : PV.tup [.int 0, .int 1] = fr 0 := rfl
theorem fr_one : PV.tup [.int 1, .int 1] = fr 1 := rfl
theorem fr_pure (q : Rat) : (fr q).pure = true := rfl
def szq (k : Nat) (q : Rat) : Prop := sz k q.num ∧ sz k q.den
theorem szq.mono {j k : Nat} {a : Rat} (h : szq j a) (l : j ≤ k) : szq k a := ⟨h.1.mono l, h.2.mono l⟩
theorem den_ne (q : Rat) : (q.den : Int) ≠ 0 := by have := q.den_pos; omega
theorem den_gt (q : Rat) : (0 : Int) < q.den := by have := q.den_pos; omega
theorem fr_of {t b : Int} (hb : 0 < b) (g : Nat.gcd t.natAbs b.natAbs = 1) {T B : Int} (hB : B ≠ 0) (h : t * B = T * b) : pr t b = fr (Rat.divInt T B) := by
  have e : (Rat.divInt T B).num * B = T * (Rat.divInt T B).den := by
    have z := Rat.num_divInt_den (Rat.divInt T B)
    exact (Rat.divInt_eq_divInt_iff (den_ne _) hB).mp z
  have x : t * ((Rat.divInt T B).den : Int) = (Rat.divInt T B).num * b := by
    have hbB : B ≠ 0 := hB
    refine Int.eq_of_mul_eq_mul_right hbB ?_
    calc t * ((Rat.divInt T B).den : Int) * B = (t * B) * ((Rat.divInt T B).den : Int) := by ac_rfl
      _ = (T * b) * ((Rat.divInt T B).den : Int) := by rw [h]
      _ = (T * ((Rat.divInt T B).den : Int)) * b := by ac_rfl
      _ = ((Rat.divInt T B).num * B) * b := by rw [e]
      _ = (Rat.divInt T B).num * b * B := by ac_rfl
  obtain ⟨e1, e2⟩ := same_terms hb (den_gt _) g (by have z := (Rat.divInt T B).reduced; exact z) x
  rw [e1, e2]
  rfl
theorem Q.fr {v : PV} {T B : Int} {k : Nat} (q : Q v T B k) (hB : B ≠ 0) : v = MP.fr (Rat.divInt T B) ∧ szq k (Rat.divInt T B) := by
  obtain ⟨t, b, rfl, p, g, e, z1, z2⟩ := q
  have h := fr_of p g hB e
  refine ⟨h, ?_⟩
  have h' : pr t b = MP.fr (Rat.divInt T B) := h
  unfold pr MP.fr pr at h'
  injection h' with h1
  injection h1 with h2 h3
  injection h2 with h2
  injection h3 with h3
  injection h3 with h3
  exact ⟨h2 ▸ z1, h3 ▸ z2⟩
theorem rat_add (a b : Rat) : Rat.divInt (a.num * b.den + b.num * a.den) (a.den * b.den) = a + b := by
  rw [← Rat.divInt_add_divInt _ _ (den_ne a) (den_ne b), Rat.num_divInt_den, Rat.num_divInt_den]
theorem rat_mul (a b : Rat) : Rat.divInt (a.num * b.num) (a.den * b.den) = a * b := by
  rw [← Rat.divInt_mul_divInt, Rat.num_divInt_den, Rat.num_divInt_den]
theorem rat_div (a b : Rat) : Rat.divInt (a.num * b.den) (a.den * b.num) = a / b := by
  rw [← Rat.divInt_mul_divInt, Rat.num_divInt_den, Rat.div_def]
  congr 1
  rw [Rat.divInt_eq_div]
  have z := Rat.num_divInt_den b
  rw [Rat.divInt_eq_div] at z
  have w : b⁻¹ = ((b.num : Rat) / (b.den : Rat))⁻¹ := by
    have z' : (b.num : Rat) / ((b.den : Int) : Rat) = b := z
    rw [Rat.intCast_natCast] at z'
    rw [z']
  rw [w, Rat.intCast_natCast]
  grind
theorem fr_neg (a : Rat) : pr (-a.num) a.den = fr (-a) := by
  unfold fr
  rw [Rat.neg_num, Rat.neg_den]
theorem fr_inj {a b : Rat} : (decide (a.num = b.num) && decide ((a.den : Int) = b.den)) = decide (a = b) := by
  by_cases h : a = b
  · subst h; simp
  · have : ¬ (a.num = b.num ∧ (a.den : Int) = b.den) := fun ⟨h1, h2⟩ => h (Rat.ext h1 (by omega))
    simp only [h, decide_false]
    by_cases h1 : a.num = b.num
    · have h2 : ¬ (a.den : Int) = b.den := fun h2 => this ⟨h1, h2⟩
      simp only [h2, decide_false, Bool.and_false]
    · simp only [h1, decide_false, Bool.false_and]
/-- the order as compare tells it -/
def cq (a b : Rat) : Int := if a < b then -1 else if b < a then 1 else 0
theorem cq_lt {a b : Rat} : cq a b < 0 ↔ a < b := by
  unfold cq
  split
  · simp [*]
  · split <;> simp_all
theorem cq_gt {a b : Rat} : 0 < cq a b ↔ b < a := by
  unfold cq
  split
  · rename_i h
    have : ¬ b < a := by grind
    simp [this]
  · split <;> simp_all
theorem cq_le {a b : Rat} : cq a b ≤ 0 ↔ a ≤ b := by
  have z := cq_gt (a := a) (b := b)
  have y : a ≤ b ↔ ¬ b < a := by grind
  rw [y, ← z]
  omega
/-- least, greatest -/
def mn (a b : Rat) : Rat := if b < a then b else a
def mx (a b : Rat) : Rat := if a < b then b else a
instance : Std.Commutative mn := ⟨fun a b => by unfold mn; grind⟩
instance : Std.Associative mn := ⟨fun a b c => by unfold mn; grind⟩
instance : Std.Commutative mx := ⟨fun a b => by unfold mx; grind⟩
instance : Std.Associative mx := ⟨fun a b c => by unfold mx; grind⟩
theorem mn_self (a : Rat) : mn a a = a := by unfold mn; grind
theorem mx_self (a : Rat) : mx a a = a := by unfold mx; grind
theorem mn_le {a b : Rat} (h : a ≤ b) : mn a b = a := by unfold mn; grind
theorem mx_le {a b : Rat} (h : a ≤ b) : mx a b = b := by unfold mx; grind
theorem mn_ge {a b : Rat} (h : b ≤ a) : mn a b = b := by unfold mn; grind
theorem mx_ge {a b : Rat} (h : b ≤ a) : mx a b = a := by unfold mx; grind
theorem szq.mn {k : Nat} {a b : Rat} (h : szq k a) (h' : szq k b) : szq k (mn a b) := by unfold MP.mn; split <;> assumption
theorem szq.mx {k : Nat} {a b : Rat} (h : szq k a) (h' : szq k b) : szq k (mx a b) := by unfold MP.mx; split <;> assumption
theorem szq.neg {k : Nat} {a : Rat} (h : szq k a) : szq k (-a) := ⟨by rw [Rat.neg_num]; exact h.1.neg, by rw [Rat.neg_den]; exact h.2⟩
/-- an interval's value -/
abbrev iv (l h : Rat) : PV := .tup [fr l, fr h]
theorem eqV_fr {S : Sto} {a b : Rat} : eqV S (fr a) (fr b) = some (decide (a = b)) := by
  unfold fr
  rw [eqV_pr, fr_inj]
theorem eqV_iv {S : Sto} {a b c d : Rat} : eqV S (iv a b) (iv c d) = some (decide (a = c) && decide (b = d)) := by
  rw [← fr_inj, ← fr_inj]
  unfold iv fr eqV
  simp only [toDS, PV.toD, PV.toDs, Option.map]
  have z : ∀ i j k l : Int, shaped (.tuple [.tuple [.int i, .int j], .tuple [.int k, .int l]]) = true := fun _ _ _ _ => rfl
  rw [z, z]
  simp only [Bool.and_self, if_true]
  congr 1
  simp only [PySem.PyData.eqv, PySem.PyData.eqvAll, Bool.and_true]
  rfl
theorem szq.pow {k : Nat} {t : Rat} (h : szq k t) (n : Nat) : szq (1 + k * n) (t ^ n) := by
  rw [Rat.pow_def]
  refine ⟨h.1.pow n, ?_⟩
  show sz _ ((t.den ^ n : Nat) : Int)
  rw [Int.natCast_pow]
  exact h.2.pow n
theorem szq_divInt {k : Nat} {t b : Int} (hb : b ≠ 0) (ht : sz k t) (hz : sz k b) : szq k (Rat.divInt t b) := ((Q.mk (T := t) (B := b) hb rfl ht hz).fr hb).2
theorem szq.add {k : Nat} {a b : Rat} (h : szq k a) (h' : szq k b) : szq (k + k + 1) (a + b) := by
  rw [← rat_add]
  exact szq_divInt (Int.mul_ne_zero (den_ne _) (den_ne _)) ((h.1.mul h'.2).add (h'.1.mul h.2)) ((h.2.mul h'.2).mono (by omega))
theorem szq.sub {k : Nat} {a b : Rat} (h : szq k a) (h' : szq k b) : szq (k + k + 1) (a - b) := by
  rw [Rat.sub_eq_add_neg]
  exact h.add h'.neg
theorem szq.mul {j k : Nat} {a b : Rat} (h : szq j a) (h' : szq k b) : szq (j + k) (a * b) := by
  rw [← rat_mul]
  exact szq_divInt (Int.mul_ne_zero (den_ne _) (den_ne _)) (h.1.mul h'.1) (h.2.mul h'.2)
theorem num_ne {b : Rat} (h : b ≠ 0) : b.num ≠ 0 := fun e => h (Rat.num_eq_zero.mp e)
theorem szq.div {j k : Nat} {a b : Rat} (h : szq j a) (h' : szq k b) (hb : b ≠ 0) : szq (j + k) (a / b) := by
  rw [← rat_div]
  exact szq_divInt (Int.mul_ne_zero (den_ne _) (num_ne hb)) (h.1.mul h'.2) (h.2.mul h'.1)
section
variable {C : Nat → List PV → Sto → R PV}
theorem push_at {S : Sto} {c : Cell} : (S.push c).cells[S.len]? = some c := by unfold Sto.push Sto.len; simp
theorem push_lst {S : Sto} {xs : List PV} : (S.push (.lst xs)).lst? S.len = some xs := by unfold Sto.lst?; rw [push_at]
theorem push_old {S : Sto} {c : Cell} {k : Nat} (h : k < S.len) : (S.push c).cells[k]? = S.cells[k]? := by
  unfold Sto.push
  exact List.getElem?_append_left h
theorem push_len {S : Sto} {c : Cell} : (S.push c).len = S.len + 1 := by unfold Sto.push Sto.len; simp
theorem push_set {S : Sto} {c d : Cell} : (⟨(S.push c).cells.set S.len d, (S.push c).dirty⟩ : Sto) = S.push d := by unfold Sto.push Sto.len; simp
/-- a comprehension over two things, its element leaving the store alone -/
theorem lc_two {i : Nat} {it : It} {e : E} {σ : Env} {S : Sto} {x1 x2 y1 y2 : PV} (h : evi C it σ S = .ok ([x1, x2], []) S) (h1 : ∀ S, ev C e ((σ.set i none).set i (some x1)) S = .ok y1 S) (h2 : ∀ S, ev C e ((σ.set i none).set i (some x2)) S = .ok y2 S) :
    ev C (.lc (.name i) [i] it .none e) σ S = .ok (.ref S.len) (S.push (.lst [y1, y2])) := by
  rw [ev, h]
  simp only [bd_ok]
  have ev2 : ∀ σ S, evc C .none σ S = .ok true S := fun σ S => by rw [evc]
  have c0 : (S.push (.lst [])).cells[S.len]? = some (.lst []) := push_at
  have c1 : (S.push (.lst [y1])).cells[S.len]? = some (.lst [y1]) := push_at
  have l0 : ([] : List PV).length < lenMax := by decide
  have l1 : [y1].length < lenMax := by unfold lenMax; simp
  have z : lcLoop S.len (fun S => stands S []) (fun x => bindT (.name i) x (wipe σ [i])) (evc C .none) (ev C e) [x1, x2] (S.push (.lst [])) = .ok () (S.push (.lst [y1, y2])) := by
    have st : ∀ S, stands S [] = true := fun _ => rfl
    unfold lcLoop
    rw [st, if_pos rfl]
    simp only [bindT, wipe, ev2, bd_ok, h1, c0]
    rw [if_pos l0, push_set]
    unfold lcLoop
    rw [st, if_pos rfl]
    simp only [List.nil_append, bindT, wipe, ev2, bd_ok, h2, c1]
    rw [if_pos l1, push_set]
    unfold lcLoop
    rw [st, if_pos rfl]
    rfl
  rw [z]
  simp only [bd_ok]
  rfl
end
end MP
end
section
set_option Elab.async false
set_option linter.all false
set_option maxRecDepth 100000
/-! MPIv: ranges of rational numbers: what the operations on intervals hold. -/
namespace MP
theorem sq_nn (x : Rat) : 0 ≤ x * x := by
  by_cases h : 0 ≤ x
  · exact Rat.mul_nonneg h h
  · have z := Rat.mul_nonneg (show 0 ≤ -x by grind) (show 0 ≤ -x by grind)
    grind
theorem pow_nn {x : Rat} (h : 0 ≤ x) : ∀ n : Nat, 0 ≤ x ^ n
  | 0 => by rw [Rat.pow_zero]; decide
  | n + 1 => by rw [Rat.pow_succ]; exact Rat.mul_nonneg (pow_nn h n) h
theorem even_nn (x : Rat) : ∀ m : Nat, 0 ≤ x ^ (2 * m)
  | 0 => by rw [Nat.mul_zero, Rat.pow_zero]; decide
  | m + 1 => by
    have e : x ^ (2 * (m + 1)) = x ^ (2 * m) * (x * x) := by
      rw [Nat.mul_succ, Rat.pow_succ, Rat.pow_succ]
      grind
    rw [e]
    exact Rat.mul_nonneg (even_nn x m) (sq_nn x)
theorem odd_neg (x : Rat) : ∀ m : Nat, (-x) ^ (2 * m + 1) = -(x ^ (2 * m + 1))
  | 0 => by rw [Nat.mul_zero, Rat.pow_succ, Rat.pow_succ, Rat.pow_zero, Rat.pow_zero]; grind
  | m + 1 => by
    have e : ∀ y : Rat, y ^ (2 * (m + 1) + 1) = y ^ (2 * m + 1) * (y * y) := fun y => by
      rw [Nat.mul_succ, Rat.pow_succ, Rat.pow_succ, Rat.pow_succ]
      grind
    rw [e, e, odd_neg x m]
    grind
theorem pow_mono {a b : Rat} (h : 0 ≤ a) (o : a ≤ b) : ∀ n : Nat, a ^ n ≤ b ^ n
  | 0 => by rw [Rat.pow_zero, Rat.pow_zero]; decide
  | n + 1 => by
    rw [Rat.pow_succ, Rat.pow_succ]
    have z1 := Rat.mul_le_mul_of_nonneg_right (pow_mono h o n) h
    have z2 := Rat.mul_le_mul_of_nonneg_left o (pow_nn (show 0 ≤ b by grind) n)
    grind
theorem odd_mono {a b : Rat} (o : a ≤ b) (m : Nat) : a ^ (2 * m + 1) ≤ b ^ (2 * m + 1) := by
  by_cases h : 0 ≤ a
  · exact pow_mono h o _
  · have na : 0 ≤ (-a) ^ (2 * m + 1) := pow_nn (by grind) _
    rw [odd_neg] at na
    by_cases hb : 0 ≤ b
    · have nb : 0 ≤ b ^ (2 * m + 1) := pow_nn hb _
      grind
    · have z := pow_mono (a := -b) (b := -a) (by grind) (by grind) (2 * m + 1)
      rw [odd_neg, odd_neg] at z
      grind
/-- whether 0 is told of too -/
def zc (a b : Rat) (n : Nat) : Prop := 0 < n ∧ n % 2 = 0 ∧ a ≤ 0 ∧ 0 ≤ b
instance (a b : Rat) (n : Nat) : Decidable (zc a b n) := by unfold zc; exact inferInstance
def rlo (a b : Rat) (n : Nat) : Rat := if zc a b n then mn (mn (a ^ n) (b ^ n)) 0 else mn (a ^ n) (b ^ n)
def rhi (a b : Rat) (n : Nat) : Rat := if zc a b n then mx (mx (a ^ n) (b ^ n)) 0 else mx (a ^ n) (b ^ n)
theorem mul_mono {a b c : Rat} (h : a ≤ b) (hc : 0 ≤ c) : a * c ≤ b * c := Rat.mul_le_mul_of_nonneg_right h hc
theorem mul_anti {a b c : Rat} (h : a ≤ b) (hc : c ≤ 0) : b * c ≤ a * c := by
  have z := Rat.mul_le_mul_of_nonneg_right h (show 0 ≤ -c by grind)
  grind
theorem mn_l (a b : Rat) : mn a b ≤ a := by unfold mn; grind
theorem mn_r (a b : Rat) : mn a b ≤ b := by unfold mn; grind
theorem mx_l (a b : Rat) : a ≤ mx a b := by unfold mx; grind
theorem mx_r (a b : Rat) : b ≤ mx a b := by unfold mx; grind
theorem le_mn {a b c : Rat} (h : c ≤ a) (h' : c ≤ b) : c ≤ mn a b := by unfold mn; grind
theorem mx_le' {a b c : Rat} (h : a ≤ c) (h' : b ≤ c) : mx a b ≤ c := by unfold mx; grind
/-- the product's ends -/
def tlo (a b c e : Rat) : Rat := mn (mn (a * c) (b * c)) (mn (a * e) (b * e))
def thi (a b c e : Rat) : Rat := mx (mx (a * c) (b * c)) (mx (a * e) (b * e))
theorem mul_in1 {a b x y : Rat} (h1 : a ≤ x) (h2 : x ≤ b) : mn (a * y) (b * y) ≤ x * y ∧ x * y ≤ mx (a * y) (b * y) := by
  by_cases h : 0 ≤ y
  · have z1 := mul_mono h1 h
    have z2 := mul_mono h2 h
    have m1 := mn_l (a * y) (b * y)
    have m2 := mx_r (a * y) (b * y)
    constructor <;> grind
  · have h' : y ≤ 0 := by grind
    have z1 := mul_anti h1 h'
    have z2 := mul_anti h2 h'
    have m1 := mn_r (a * y) (b * y)
    have m2 := mx_l (a * y) (b * y)
    constructor <;> grind
theorem mul_in {a b c e x y : Rat} (h1 : a ≤ x) (h2 : x ≤ b) (h3 : c ≤ y) (h4 : y ≤ e) : tlo a b c e ≤ x * y ∧ x * y ≤ thi a b c e := by
  obtain ⟨p1, p2⟩ := mul_in1 (y := y) h1 h2
  obtain ⟨q1, q2⟩ := mul_in1 (y := a) h3 h4
  obtain ⟨r1, r2⟩ := mul_in1 (y := b) h3 h4
  rw [Rat.mul_comm c a, Rat.mul_comm e a, Rat.mul_comm y a] at q1 q2
  rw [Rat.mul_comm c b, Rat.mul_comm e b, Rat.mul_comm y b] at r1 r2
  have e1 : tlo a b c e = mn (mn (a * c) (a * e)) (mn (b * c) (b * e)) := by unfold tlo; ac_rfl
  have e2 : thi a b c e = mx (mx (a * c) (a * e)) (mx (b * c) (b * e)) := by unfold thi; ac_rfl
  rw [e1, e2]
  constructor
  · have l1 := mn_l (mn (a * c) (a * e)) (mn (b * c) (b * e))
    have l2 := mn_r (mn (a * c) (a * e)) (mn (b * c) (b * e))
    have : mn (mn (a * c) (a * e)) (mn (b * c) (b * e)) ≤ mn (a * y) (b * y) := le_mn (by grind) (by grind)
    grind
  · have l1 := mx_l (mx (a * c) (a * e)) (mx (b * c) (b * e))
    have l2 := mx_r (mx (a * c) (a * e)) (mx (b * c) (b * e))
    have : mx (a * y) (b * y) ≤ mx (mx (a * c) (a * e)) (mx (b * c) (b * e)) := mx_le' (by grind) (by grind)
    grind
/-- what holds at the corners holds of the ends -/
theorem tlo_ge {a b c e l : Rat} (h1 : l ≤ a * c) (h2 : l ≤ b * c) (h3 : l ≤ a * e) (h4 : l ≤ b * e) : l ≤ tlo a b c e := le_mn (le_mn h1 h2) (le_mn h3 h4)
theorem thi_le {a b c e l : Rat} (h1 : a * c ≤ l) (h2 : b * c ≤ l) (h3 : a * e ≤ l) (h4 : b * e ≤ l) : thi a b c e ≤ l := mx_le' (mx_le' h1 h2) (mx_le' h3 h4)
theorem tlo_thi (a b c e : Rat) : tlo a b c e ≤ thi a b c e := by
  have h1 : tlo a b c e ≤ a * c := by unfold tlo; have := mn_l (mn (a * c) (b * c)) (mn (a * e) (b * e)); have := mn_l (a * c) (b * c); grind
  have h2 : a * c ≤ thi a b c e := by unfold thi; have := mx_l (mx (a * c) (b * c)) (mx (a * e) (b * e)); have := mx_l (a * c) (b * c); grind
  grind
theorem mul_sub {a b c e a' b' c' e' : Rat} (h1 : a ≤ a') (o : a' ≤ b') (h2 : b' ≤ b) (h3 : c ≤ c') (o' : c' ≤ e') (h4 : e' ≤ e) : tlo a b c e ≤ tlo a' b' c' e' ∧ thi a' b' c' e' ≤ thi a b c e := by
  have p1 := mul_in (a := a) (b := b) (c := c) (e := e) (x := a') (y := c') h1 (by grind) h3 (by grind)
  have p2 := mul_in (a := a) (b := b) (c := c) (e := e) (x := b') (y := c') (by grind) h2 h3 (by grind)
  have p3 := mul_in (a := a) (b := b) (c := c) (e := e) (x := a') (y := e') h1 (by grind) (by grind) h4
  have p4 := mul_in (a := a) (b := b) (c := c) (e := e) (x := b') (y := e') (by grind) h2 (by grind) h4
  exact ⟨tlo_ge p1.1 p2.1 p3.1 p4.1, thi_le p1.2 p2.2 p3.2 p4.2⟩
/-- inverses -/
theorem inv_anti {a b : Rat} (h : 0 < a) (o : a ≤ b) : b⁻¹ ≤ a⁻¹ := by
  have hb : 0 < b := by grind
  have ia : 0 < a⁻¹ := Rat.inv_pos.mpr h
  have ib : 0 < b⁻¹ := Rat.inv_pos.mpr hb
  have z := Rat.mul_le_mul_of_nonneg_right o (show 0 ≤ a⁻¹ * b⁻¹ from Rat.mul_nonneg (by grind) (by grind))
  have e1 : a * (a⁻¹ * b⁻¹) = b⁻¹ := by
    rw [← Rat.mul_assoc, Rat.mul_inv_cancel a (by grind), Rat.one_mul]
  have e2 : b * (a⁻¹ * b⁻¹) = a⁻¹ := by
    rw [Rat.mul_comm a⁻¹, ← Rat.mul_assoc, Rat.mul_inv_cancel b (by grind), Rat.one_mul]
  rw [e1, e2] at z
  exact z
theorem inv_neg' (a : Rat) : (-a)⁻¹ = -(a⁻¹) := by
  by_cases h : a = 0
  · subst h; decide +kernel
  · have z := Rat.mul_inv_cancel a h
    have z2 := Rat.mul_inv_cancel (-a) (by grind)
    have e : a * (-(-a)⁻¹) = 1 := by grind
    have e2 : a⁻¹ * (a * (-(-a)⁻¹)) = a⁻¹ := by rw [e, Rat.mul_one]
    rw [← Rat.mul_assoc, Rat.mul_comm a⁻¹, z, Rat.one_mul] at e2
    grind
/-- 1/y between 1/e and 1/c -/
theorem inv_in {c e y : Rat} (h1 : c ≤ y) (h2 : y ≤ e) (h : ¬ (c ≤ 0 ∧ 0 ≤ e)) : 1 / e ≤ 1 / y ∧ 1 / y ≤ 1 / c := by
  simp only [Rat.div_def, Rat.one_mul]
  by_cases hc : 0 < c
  · exact ⟨inv_anti (by grind) h2, inv_anti hc h1⟩
  · have he : e < 0 := by grind
    have z1 := inv_anti (a := -e) (b := -y) (by grind) (by grind)
    have z2 := inv_anti (a := -y) (b := -c) (by grind) (by grind)
    simp only [inv_neg'] at z1 z2
    constructor <;> grind
theorem div_one (x y : Rat) : x * (1 / y) = x / y := by rw [Rat.div_def, Rat.div_def, Rat.one_mul]
/-- the quotient's ends -/
def dlo (a b c e : Rat) : Rat := tlo a b (1 / e) (1 / c)
def dhi (a b c e : Rat) : Rat := thi a b (1 / e) (1 / c)
theorem div_in {a b c e x y : Rat} (h1 : a ≤ x) (h2 : x ≤ b) (h3 : c ≤ y) (h4 : y ≤ e) (h : ¬ (c ≤ 0 ∧ 0 ≤ e)) : dlo a b c e ≤ x / y ∧ x / y ≤ dhi a b c e := by
  obtain ⟨p, q⟩ := inv_in h3 h4 h
  rw [← div_one]
  exact mul_in h1 h2 p q
theorem div_sub {a b c e a' b' c' e' : Rat} (h1 : a ≤ a') (o : a' ≤ b') (h2 : b' ≤ b) (h3 : c ≤ c') (o' : c' ≤ e') (h4 : e' ≤ e) (h : ¬ (c ≤ 0 ∧ 0 ≤ e)) : dlo a b c e ≤ dlo a' b' c' e' ∧ dhi a' b' c' e' ≤ dhi a b c e := by
  have p1 := inv_in (c := c) (e := e) (y := c') h3 (by grind) h
  have p2 := inv_in (c := c) (e := e) (y := e') (by grind) h4 h
  have p3 := inv_in (y := c') (c := c') (e := e') (by grind) o' (by grind)
  exact mul_sub h1 o h2 p2.1 p3.1 p1.2
/-- the power's ends -/
theorem pow_in {a b x : Rat} (n : Nat) (h1 : a ≤ x) (h2 : x ≤ b) : rlo a b n ≤ x ^ n ∧ x ^ n ≤ rhi a b n := by
  have base : mn (a ^ n) (b ^ n) ≤ x ^ n ∧ x ^ n ≤ mx (a ^ n) (b ^ n) ∨ (0 < n ∧ n % 2 = 0 ∧ a ≤ 0 ∧ 0 ≤ b) ∧ 0 ≤ x ^ n ∧ x ^ n ≤ mx (a ^ n) (b ^ n) := by
    have l1 := mn_l (a ^ n) (b ^ n)
    have l2 := mn_r (a ^ n) (b ^ n)
    have l3 := mx_l (a ^ n) (b ^ n)
    have l4 := mx_r (a ^ n) (b ^ n)
    by_cases h0 : n = 0
    · subst h0
      simp only [Rat.pow_zero] at *
      left
      constructor <;> grind
    by_cases hm : n % 2 = 1
    · have e : n = 2 * (n / 2) + 1 := by omega
      have z1 := odd_mono h1 (n / 2)
      have z2 := odd_mono h2 (n / 2)
      rw [← e] at z1 z2
      left
      constructor <;> grind
    · have e : n = 2 * (n / 2) := by omega
      have evn : ∀ y : Rat, 0 ≤ y ^ n := fun y => by rw [e]; exact even_nn _ _
      have sgn : ∀ y : Rat, (-y) ^ n = y ^ n := fun y => by
        have z : ∀ m : Nat, (-y) ^ (2 * m) = y ^ (2 * m) := fun m => by
          induction m with
          | zero => rw [Nat.mul_zero, Rat.pow_zero, Rat.pow_zero]
          | succ m ih =>
            have q : ∀ w : Rat, w ^ (2 * (m + 1)) = w ^ (2 * m) * (w * w) := fun w => by
              rw [Nat.mul_succ, Rat.pow_succ, Rat.pow_succ]
              grind
            rw [q, q, ih]
            grind
        rw [e]
        exact z _
      have up : x ^ n ≤ mx (a ^ n) (b ^ n) := by
        by_cases hx : 0 ≤ x
        · have z := pow_mono hx h2 n
          grind
        · have z := pow_mono (a := -x) (b := -a) (by grind) (by grind) n
          rw [sgn, sgn] at z
          grind
      by_cases hz : a ≤ 0 ∧ 0 ≤ b
      · exact .inr ⟨⟨by omega, by omega, hz.1, hz.2⟩, evn x, up⟩
      · left
        refine ⟨?_, up⟩
        by_cases ha : 0 ≤ a
        · have z := pow_mono ha h1 n
          grind
        · have z := pow_mono (a := -b) (b := -x) (by grind) (by grind) n
          rw [sgn, sgn] at z
          grind
  unfold rlo rhi
  by_cases z : zc a b n
  · rw [if_pos z, if_pos z]
    have l1 := mn_l (mn (a ^ n) (b ^ n)) 0
    have l2 := mn_r (mn (a ^ n) (b ^ n)) 0
    have l3 := mx_l (mx (a ^ n) (b ^ n)) 0
    rcases base with h | h
    · constructor <;> grind
    · constructor <;> grind
  · rw [if_neg z, if_neg z]
    rcases base with h | h
    · exact h
    · exact absurd h.1 z
theorem zero_pow {n : Nat} (h : 0 < n) : (0 : Rat) ^ n = 0 := by
  cases n with
  | zero => omega
  | succ n => rw [Rat.pow_succ, Rat.mul_zero]
theorem pow_sub {a b a' b' : Rat} (n : Nat) (h1 : a ≤ a') (o : a' ≤ b') (h2 : b' ≤ b) : rlo a b n ≤ rlo a' b' n ∧ rhi a' b' n ≤ rhi a b n := by
  have p1 := pow_in (a := a) (b := b) (x := a') n h1 (by grind)
  have p2 := pow_in (a := a) (b := b) (x := b') n (by grind) h2
  have l := le_mn p1.1 p2.1
  have u := mx_le' p1.2 p2.2
  by_cases z : zc a' b' n
  · have p3 := pow_in (a := a) (b := b) (x := 0) n (by have := z.2.2.1; grind) (by have := z.2.2.2; grind)
    rw [zero_pow z.1] at p3
    have e1 : rlo a' b' n = mn (mn (a' ^ n) (b' ^ n)) 0 := by unfold rlo; rw [if_pos z]
    have e2 : rhi a' b' n = mx (mx (a' ^ n) (b' ^ n)) 0 := by unfold rhi; rw [if_pos z]
    rw [e1, e2]
    exact ⟨le_mn l p3.1, mx_le' u p3.2⟩
  · have e1 : rlo a' b' n = mn (a' ^ n) (b' ^ n) := by unfold rlo; rw [if_neg z]
    have e2 : rhi a' b' n = mx (a' ^ n) (b' ^ n) := by unfold rhi; rw [if_neg z]
    rw [e1, e2]
    exact ⟨l, u⟩
theorem rlo_rhi {a b : Rat} (n : Nat) (o : a ≤ b) : rlo a b n ≤ rhi a b n := by
  have p := pow_in (a := a) (b := b) (x := a) n (by grind) o
  grind
/-! ### the grid -/
def flo (a : Rat) (n : Nat) : Rat := Rat.divInt ((a.num * 2 ^ n).fdiv a.den) (2 ^ n)
def cei (a : Rat) (n : Nat) : Rat := Rat.divInt (-((-a.num * 2 ^ n).fdiv a.den)) (2 ^ n)
theorem cei_flo (a : Rat) (n : Nat) : cei a n = -flo (-a) n := by
  unfold cei flo
  rw [Rat.neg_divInt, Rat.neg_num, Rat.neg_den]
theorem two_pos (n : Nat) : (0 : Rat) < ((2 ^ n : Int) : Rat) := Rat.intCast_pos.mpr (Int.pow_pos (by decide))
theorem num_den (a : Rat) : a * ((a.den : Int) : Rat) = (a.num : Rat) := by
  have z := Rat.num_divInt_den a
  rw [Rat.divInt_eq_div] at z
  have d : ((a.den : Int) : Rat) ≠ 0 := by
    have : (0 : Rat) < ((a.den : Int) : Rat) := Rat.intCast_pos.mpr (den_gt a)
    grind
  have y := Rat.div_mul_cancel (a := (a.num : Rat)) (b := ((a.den : Int) : Rat)) d
  rw [z] at y
  exact y
/-- the floor's number -/
def flm (a : Rat) (n : Nat) : Int := (a.num * 2 ^ n).fdiv a.den
theorem flo_mul (a : Rat) (n : Nat) : flo a n * ((2 ^ n : Int) : Rat) = (flm a n : Rat) := by
  unfold flo
  rw [Rat.divInt_eq_div]
  exact Rat.div_mul_cancel (by have := two_pos n; grind)
theorem flm_le (a : Rat) (n : Nat) : (flm a n : Rat) ≤ a * ((2 ^ n : Int) : Rat) := by
  have dp : (0 : Rat) < ((a.den : Int) : Rat) := Rat.intCast_pos.mpr (den_gt a)
  refine Rat.le_of_mul_le_mul_right (c := ((a.den : Int) : Rat)) ?_ dp
  have e : a * ((2 ^ n : Int) : Rat) * ((a.den : Int) : Rat) = ((a.num * 2 ^ n : Int) : Rat) := by
    rw [Rat.intCast_mul, ← num_den a]
    grind
  rw [e, ← Rat.intCast_mul]
  refine Rat.intCast_le_intCast.mpr ?_
  unfold flm
  rw [Int.fdiv_eq_ediv_of_nonneg _ (by omega)]
  exact Int.ediv_mul_le _ (den_ne a)
theorem lt_flm (a : Rat) (n : Nat) : a * ((2 ^ n : Int) : Rat) < ((flm a n + 1 : Int) : Rat) := by
  have dp : (0 : Rat) < ((a.den : Int) : Rat) := Rat.intCast_pos.mpr (den_gt a)
  refine Rat.lt_of_mul_lt_mul_right (c := ((a.den : Int) : Rat)) ?_ (by grind)
  have e : a * ((2 ^ n : Int) : Rat) * ((a.den : Int) : Rat) = ((a.num * 2 ^ n : Int) : Rat) := by
    rw [Rat.intCast_mul, ← num_den a]
    grind
  rw [e, ← Rat.intCast_mul]
  refine Rat.intCast_lt_intCast.mpr ?_
  exact Int.lt_fdiv_add_one_mul_self _ (den_gt a)
theorem flo_le (a : Rat) (n : Nat) : flo a n ≤ a := by
  refine Rat.le_of_mul_le_mul_right (c := ((2 ^ n : Int) : Rat)) ?_ (two_pos n)
  rw [flo_mul]
  exact flm_le a n
theorem flo_mono {a b : Rat} (h : a ≤ b) (n : Nat) : flo a n ≤ flo b n := by
  refine Rat.le_of_mul_le_mul_right (c := ((2 ^ n : Int) : Rat)) ?_ (two_pos n)
  rw [flo_mul, flo_mul]
  refine Rat.intCast_le_intCast.mpr ?_
  have z1 := flm_le a n
  have z2 := lt_flm b n
  have z3 := Rat.mul_le_mul_of_nonneg_right h (show (0 : Rat) ≤ ((2 ^ n : Int) : Rat) by have := two_pos n; grind)
  have z4 : (flm a n : Rat) < ((flm b n + 1 : Int) : Rat) := by grind
  have := Rat.intCast_lt_intCast.mp z4
  omega
theorem le_cei (a : Rat) (n : Nat) : a ≤ cei a n := by
  have := flo_le (-a) n
  rw [cei_flo]
  grind
theorem cei_mono {a b : Rat} (h : a ≤ b) (n : Nat) : cei a n ≤ cei b n := by
  have := flo_mono (a := -b) (b := -a) (by grind) n
  rw [cei_flo, cei_flo]
  grind
theorem flo_den (a : Rat) (n : Nat) : ((flo a n).den : Int) ∣ 2 ^ n := by
  unfold flo
  rw [Rat.den_divInt, if_neg (by have : (0 : Int) < 2 ^ n := Int.pow_pos (by decide); omega)]
  have z : (2 ^ n : Int).natAbs / (2 ^ n : Int).gcd ((a.num * 2 ^ n).fdiv a.den) ∣ (2 ^ n : Int).natAbs := Nat.div_dvd_of_dvd (Nat.gcd_dvd_left _ _)
  exact Int.ofNat_dvd_left.mpr z
theorem cei_den (a : Rat) (n : Nat) : ((cei a n).den : Int) ∣ 2 ^ n := by
  rw [cei_flo, Rat.neg_den]
  exact flo_den _ _
theorem sz_two {n : Nat} (h : n < 50) : sz 51 ((2 : Int) ^ n) := by
  unfold sz
  rw [Int.natAbs_pow]
  exact Nat.pow_lt_pow_right (by decide) (by omega)
theorem szq.flo {k n : Nat} {a : Rat} (h : szq k a) (hn : n < 50) : szq (k + 51) (flo a n) := by
  refine szq_divInt (by have : (0 : Int) < 2 ^ n := Int.pow_pos (by decide); omega) ((h.1.mul (sz_two hn)).fdiv.resolve_right (den_ne a)) ((sz_two hn).mono (by omega))
theorem szq.cei {k n : Nat} {a : Rat} (h : szq k a) (hn : n < 50) : szq (k + 51) (cei a n) := by
  rw [cei_flo]
  exact (h.neg.flo hn).neg
theorem sz_one : szq 1 (1 : Rat) := ⟨by unfold sz; decide, by unfold sz; decide⟩
theorem sz_zero : szq 1 (0 : Rat) := ⟨by unfold sz; decide, by unfold sz; decide⟩
end MP
end
section
set_option Elab.async false
set_option linter.all false
set_option maxRecDepth 100000
/-! MPStr: short texts that are met (printed by a program) -/
namespace MP
open PySem
theorem eqV_str {S : Sto} {x y : Str} {c : Bool} (hx : shaped (.str x) = true) (hy : shaped (.str y) = true) (h : (PyData.str x).eqv (.str y) = c) : eqV S (.str x) (.str y) = some c := by
  unfold eqV
  simp only [toDS, PV.toD]
  rw [hx, hy, h]
  rfl
theorem es_num_num {S : Sto} : eqV S (.str "num") (.str "num") = some true := eqV_str (by decide +kernel) (by decide +kernel) (by decide +kernel)
theorem es_num_state {S : Sto} : eqV S (.str "num") (.str "state") = some false := eqV_str (by decide +kernel) (by decide +kernel) (by decide +kernel)
theorem es_num_const {S : Sto} : eqV S (.str "num") (.str "const") = some false := eqV_str (by decide +kernel) (by decide +kernel) (by decide +kernel)
theorem es_num_pow {S : Sto} : eqV S (.str "num") (.str "pow") = some false := eqV_str (by decide +kernel) (by decide +kernel) (by decide +kernel)
theorem es_num_add {S : Sto} : eqV S (.str "num") (.str "add") = some false := eqV_str (by decide +kernel) (by decide +kernel) (by decide +kernel)
theorem es_num_sub {S : Sto} : eqV S (.str "num") (.str "sub") = some false := eqV_str (by decide +kernel) (by decide +kernel) (by decide +kernel)
theorem es_num_mul {S : Sto} : eqV S (.str "num") (.str "mul") = some false := eqV_str (by decide +kernel) (by decide +kernel) (by decide +kernel)
theorem es_num_div {S : Sto} : eqV S (.str "num") (.str "div") = some false := eqV_str (by decide +kernel) (by decide +kernel) (by decide +kernel)
theorem es_state_num {S : Sto} : eqV S (.str "state") (.str "num") = some false := eqV_str (by decide +kernel) (by decide +kernel) (by decide +kernel)
theorem es_state_state {S : Sto} : eqV S (.str "state") (.str "state") = some true := eqV_str (by decide +kernel) (by decide +kernel) (by decide +kernel)
theorem es_state_const {S : Sto} : eqV S (.str "state") (.str "const") = some false := eqV_str (by decide +kernel) (by decide +kernel) (by decide +kernel)
theorem es_state_pow {S : Sto} : eqV S (.str "state") (.str "pow") = some false := eqV_str (by decide +kernel) (by decide +kernel) (by decide +kernel)
theorem es_state_add {S : Sto} : eqV S (.str "state") (.str "add") = some false := eqV_str (by decide +kernel) (by decide +kernel) (by decide +kernel)
theorem es_state_sub {S : Sto} : eqV S (.str "state") (.str "sub") = some false := eqV_str (by decide +kernel) (by decide +kernel) (by decide +kernel)
theorem es_state_mul {S : Sto} : eqV S (.str "state") (.str "mul") = some false := eqV_str (by decide +kernel) (by decide +kernel) (by decide +kernel)
theorem es_state_div {S : Sto} : eqV S (.str "state") (.str "div") = some false := eqV_str (by decide +kernel) (by decide +kernel) (by decide +kernel)
theorem es_const_num {S : Sto} : eqV S (.str "const") (.str "num") = some false := eqV_str (by decide +kernel) (by decide +kernel) (by decide +kernel)
theorem es_const_state {S : Sto} : eqV S (.str "const") (.str "state") = some false := eqV_str (by decide +kernel) (by decide +kernel) (by decide +kernel)
theorem es_const_const {S : Sto} : eqV S (.str "const") (.str "const") = some true := eqV_str (by decide +kernel) (by decide +kernel) (by decide +kernel)
theorem es_const_pow {S : Sto} : eqV S (.str "const") (.str "pow") = some false := eqV_str (by decide +kernel) (by decide +kernel) (by decide +kernel)
theorem es_const_add {S : Sto} : eqV S (.str "const") (.str "add") = some false := eqV_str (by decide +kernel) (by decide +kernel) (by decide +kernel)
theorem es_const_sub {S : Sto} : eqV S (.str "const") (.str "sub") = some false := eqV_str (by decide +kernel) (by decide +kernel) (by decide +kernel)
theorem es_const_mul {S : Sto} : eqV S (.str "const") (.str "mul") = some false := eqV_str (by decide +kernel) (by decide +kernel) (by decide +kernel)
theorem es_const_div {S : Sto} : eqV S (.str "const") (.str "div") = some false := eqV_str (by decide +kernel) (by decide +kernel) (by decide +kernel)
theorem es_pow_num {S : Sto} : eqV S (.str "pow") (.str "num") = some false := eqV_str (by decide +kernel) (by decide +kernel) (by decide +kernel)
theorem es_pow_state {S : Sto} : eqV S (.str "pow") (.str "state") = some false := eqV_str (by decide +kernel) (by decide +kernel) (by decide +kernel)
theorem es_pow_const {S : Sto} : eqV S (.str "pow") (.str "const") = some false := eqV_str (by decide +kernel) (by decide +kernel) (by decide +kernel)
theorem es_pow_pow {S : Sto} : eqV S (.str "pow") (.str "pow") = some true := eqV_str (by decide +kernel) (by decide +kernel) (by decide +kernel)
theorem es_pow_add {S : Sto} : eqV S (.str "pow") (.str "add") = some false := eqV_str (by decide +kernel) (by decide +kernel) (by decide +kernel)
theorem es_pow_sub {S : Sto} : eqV S (.str "pow") (.str "sub") = some false := eqV_str (by decide +kernel) (by decide +kernel) (by decide +kernel)
theorem es_pow_mul {S : Sto} : eqV S (.str "pow") (.str "mul") = some false := eqV_str (by decide +kernel) (by decide +kernel) (by decide +kernel)
theorem es_pow_div {S : Sto} : eqV S (.str "pow") (.str "div") = some false := eqV_str (by decide +kernel) (by decide +kernel) (by decide +kernel)
theorem es_add_num {S : Sto} : eqV S (.str "add") (.str "num") = some false := eqV_str (by decide +kernel) (by decide +kernel) (by decide +kernel)
theorem es_add_state {S : Sto} : eqV S (.str "add") (.str "state") = some false := eqV_str (by decide +kernel) (by decide +kernel) (by decide +kernel)
theorem es_add_const {S : Sto} : eqV S (.str "add") (.str "const") = some false := eqV_str (by decide +kernel) (by decide +kernel) (by decide +kernel)
theorem es_add_pow {S : Sto} : eqV S (.str "add") (.str "pow") = some false := eqV_str (by decide +kernel) (by decide +kernel) (by decide +kernel)
theorem es_add_add {S : Sto} : eqV S (.str "add") (.str "add") = some true := eqV_str (by decide +kernel) (by decide +kernel) (by decide +kernel)
theorem es_add_sub {S : Sto} : eqV S (.str "add") (.str "sub") = some false := eqV_str (by decide +kernel) (by decide +kernel) (by decide +kernel)
theorem es_add_mul {S : Sto} : eqV S (.str "add") (.str "mul") = some false := eqV_str (by decide +kernel) (by decide +kernel) (by decide +kernel)
theorem es_add_div {S : Sto} : eqV S (.str "add") (.str "div") = some false := eqV_str (by decide +kernel) (by decide +kernel) (by decide +kernel)
theorem es_sub_num {S : Sto} : eqV S (.str "sub") (.str "num") = some false := eqV_str (by decide +kernel) (by decide +kernel) (by decide +kernel)
theorem es_sub_state {S : Sto} : eqV S (.str "sub") (.str "state") = some false := eqV_str (by decide +kernel) (by decide +kernel) (by decide +kernel)
theorem es_sub_const {S : Sto} : eqV S (.str "sub") (.str "const") = some false := eqV_str (by decide +kernel) (by decide +kernel) (by decide +kernel)
theorem es_sub_pow {S : Sto} : eqV S (.str "sub") (.str "pow") = some false := eqV_str (by decide +kernel) (by decide +kernel) (by decide +kernel)
theorem es_sub_add {S : Sto} : eqV S (.str "sub") (.str "add") = some false := eqV_str (by decide +kernel) (by decide +kernel) (by decide +kernel)
theorem es_sub_sub {S : Sto} : eqV S (.str "sub") (.str "sub") = some true := eqV_str (by decide +kernel) (by decide +kernel) (by decide +kernel)
theorem es_sub_mul {S : Sto} : eqV S (.str "sub") (.str "mul") = some false := eqV_str (by decide +kernel) (by decide +kernel) (by decide +kernel)
theorem es_sub_div {S : Sto} : eqV S (.str "sub") (.str "div") = some false := eqV_str (by decide +kernel) (by decide +kernel) (by decide +kernel)
theorem es_mul_num {S : Sto} : eqV S (.str "mul") (.str "num") = some false := eqV_str (by decide +kernel) (by decide +kernel) (by decide +kernel)
theorem es_mul_state {S : Sto} : eqV S (.str "mul") (.str "state") = some false := eqV_str (by decide +kernel) (by decide +kernel) (by decide +kernel)
theorem es_mul_const {S : Sto} : eqV S (.str "mul") (.str "const") = some false := eqV_str (by decide +kernel) (by decide +kernel) (by decide +kernel)
theorem es_mul_pow {S : Sto} : eqV S (.str "mul") (.str "pow") = some false := eqV_str (by decide +kernel) (by decide +kernel) (by decide +kernel)
theorem es_mul_add {S : Sto} : eqV S (.str "mul") (.str "add") = some false := eqV_str (by decide +kernel) (by decide +kernel) (by decide +kernel)
theorem es_mul_sub {S : Sto} : eqV S (.str "mul") (.str "sub") = some false := eqV_str (by decide +kernel) (by decide +kernel) (by decide +kernel)
theorem es_mul_mul {S : Sto} : eqV S (.str "mul") (.str "mul") = some true := eqV_str (by decide +kernel) (by decide +kernel) (by decide +kernel)
theorem es_mul_div {S : Sto} : eqV S (.str "mul") (.str "div") = some false := eqV_str (by decide +kernel) (by decide +kernel) (by decide +kernel)
theorem es_div_num {S : Sto} : eqV S (.str "div") (.str "num") = some false := eqV_str (by decide +kernel) (by decide +kernel) (by decide +kernel)
theorem es_div_state {S : Sto} : eqV S (.str "div") (.str "state") = some false := eqV_str (by decide +kernel) (by decide +kernel) (by decide +kernel)
theorem es_div_const {S : Sto} : eqV S (.str "div") (.str "const") = some false := eqV_str (by decide +kernel) (by decide +kernel) (by decide +kernel)
theorem es_div_pow {S : Sto} : eqV S (.str "div") (.str "pow") = some false := eqV_str (by decide +kernel) (by decide +kernel) (by decide +kernel)
theorem es_div_add {S : Sto} : eqV S (.str "div") (.str "add") = some false := eqV_str (by decide +kernel) (by decide +kernel) (by decide +kernel)
theorem es_div_sub {S : Sto} : eqV S (.str "div") (.str "sub") = some false := eqV_str (by decide +kernel) (by decide +kernel) (by decide +kernel)
theorem es_div_mul {S : Sto} : eqV S (.str "div") (.str "mul") = some false := eqV_str (by decide +kernel) (by decide +kernel) (by decide +kernel)
theorem es_div_div {S : Sto} : eqV S (.str "div") (.str "div") = some true := eqV_str (by decide +kernel) (by decide +kernel) (by decide +kernel)
end MP
end
section
set_option Elab.async false
set_option linter.all false
set_option maxRecDepth 100000
set_option maxHeartbeats 4000000
/-! the defs of the text as MP has them (printed by wip/gen.py) -/
namespace K16
open PySem PySem.Spec PyProof.Rows L2 MP
def top (i : Nat) : Stmt := PySem.Challenge.pw_motionsheld_k16_ranges_of_expressions.main.body.getD i (.Pass ⟨0, 0, 0, 0⟩)
def b_make : Ss := .cons (.ifs (.cmp .eq (.var 1) (.cst (.int 0))) (.cons (.raise 0 .nil) .nil) .nil)
  (.cons (.ifs (.cmp .lt (.var 1) (.cst (.int 0))) (.cons (.asg (.of (.name 0)) (.neg (.var 0)))
  (.cons (.asg (.of (.name 1)) (.neg (.var 1))) .nil)) .nil)
  (.cons (.asg (.of (.name 2)) (.bi .gcd (.cons (.var 0) (.cons (.var 1) .nil))))
  (.cons (.ret (.tup (.cons (.bin .fdiv (.var 0) (.var 2)) (.cons (.bin .fdiv (.var 1) (.var 2)) .nil)))) .nil)))
def b_add : Ss := .cons (.ifs (.cmp .eq (.ix (.var 0) (.cst (.int 1))) (.ix (.var 1) (.cst (.int 1)))) (.cons (.ret (.call 0 (.cons (.bin .add (.ix (.var 0) (.cst (.int 0))) (.ix (.var 1) (.cst (.int 0)))) (.cons (.ix (.var 0) (.cst (.int 1))) .nil)))) .nil) .nil)
  (.cons (.ret (.call 0 (.cons (.bin .add (.bin .mul (.ix (.var 0) (.cst (.int 0))) (.ix (.var 1) (.cst (.int 1)))) (.bin .mul (.ix (.var 1) (.cst (.int 0))) (.ix (.var 0) (.cst (.int 1))))) (.cons (.bin .mul (.ix (.var 0) (.cst (.int 1))) (.ix (.var 1) (.cst (.int 1)))) .nil)))) .nil)
def b_neg : Ss := .cons (.ret (.tup (.cons (.neg (.ix (.var 0) (.cst (.int 0)))) (.cons (.ix (.var 0) (.cst (.int 1))) .nil)))) .nil
def b_mul : Ss := .cons (.ret (.call 0 (.cons (.bin .mul (.ix (.var 0) (.cst (.int 0))) (.ix (.var 1) (.cst (.int 0)))) (.cons (.bin .mul (.ix (.var 0) (.cst (.int 1))) (.ix (.var 1) (.cst (.int 1)))) .nil)))) .nil
def b_div : Ss := .cons (.ret (.call 0 (.cons (.bin .mul (.ix (.var 0) (.cst (.int 0))) (.ix (.var 1) (.cst (.int 1)))) (.cons (.bin .mul (.ix (.var 0) (.cst (.int 1))) (.ix (.var 1) (.cst (.int 0)))) .nil)))) .nil
def b_compare : Ss := .cons (.asg (.of (.name 2)) (.bin .mul (.ix (.var 0) (.cst (.int 0))) (.ix (.var 1) (.cst (.int 1)))))
  (.cons (.asg (.of (.name 3)) (.bin .mul (.ix (.var 1) (.cst (.int 0))) (.ix (.var 0) (.cst (.int 1)))))
  (.cons (.ifs (.cmp .lt (.var 2) (.var 3)) (.cons (.ret (.neg (.cst (.int 1)))) .nil) .nil)
  (.cons (.ret (.ife (.cmp .gt (.var 2) (.var 3)) (.cst (.int 1)) (.cst (.int 0)))) .nil)))
def b_least : Ss := .cons (.ret (.ife (.cmp .lt (.call 5 (.cons (.var 1) (.cons (.var 0) .nil))) (.cst (.int 0))) (.var 1) (.var 0))) .nil
def b_greatest : Ss := .cons (.ret (.ife (.cmp .gt (.call 5 (.cons (.var 1) (.cons (.var 0) .nil))) (.cst (.int 0))) (.var 1) (.var 0))) .nil
def b_power : Ss := .cons (.asg (.of (.name 2)) (.cst (.tup [.int 1, .int 1])))
  (.cons (.fors (.name 3) (.rng1 (.var 1)) (.cons (.asg (.of (.name 2)) (.call 3 (.cons (.var 2) (.cons (.var 0) .nil)))) .nil))
  (.cons (.ret (.var 2)) .nil))
def b_floor_to : Ss := .cons (.asg (.of (.name 2)) (.bin .shl (.cst (.int 1)) (.var 1)))
  (.cons (.ret (.call 0 (.cons (.bin .fdiv (.bin .mul (.ix (.var 0) (.cst (.int 0))) (.var 2)) (.ix (.var 0) (.cst (.int 1)))) (.cons (.var 2) .nil)))) .nil)
def b_ceil_to : Ss := .cons (.ret (.call 2 (.cons (.call 9 (.cons (.call 2 (.cons (.var 0) .nil)) (.cons (.var 1) .nil))) .nil))) .nil
def b_point : Ss := .cons (.ret (.tup (.cons (.var 0) (.cons (.var 0) .nil)))) .nil
def b_hull : Ss := .cons (.ret (.tup (.cons (.call 6 (.cons (.ix (.var 0) (.cst (.int 0))) (.cons (.ix (.var 1) (.cst (.int 0))) .nil))) (.cons (.call 7 (.cons (.ix (.var 0) (.cst (.int 1))) (.cons (.ix (.var 1) (.cst (.int 1))) .nil))) .nil)))) .nil
def b_plus : Ss := .cons (.ret (.tup (.cons (.call 1 (.cons (.ix (.var 0) (.cst (.int 0))) (.cons (.ix (.var 1) (.cst (.int 0))) .nil))) (.cons (.call 1 (.cons (.ix (.var 0) (.cst (.int 1))) (.cons (.ix (.var 1) (.cst (.int 1))) .nil))) .nil)))) .nil
def b_negative : Ss := .cons (.ret (.tup (.cons (.call 2 (.cons (.ix (.var 0) (.cst (.int 1))) .nil)) (.cons (.call 2 (.cons (.ix (.var 0) (.cst (.int 0))) .nil)) .nil)))) .nil
def b_minus : Ss := .cons (.ret (.call 13 (.cons (.var 0) (.cons (.call 14 (.cons (.var 1) .nil)) .nil)))) .nil
def b_scaled : Ss := .cons (.ifs (.cmp .lt (.ix (.var 1) (.cst (.int 0))) (.cst (.int 0))) (.cons (.ret (.tup (.cons (.call 3 (.cons (.ix (.var 0) (.cst (.int 1))) (.cons (.var 1) .nil))) (.cons (.call 3 (.cons (.ix (.var 0) (.cst (.int 0))) (.cons (.var 1) .nil))) .nil)))) .nil) .nil)
  (.cons (.ret (.tup (.cons (.call 3 (.cons (.ix (.var 0) (.cst (.int 0))) (.cons (.var 1) .nil))) (.cons (.call 3 (.cons (.ix (.var 0) (.cst (.int 1))) (.cons (.var 1) .nil))) .nil)))) .nil)
def b_times : Ss := .cons (.ret (.call 12 (.cons (.call 16 (.cons (.var 0) (.cons (.ix (.var 1) (.cst (.int 0))) .nil))) (.cons (.call 16 (.cons (.var 0) (.cons (.ix (.var 1) (.cst (.int 1))) .nil))) .nil)))) .nil
def b_has : Ss := .cons (.ret (.and (.cmp .le (.call 5 (.cons (.ix (.var 0) (.cst (.int 0))) (.cons (.var 1) .nil))) (.cst (.int 0))) (.cmp .le (.call 5 (.cons (.var 1) (.cons (.ix (.var 0) (.cst (.int 1))) .nil))) (.cst (.int 0))))) .nil
def b_over : Ss := .cons (.ifs (.call 18 (.cons (.var 1) (.cons (.cst (.tup [.int 0, .int 1])) .nil))) (.cons (.raise 1 .nil) .nil) .nil)
  (.cons (.ret (.call 17 (.cons (.var 0) (.cons (.tup (.cons (.call 4 (.cons (.cst (.tup [.int 1, .int 1])) (.cons (.ix (.var 1) (.cst (.int 1))) .nil))) (.cons (.call 4 (.cons (.cst (.tup [.int 1, .int 1])) (.cons (.ix (.var 1) (.cst (.int 0))) .nil))) .nil))) .nil)))) .nil)
def b_raised : Ss := .cons (.ifs (.cmp .eq (.var 1) (.cst (.int 0))) (.cons (.ret (.call 11 (.cons (.cst (.tup [.int 1, .int 1])) .nil))) .nil) .nil)
  (.cons (.asg (.of (.name 2)) (.call 8 (.cons (.ix (.var 0) (.cst (.int 0))) (.cons (.var 1) .nil))))
  (.cons (.asg (.of (.name 3)) (.call 8 (.cons (.ix (.var 0) (.cst (.int 1))) (.cons (.var 1) .nil))))
  (.cons (.ifs (.cmp .eq (.bin .mod (.var 1) (.cst (.int 2))) (.cst (.int 1))) (.cons (.ret (.tup (.cons (.var 2) (.cons (.var 3) .nil)))) .nil) .nil)
  (.cons (.ifs (.call 18 (.cons (.var 0) (.cons (.cst (.tup [.int 0, .int 1])) .nil))) (.cons (.ret (.tup (.cons (.cst (.tup [.int 0, .int 1])) (.cons (.call 7 (.cons (.var 2) (.cons (.var 3) .nil))) .nil)))) .nil) .nil)
  (.cons (.ret (.tup (.cons (.call 6 (.cons (.var 2) (.cons (.var 3) .nil))) (.cons (.call 7 (.cons (.var 2) (.cons (.var 3) .nil))) .nil)))) .nil)))))
def b_inside : Ss := .cons (.ret (.and (.cmp .le (.call 5 (.cons (.ix (.var 1) (.cst (.int 0))) (.cons (.ix (.var 0) (.cst (.int 0))) .nil))) (.cst (.int 0))) (.cmp .le (.call 5 (.cons (.ix (.var 0) (.cst (.int 1))) (.cons (.ix (.var 1) (.cst (.int 1))) .nil))) (.cst (.int 0))))) .nil
def b_widen : Ss := .cons (.ret (.tup (.cons (.call 9 (.cons (.ix (.var 0) (.cst (.int 0))) (.cons (.var 1) .nil))) (.cons (.call 10 (.cons (.ix (.var 0) (.cst (.int 1))) (.cons (.var 1) .nil))) .nil)))) .nil
def b_range_over : Ss := .cons (.asg (.of (.name 4)) (.ix (.var 0) (.cst (.int 0))))
  (.cons (.ifs (.cmp .eq (.var 4) (.cst (.str "num"))) (.cons (.ret (.call 22 (.cons (.call 11 (.cons (.ix (.var 0) (.cst (.int 1))) .nil)) (.cons (.var 3) .nil)))) .nil) .nil)
  (.cons (.ifs (.cmp .eq (.var 4) (.cst (.str "state"))) (.cons (.ret (.call 22 (.cons (.ix (.var 1) (.ix (.var 0) (.cst (.int 1)))) (.cons (.var 3) .nil)))) .nil) .nil)
  (.cons (.ifs (.cmp .eq (.var 4) (.cst (.str "const"))) (.cons (.ret (.call 22 (.cons (.ix (.var 2) (.ix (.var 0) (.cst (.int 1)))) (.cons (.var 3) .nil)))) .nil) .nil)
  (.cons (.asg (.of (.name 5)) (.call 23 (.cons (.ix (.var 0) (.cst (.int 1))) (.cons (.var 1) (.cons (.var 2) (.cons (.var 3) .nil))))))
  (.cons (.ifs (.cmp .eq (.var 4) (.cst (.str "pow"))) (.cons (.ret (.call 22 (.cons (.call 20 (.cons (.var 5) (.cons (.ix (.var 0) (.cst (.int 2))) .nil))) (.cons (.var 3) .nil)))) .nil) .nil)
  (.cons (.asg (.of (.name 6)) (.call 23 (.cons (.ix (.var 0) (.cst (.int 2))) (.cons (.var 1) (.cons (.var 2) (.cons (.var 3) .nil))))))
  (.cons (.ifs (.cmp .eq (.var 4) (.cst (.str "add"))) (.cons (.ret (.call 22 (.cons (.call 13 (.cons (.var 5) (.cons (.var 6) .nil))) (.cons (.var 3) .nil)))) .nil) .nil)
  (.cons (.ifs (.cmp .eq (.var 4) (.cst (.str "sub"))) (.cons (.ret (.call 22 (.cons (.call 15 (.cons (.var 5) (.cons (.var 6) .nil))) (.cons (.var 3) .nil)))) .nil) .nil)
  (.cons (.ifs (.cmp .eq (.var 4) (.cst (.str "mul"))) (.cons (.ret (.call 22 (.cons (.call 17 (.cons (.var 5) (.cons (.var 6) .nil))) (.cons (.var 3) .nil)))) .nil) .nil)
  (.cons (.ret (.call 22 (.cons (.call 19 (.cons (.var 5) (.cons (.var 6) .nil))) (.cons (.var 3) .nil)))) .nil))))))))))
def b__law_mix : Ss := .cons (.asg (.of (.name 1)) (.bin .mod (.bi .int (.cons (.var 0) .nil)) (.cst (.int 2147483647))))
  (.cons (.asg (.of (.name 1)) (.bin .mod (.bi .int (.cons (.bin .add (.bin .mul (.var 1) (.cst (.int 48271))) (.cst (.int 11))) .nil)) (.cst (.int 2147483647))))
  (.cons (.ret (.bin .mod (.bi .int (.cons (.bin .add (.bin .mul (.var 1) (.cst (.int 69621))) (.cst (.int 5))) .nil)) (.cst (.int 2147483629)))) .nil))
def b__law_number : Ss := .cons (.ifs (.cmp .ge (.var 0) (.bin .pow (.cst (.int 10)) (.cst (.int 18)))) (.cons (.ret (.var 0)) .nil) .nil)
  (.cons (.asg (.of (.name 1)) (.call 24 (.cons (.var 0) .nil)))
  (.cons (.ret (.bin .add (.bin .mul (.var 1) (.cst (.int 2147483629))) (.call 24 (.cons (.bin .add (.var 1) (.var 0)) .nil)))) .nil))
def b__law_state : Ss := .cons (.ret (.lst (.cons (.cst (.int 0)) (.cons (.bi .list (.cons (.var 0) .nil)) (.cons (.cst (.int 0)) (.cons (.bin .add (.cst (.int 1)) (.bi .len (.cons (.var 0) .nil))) .nil)))))) .nil
def b__law_draw : Ss := .cons (.ifs (.and (.cmp .lt (.ix (.var 0) (.cst (.int 0))) (.var 1)) (.cmp .lt (.ix (.var 0) (.cst (.int 2))) (.bi .len (.cons (.ix (.var 0) (.cst (.int 1))) .nil)))) (.cons (.asg (.sub (.var 0) (.cst (.int 0))) (.call 25 (.cons (.ix (.ix (.var 0) (.cst (.int 1))) (.ix (.var 0) (.cst (.int 2)))) .nil)))
  (.cons (.asg (.sub (.var 0) (.cst (.int 2))) (.bin .add (.ix (.var 0) (.cst (.int 2))) (.cst (.int 1)))) .nil)) .nil)
  (.cons (.ifs (.cmp .eq (.ix (.var 0) (.cst (.int 0))) (.cst (.int 0))) (.cons (.asg (.sub (.var 0) (.cst (.int 3))) (.bin .mod (.bi .int (.cons (.bin .add (.bin .mul (.ix (.var 0) (.cst (.int 3))) (.cst (.int 48271))) (.cst (.int 7))) .nil)) (.cst (.int 2147483647))))
  (.cons (.ret (.bin .mod (.bi .int (.cons (.bin .fdiv (.ix (.var 0) (.cst (.int 3))) (.cst (.int 11))) .nil)) (.var 1))) .nil)) .nil)
  (.cons (.asg (.of (.name 2)) (.bin .mod (.bi .int (.cons (.ix (.var 0) (.cst (.int 0))) .nil)) (.var 1)))
  (.cons (.asg (.sub (.var 0) (.cst (.int 0))) (.bin .fdiv (.ix (.var 0) (.cst (.int 0))) (.var 1)))
  (.cons (.ret (.var 2)) .nil))))
def b__law_pair : Ss := .cons (.asg (.of (.name 1)) (.bin .add (.cst (.int 1)) (.call 27 (.cons (.var 0) (.cons (.cst (.int 5)) .nil)))))
  (.cons (.ret (.call 0 (.cons (.bin .sub (.call 27 (.cons (.var 0) (.cons (.bin .add (.bin .mul (.cst (.int 8)) (.var 1)) (.cst (.int 1))) .nil))) (.bin .mul (.cst (.int 4)) (.var 1))) (.cons (.var 1) .nil)))) .nil)
def b__law_tree : Ss := .cons (.asg (.of (.name 2)) (.call 27 (.cons (.var 0) (.cons (.ife (.cmp .gt (.var 1) (.cst (.int 0))) (.cst (.int 8)) (.cst (.int 3))) .nil))))
  (.cons (.ifs (.cmp .eq (.var 2) (.cst (.int 0))) (.cons (.ret (.tup (.cons (.cst (.str "num")) (.cons (.call 28 (.cons (.var 0) .nil)) .nil)))) .nil) .nil)
  (.cons (.ifs (.cmp .eq (.var 2) (.cst (.int 1))) (.cons (.ret (.tup (.cons (.cst (.str "state")) (.cons (.call 27 (.cons (.var 0) (.cons (.cst (.int 2)) .nil))) .nil)))) .nil) .nil)
  (.cons (.ifs (.cmp .eq (.var 2) (.cst (.int 2))) (.cons (.ret (.tup (.cons (.cst (.str "const")) (.cons (.call 27 (.cons (.var 0) (.cons (.cst (.int 2)) .nil))) .nil)))) .nil) .nil)
  (.cons (.ifs (.cmp .eq (.var 2) (.cst (.int 7))) (.cons (.ret (.tup (.cons (.cst (.str "pow")) (.cons (.call 29 (.cons (.var 0) (.cons (.bin .sub (.var 1) (.cst (.int 1))) .nil))) (.cons (.call 27 (.cons (.var 0) (.cons (.cst (.int 5)) .nil))) .nil))))) .nil) .nil)
  (.cons (.asg (.of (.name 3)) (.call 29 (.cons (.var 0) (.cons (.bin .sub (.var 1) (.cst (.int 1))) .nil))))
  (.cons (.ret (.tup (.cons (.ix (.lst (.cons (.cst (.str "add")) (.cons (.cst (.str "sub")) (.cons (.cst (.str "mul")) (.cons (.cst (.str "div")) .nil))))) (.bin .sub (.var 2) (.cst (.int 3)))) (.cons (.var 3) (.cons (.call 29 (.cons (.var 0) (.cons (.bin .sub (.var 1) (.cst (.int 1))) .nil))) .nil))))) .nil))))))
def b__law_value : Ss := .cons (.asg (.of (.name 3)) (.ix (.var 0) (.cst (.int 0))))
  (.cons (.ifs (.cmp .eq (.var 3) (.cst (.str "num"))) (.cons (.ret (.ix (.var 0) (.cst (.int 1)))) .nil) .nil)
  (.cons (.ifs (.cmp .eq (.var 3) (.cst (.str "state"))) (.cons (.ret (.ix (.var 1) (.ix (.var 0) (.cst (.int 1))))) .nil) .nil)
  (.cons (.ifs (.cmp .eq (.var 3) (.cst (.str "const"))) (.cons (.ret (.ix (.var 2) (.ix (.var 0) (.cst (.int 1))))) .nil) .nil)
  (.cons (.asg (.of (.name 4)) (.call 30 (.cons (.ix (.var 0) (.cst (.int 1))) (.cons (.var 1) (.cons (.var 2) .nil)))))
  (.cons (.ifs (.cmp .isn (.var 4) (.cst .non)) (.cons (.ret (.cst .non)) .nil) .nil)
  (.cons (.ifs (.cmp .eq (.var 3) (.cst (.str "pow"))) (.cons (.asg (.of (.tup (.cons (.name 5) (.cons (.name 6) .nil)))) (.tup (.cons (.cst (.int 1)) (.cons (.cst (.int 1)) .nil))))
  (.cons (.fors (.name 7) (.rng1 (.ix (.var 0) (.cst (.int 2)))) (.cons (.par 5 6 (.bin .mul (.var 5) (.ix (.var 4) (.cst (.int 0)))) (.bin .mul (.var 6) (.ix (.var 4) (.cst (.int 1))))) .nil))
  (.cons (.ret (.tup (.cons (.var 5) (.cons (.var 6) .nil)))) .nil))) .nil)
  (.cons (.asg (.of (.name 8)) (.call 30 (.cons (.ix (.var 0) (.cst (.int 2))) (.cons (.var 1) (.cons (.var 2) .nil)))))
  (.cons (.ifs (.cmp .isn (.var 8) (.cst .non)) (.cons (.ret (.cst .non)) .nil) .nil)
  (.cons (.ifs (.cmp .eq (.var 3) (.cst (.str "mul"))) (.cons (.ret (.tup (.cons (.bin .mul (.ix (.var 4) (.cst (.int 0))) (.ix (.var 8) (.cst (.int 0)))) (.cons (.bin .mul (.ix (.var 4) (.cst (.int 1))) (.ix (.var 8) (.cst (.int 1)))) .nil)))) .nil) .nil)
  (.cons (.ifs (.cmp .eq (.var 3) (.cst (.str "div"))) (.cons (.ret (.ife (.cmp .eq (.ix (.var 8) (.cst (.int 0))) (.cst (.int 0))) (.cst .non) (.tup (.cons (.bin .mul (.ix (.var 4) (.cst (.int 0))) (.ix (.var 8) (.cst (.int 1)))) (.cons (.bin .mul (.ix (.var 4) (.cst (.int 1))) (.ix (.var 8) (.cst (.int 0)))) .nil))))) .nil) .nil)
  (.cons (.asg (.of (.name 9)) (.ife (.cmp .eq (.var 3) (.cst (.str "add"))) (.cst (.int 1)) (.neg (.cst (.int 1)))))
  (.cons (.ret (.tup (.cons (.bin .add (.bin .mul (.ix (.var 4) (.cst (.int 0))) (.ix (.var 8) (.cst (.int 1)))) (.bin .mul (.bin .mul (.var 9) (.ix (.var 8) (.cst (.int 0)))) (.ix (.var 4) (.cst (.int 1))))) (.cons (.bin .mul (.ix (.var 4) (.cst (.int 1))) (.ix (.var 8) (.cst (.int 1)))) .nil)))) .nil))))))))))))
def b__law_equal : Ss := .cons (.ret (.cmp .eq (.bin .mul (.ix (.var 0) (.cst (.int 0))) (.ix (.var 1) (.cst (.int 1)))) (.bin .mul (.ix (.var 1) (.cst (.int 0))) (.ix (.var 0) (.cst (.int 1)))))) .nil
def b__law_side : Ss := .cons (.asg (.of (.name 1)) (.call 28 (.cons (.var 0) .nil)))
  (.cons (.ret (.ife (.cmp .eq (.call 27 (.cons (.var 0) (.cons (.cst (.int 3)) .nil))) (.cst (.int 0))) (.tup (.cons (.var 1) (.cons (.var 1) .nil))) (.tup (.cons (.var 1) (.cons (.call 1 (.cons (.var 1) (.cons (.call 0 (.cons (.bin .add (.cst (.int 1)) (.call 27 (.cons (.var 0) (.cons (.cst (.int 8)) .nil)))) (.cons (.cst (.int 4)) .nil))) .nil))) .nil))))) .nil)
def b__law_between : Ss := .cons (.asg (.of (.name 2)) (.call 0 (.cons (.call 27 (.cons (.var 0) (.cons (.cst (.int 5)) .nil))) (.cons (.cst (.int 4)) .nil))))
  (.cons (.ret (.call 1 (.cons (.ix (.var 1) (.cst (.int 0))) (.cons (.call 3 (.cons (.var 2) (.cons (.call 1 (.cons (.ix (.var 1) (.cst (.int 1))) (.cons (.call 3 (.cons (.tup (.cons (.neg (.cst (.int 1))) (.cons (.cst (.int 1)) .nil))) (.cons (.ix (.var 1) (.cst (.int 0))) .nil))) .nil))) .nil))) .nil)))) .nil)
def b__law_part : Ss := .cons (.asg (.of (.name 2)) (.call 33 (.cons (.var 0) (.cons (.var 1) .nil))))
  (.cons (.asg (.of (.name 3)) (.call 33 (.cons (.var 0) (.cons (.var 1) .nil))))
  (.cons (.ret (.ife (.cmp .le (.call 5 (.cons (.var 2) (.cons (.var 3) .nil))) (.cst (.int 0))) (.tup (.cons (.var 2) (.cons (.var 3) .nil))) (.tup (.cons (.var 3) (.cons (.var 2) .nil))))) .nil))
def b__law_range : Ss := .cons (.asg (.of (.name 4)) (.ix (.var 0) (.cst (.int 0))))
  (.cons (.ifs (.cmp .eq (.var 4) (.cst (.str "num"))) (.cons (.ret (.call 22 (.cons (.call 11 (.cons (.ix (.var 0) (.cst (.int 1))) .nil)) (.cons (.var 3) .nil)))) .nil) .nil)
  (.cons (.ifs (.cmp .eq (.var 4) (.cst (.str "state"))) (.cons (.ret (.call 22 (.cons (.ix (.var 1) (.ix (.var 0) (.cst (.int 1)))) (.cons (.var 3) .nil)))) .nil) .nil)
  (.cons (.ifs (.cmp .eq (.var 4) (.cst (.str "const"))) (.cons (.ret (.call 22 (.cons (.ix (.var 2) (.ix (.var 0) (.cst (.int 1)))) (.cons (.var 3) .nil)))) .nil) .nil)
  (.cons (.asg (.of (.name 5)) (.call 35 (.cons (.ix (.var 0) (.cst (.int 1))) (.cons (.var 1) (.cons (.var 2) (.cons (.var 3) .nil))))))
  (.cons (.ifs (.cmp .isn (.var 5) (.cst .non)) (.cons (.ret (.cst .non)) .nil) .nil)
  (.cons (.ifs (.cmp .eq (.var 4) (.cst (.str "pow"))) (.cons (.ret (.call 22 (.cons (.call 20 (.cons (.var 5) (.cons (.ix (.var 0) (.cst (.int 2))) .nil))) (.cons (.var 3) .nil)))) .nil) .nil)
  (.cons (.asg (.of (.name 6)) (.call 35 (.cons (.ix (.var 0) (.cst (.int 2))) (.cons (.var 1) (.cons (.var 2) (.cons (.var 3) .nil))))))
  (.cons (.ifs (.cmp .isn (.var 6) (.cst .non)) (.cons (.ret (.cst .non)) .nil) .nil)
  (.cons (.ifs (.cmp .eq (.var 4) (.cst (.str "add"))) (.cons (.ret (.call 22 (.cons (.call 13 (.cons (.var 5) (.cons (.var 6) .nil))) (.cons (.var 3) .nil)))) .nil) .nil)
  (.cons (.ifs (.cmp .eq (.var 4) (.cst (.str "sub"))) (.cons (.ret (.call 22 (.cons (.call 15 (.cons (.var 5) (.cons (.var 6) .nil))) (.cons (.var 3) .nil)))) .nil) .nil)
  (.cons (.ifs (.cmp .eq (.var 4) (.cst (.str "mul"))) (.cons (.ret (.call 22 (.cons (.call 17 (.cons (.var 5) (.cons (.var 6) .nil))) (.cons (.var 3) .nil)))) .nil) .nil)
  (.cons (.ifs (.and (.cmp .le (.call 5 (.cons (.ix (.var 6) (.cst (.int 0))) (.cons (.tup (.cons (.cst (.int 0)) (.cons (.cst (.int 1)) .nil))) .nil))) (.cst (.int 0))) (.cmp .le (.call 5 (.cons (.tup (.cons (.cst (.int 0)) (.cons (.cst (.int 1)) .nil))) (.cons (.ix (.var 6) (.cst (.int 1))) .nil))) (.cst (.int 0)))) (.cons (.ret (.cst .non)) .nil) .nil)
  (.cons (.ret (.call 22 (.cons (.call 19 (.cons (.var 5) (.cons (.var 6) .nil))) (.cons (.var 3) .nil)))) .nil)))))))))))))
def b__law_told : Ss := .cons (.tryo (.cons (.ret (.call 23 (.cons (.var 0) (.cons (.var 1) (.cons (.var 2) (.cons (.var 3) .nil)))))) .nil) 1 (some 4) (.cons (.ret (.cst .non)) .nil)) .nil
def b__law_held : Ss := .cons (.ret (.and (.cmp .le (.bin .mul (.ix (.ix (.var 0) (.cst (.int 0))) (.cst (.int 0))) (.ix (.var 1) (.cst (.int 1)))) (.bin .mul (.ix (.var 1) (.cst (.int 0))) (.ix (.ix (.var 0) (.cst (.int 0))) (.cst (.int 1))))) (.cmp .le (.bin .mul (.ix (.var 1) (.cst (.int 0))) (.ix (.ix (.var 0) (.cst (.int 1))) (.cst (.int 1)))) (.bin .mul (.ix (.ix (.var 0) (.cst (.int 1))) (.cst (.int 0))) (.ix (.var 1) (.cst (.int 1))))))) .nil
def b_law : Ss := .cons (.asg (.of (.name 1)) (.call 26 (.cons (.var 0) .nil)))
  (.cons (.asg (.of (.name 2)) (.call 29 (.cons (.var 1) (.cons (.bin .add (.cst (.int 1)) (.call 27 (.cons (.var 1) (.cons (.cst (.int 3)) .nil)))) .nil))))
  (.cons (.asg (.of (.name 3)) (.lc (.name 4) [4] (.rng1 (.cst (.int 4))) .none (.call 32 (.cons (.var 1) .nil))))
  (.cons (.asg (.of (.name 5)) (.bin .add (.cst (.int 4)) (.call 27 (.cons (.var 1) (.cons (.cst (.int 37)) .nil)))))
  (.cons (.asg (.of (.name 6)) (.call 36 (.cons (.var 2) (.cons (.slc (.var 3) .none (.some (.cst (.int 2)))) (.cons (.slc (.var 3) (.some (.cst (.int 2))) .none) (.cons (.var 5) .nil))))))
  (.cons (.ifs (.cmp .ne (.var 6) (.call 35 (.cons (.var 2) (.cons (.slc (.var 3) .none (.some (.cst (.int 2)))) (.cons (.slc (.var 3) (.some (.cst (.int 2))) .none) (.cons (.var 5) .nil)))))) (.cons (.ret (.cst (.bl false))) .nil) .nil)
  (.cons (.ifs (.cmp .isn (.var 6) (.cst .non)) (.cons (.ret (.cst (.bl true))) .nil) .nil)
  (.cons (.asg (.of (.name 7)) (.cst (.int 1)))
  (.cons (.fors (.name 4) (.rng1 (.var 5)) (.cons (.asg (.of (.name 7)) (.bin .mul (.var 7) (.cst (.int 2)))) .nil))
  (.cons (.ifs (.or (.cmp .ne (.bin .mod (.bi .int (.cons (.var 7) .nil)) (.ix (.ix (.var 6) (.cst (.int 0))) (.cst (.int 1)))) (.cst (.int 0))) (.cmp .ne (.bin .mod (.bi .int (.cons (.var 7) .nil)) (.ix (.ix (.var 6) (.cst (.int 1))) (.cst (.int 1)))) (.cst (.int 0)))) (.cons (.ret (.cst (.bl false))) .nil) .nil)
  (.cons (.fors (.name 8) (.rng1 (.cst (.int 3))) (.cons (.asg (.of (.name 9)) (.lc (.name 11) [11] (.seq (.var 3)) .none (.call 33 (.cons (.var 1) (.cons (.var 11) .nil)))))
  (.cons (.asg (.of (.name 10)) (.call 30 (.cons (.var 2) (.cons (.slc (.var 9) .none (.some (.cst (.int 2)))) (.cons (.slc (.var 9) (.some (.cst (.int 2))) .none) .nil)))))
  (.cons (.ifs (.cmp .isn (.var 10) (.cst .non)) (.cons (.ret (.cst (.bl false))) .nil) .nil)
  (.cons (.ifs (.cmp .lt (.ix (.var 10) (.cst (.int 1))) (.cst (.int 0))) (.cons (.asg (.of (.name 10)) (.tup (.cons (.bin .sub (.cst (.int 0)) (.ix (.var 10) (.cst (.int 0)))) (.cons (.bin .sub (.cst (.int 0)) (.ix (.var 10) (.cst (.int 1)))) .nil)))) .nil) .nil)
  (.cons (.ifs (.not (.call 37 (.cons (.var 6) (.cons (.var 10) .nil)))) (.cons (.ret (.cst (.bl false))) .nil) .nil) .nil))))))
  (.cons (.asg (.of (.name 12)) (.lc (.name 11) [11] (.seq (.var 3)) .none (.call 34 (.cons (.var 1) (.cons (.var 11) .nil)))))
  (.cons (.ret (.call 21 (.cons (.call 36 (.cons (.var 2) (.cons (.slc (.var 12) .none (.some (.cst (.int 2)))) (.cons (.slc (.var 12) (.some (.cst (.int 2))) .none) (.cons (.var 5) .nil))))) (.cons (.var 6) .nil)))) .nil))))))))))))
abbrev n_make : Nat := 0
abbrev n_add : Nat := 1
abbrev n_neg : Nat := 2
abbrev n_mul : Nat := 3
abbrev n_div : Nat := 4
abbrev n_compare : Nat := 5
abbrev n_least : Nat := 6
abbrev n_greatest : Nat := 7
abbrev n_power : Nat := 8
abbrev n_floor_to : Nat := 9
abbrev n_ceil_to : Nat := 10
abbrev n_point : Nat := 11
abbrev n_hull : Nat := 12
abbrev n_plus : Nat := 13
abbrev n_negative : Nat := 14
abbrev n_minus : Nat := 15
abbrev n_scaled : Nat := 16
abbrev n_times : Nat := 17
abbrev n_has : Nat := 18
abbrev n_over : Nat := 19
abbrev n_raised : Nat := 20
abbrev n_inside : Nat := 21
abbrev n_widen : Nat := 22
abbrev n_range_over : Nat := 23
abbrev n__law_mix : Nat := 24
abbrev n__law_number : Nat := 25
abbrev n__law_state : Nat := 26
abbrev n__law_draw : Nat := 27
abbrev n__law_pair : Nat := 28
abbrev n__law_tree : Nat := 29
abbrev n__law_value : Nat := 30
abbrev n__law_equal : Nat := 31
abbrev n__law_side : Nat := 32
abbrev n__law_between : Nat := 33
abbrev n__law_part : Nat := 34
abbrev n__law_range : Nat := 35
abbrev n__law_told : Nat := 36
abbrev n__law_held : Nat := 37
abbrev n_law : Nat := 38
def t_make : DefT := ⟨"make", top 8, [.ofString "top", .ofString "bottom", .ofString "common"], [.ofString "top", .ofString "bottom"], ⟨2, 3, b_make⟩⟩
def t_add : DefT := ⟨"add", top 9, [.ofString "a", .ofString "b"], [.ofString "a", .ofString "b"], ⟨2, 2, b_add⟩⟩
def t_neg : DefT := ⟨"neg", top 10, [.ofString "a"], [.ofString "a"], ⟨1, 1, b_neg⟩⟩
def t_mul : DefT := ⟨"mul", top 11, [.ofString "a", .ofString "b"], [.ofString "a", .ofString "b"], ⟨2, 2, b_mul⟩⟩
def t_div : DefT := ⟨"div", top 12, [.ofString "a", .ofString "b"], [.ofString "a", .ofString "b"], ⟨2, 2, b_div⟩⟩
def t_compare : DefT := ⟨"compare", top 13, [.ofString "a", .ofString "b", .ofString "left", .ofString "right"], [.ofString "a", .ofString "b"], ⟨2, 4, b_compare⟩⟩
def t_least : DefT := ⟨"least", top 14, [.ofString "a", .ofString "b"], [.ofString "a", .ofString "b"], ⟨2, 2, b_least⟩⟩
def t_greatest : DefT := ⟨"greatest", top 15, [.ofString "a", .ofString "b"], [.ofString "a", .ofString "b"], ⟨2, 2, b_greatest⟩⟩
def t_power : DefT := ⟨"power", top 16, [.ofString "a", .ofString "exponent", .ofString "result", .ofString "_"], [.ofString "a", .ofString "exponent"], ⟨2, 4, b_power⟩⟩
def t_floor_to : DefT := ⟨"floor_to", top 17, [.ofString "a", .ofString "bits", .ofString "scale"], [.ofString "a", .ofString "bits"], ⟨2, 3, b_floor_to⟩⟩
def t_ceil_to : DefT := ⟨"ceil_to", top 18, [.ofString "a", .ofString "bits"], [.ofString "a", .ofString "bits"], ⟨2, 2, b_ceil_to⟩⟩
def t_point : DefT := ⟨"point", top 20, [.ofString "a"], [.ofString "a"], ⟨1, 1, b_point⟩⟩
def t_hull : DefT := ⟨"hull", top 21, [.ofString "x", .ofString "y"], [.ofString "x", .ofString "y"], ⟨2, 2, b_hull⟩⟩
def t_plus : DefT := ⟨"plus", top 22, [.ofString "x", .ofString "y"], [.ofString "x", .ofString "y"], ⟨2, 2, b_plus⟩⟩
def t_negative : DefT := ⟨"negative", top 23, [.ofString "x"], [.ofString "x"], ⟨1, 1, b_negative⟩⟩
def t_minus : DefT := ⟨"minus", top 24, [.ofString "x", .ofString "y"], [.ofString "x", .ofString "y"], ⟨2, 2, b_minus⟩⟩
def t_scaled : DefT := ⟨"scaled", top 25, [.ofString "x", .ofString "a"], [.ofString "x", .ofString "a"], ⟨2, 2, b_scaled⟩⟩
def t_times : DefT := ⟨"times", top 26, [.ofString "x", .ofString "y"], [.ofString "x", .ofString "y"], ⟨2, 2, b_times⟩⟩
def t_has : DefT := ⟨"has", top 27, [.ofString "x", .ofString "a"], [.ofString "x", .ofString "a"], ⟨2, 2, b_has⟩⟩
def t_over : DefT := ⟨"over", top 28, [.ofString "x", .ofString "y"], [.ofString "x", .ofString "y"], ⟨2, 2, b_over⟩⟩
def t_raised : DefT := ⟨"raised", top 29, [.ofString "x", .ofString "exponent", .ofString "low", .ofString "high"], [.ofString "x", .ofString "exponent"], ⟨2, 4, b_raised⟩⟩
def t_inside : DefT := ⟨"inside", top 30, [.ofString "x", .ofString "y"], [.ofString "x", .ofString "y"], ⟨2, 2, b_inside⟩⟩
def t_widen : DefT := ⟨"widen", top 31, [.ofString "x", .ofString "bits"], [.ofString "x", .ofString "bits"], ⟨2, 2, b_widen⟩⟩
def t_range_over : DefT := ⟨"range_over", top 33, [.ofString "tree", .ofString "states", .ofString "consts", .ofString "bits", .ofString "kind", .ofString "left", .ofString "right"], [.ofString "tree", .ofString "states", .ofString "consts", .ofString "bits"], ⟨4, 7, b_range_over⟩⟩
def t__law_mix : DefT := ⟨"_law_mix", top 35, [.ofString "cell", .ofString "number"], [.ofString "cell"], ⟨1, 2, b__law_mix⟩⟩
def t__law_number : DefT := ⟨"_law_number", top 36, [.ofString "cell", .ofString "first"], [.ofString "cell"], ⟨1, 2, b__law_number⟩⟩
def t__law_state : DefT := ⟨"_law_state", top 37, [.ofString "script"], [.ofString "script"], ⟨1, 1, b__law_state⟩⟩
def t__law_draw : DefT := ⟨"_law_draw", top 38, [.ofString "state", .ofString "many", .ofString "digit"], [.ofString "state", .ofString "many"], ⟨2, 3, b__law_draw⟩⟩
def t__law_pair : DefT := ⟨"_law_pair", top 39, [.ofString "state", .ofString "bottom"], [.ofString "state"], ⟨1, 2, b__law_pair⟩⟩
def t__law_tree : DefT := ⟨"_law_tree", top 40, [.ofString "state", .ofString "deep", .ofString "kind", .ofString "left"], [.ofString "state", .ofString "deep"], ⟨2, 4, b__law_tree⟩⟩
def t__law_value : DefT := ⟨"_law_value", top 41, [.ofString "tree", .ofString "xs", .ofString "cs", .ofString "kind", .ofString "left", .ofString "top", .ofString "bottom", .ofString "k", .ofString "right", .ofString "sign"], [.ofString "tree", .ofString "xs", .ofString "cs"], ⟨3, 10, b__law_value⟩⟩
def t__law_equal : DefT := ⟨"_law_equal", top 42, [.ofString "a", .ofString "b"], [.ofString "a", .ofString "b"], ⟨2, 2, b__law_equal⟩⟩
def t__law_side : DefT := ⟨"_law_side", top 43, [.ofString "state", .ofString "low"], [.ofString "state"], ⟨1, 2, b__law_side⟩⟩
def t__law_between : DefT := ⟨"_law_between", top 44, [.ofString "state", .ofString "side", .ofString "weight"], [.ofString "state", .ofString "side"], ⟨2, 3, b__law_between⟩⟩
def t__law_part : DefT := ⟨"_law_part", top 45, [.ofString "state", .ofString "side", .ofString "a", .ofString "b"], [.ofString "state", .ofString "side"], ⟨2, 4, b__law_part⟩⟩
def t__law_range : DefT := ⟨"_law_range", top 46, [.ofString "tree", .ofString "xs", .ofString "cs", .ofString "bits", .ofString "kind", .ofString "left", .ofString "right"], [.ofString "tree", .ofString "xs", .ofString "cs", .ofString "bits"], ⟨4, 7, b__law_range⟩⟩
def t__law_told : DefT := ⟨"_law_told", top 47, [.ofString "tree", .ofString "xs", .ofString "cs", .ofString "bits", .ofString "e"], [.ofString "tree", .ofString "xs", .ofString "cs", .ofString "bits"], ⟨4, 5, b__law_told⟩⟩
def t__law_held : DefT := ⟨"_law_held", top 48, [.ofString "side", .ofString "a"], [.ofString "side", .ofString "a"], ⟨2, 2, b__law_held⟩⟩
def t_law : DefT := ⟨"law", top 49, [.ofString "script", .ofString "state", .ofString "tree", .ofString "sides", .ofString "k", .ofString "bits", .ofString "told", .ofString "scale", .ofString "turn", .ofString "place", .ofString "a", .ofString "side", .ofString "parts"], [.ofString "script"], ⟨1, 13, b_law⟩⟩
def D : List DefT := [t_make, t_add, t_neg, t_mul, t_div, t_compare, t_least, t_greatest, t_power, t_floor_to, t_ceil_to, t_point, t_hull, t_plus, t_negative, t_minus, t_scaled, t_times, t_has, t_over, t_raised, t_inside, t_widen, t_range_over, t__law_mix, t__law_number, t__law_state, t__law_draw, t__law_pair, t__law_tree, t__law_value, t__law_equal, t__law_side, t__law_between, t__law_part, t__law_range, t__law_told, t__law_held, t_law]
def F : List FDef := [⟨2, 3, b_make⟩, ⟨2, 2, b_add⟩, ⟨1, 1, b_neg⟩, ⟨2, 2, b_mul⟩, ⟨2, 2, b_div⟩, ⟨2, 4, b_compare⟩, ⟨2, 2, b_least⟩, ⟨2, 2, b_greatest⟩, ⟨2, 4, b_power⟩, ⟨2, 3, b_floor_to⟩, ⟨2, 2, b_ceil_to⟩, ⟨1, 1, b_point⟩, ⟨2, 2, b_hull⟩, ⟨2, 2, b_plus⟩, ⟨1, 1, b_negative⟩, ⟨2, 2, b_minus⟩, ⟨2, 2, b_scaled⟩, ⟨2, 2, b_times⟩, ⟨2, 2, b_has⟩, ⟨2, 2, b_over⟩, ⟨2, 4, b_raised⟩, ⟨2, 2, b_inside⟩, ⟨2, 2, b_widen⟩, ⟨4, 7, b_range_over⟩, ⟨1, 2, b__law_mix⟩, ⟨1, 2, b__law_number⟩, ⟨1, 1, b__law_state⟩, ⟨2, 3, b__law_draw⟩, ⟨1, 2, b__law_pair⟩, ⟨2, 4, b__law_tree⟩, ⟨3, 10, b__law_value⟩, ⟨2, 2, b__law_equal⟩, ⟨1, 2, b__law_side⟩, ⟨2, 3, b__law_between⟩, ⟨2, 4, b__law_part⟩, ⟨4, 7, b__law_range⟩, ⟨4, 5, b__law_told⟩, ⟨2, 2, b__law_held⟩, ⟨1, 13, b_law⟩]
def T : Tab := ⟨[.ofString "make", .ofString "add", .ofString "neg", .ofString "mul", .ofString "div", .ofString "compare", .ofString "least", .ofString "greatest", .ofString "power", .ofString "floor_to", .ofString "ceil_to", .ofString "point", .ofString "hull", .ofString "plus", .ofString "negative", .ofString "minus", .ofString "scaled", .ofString "times", .ofString "has", .ofString "over", .ofString "raised", .ofString "inside", .ofString "widen", .ofString "range_over", .ofString "_law_mix", .ofString "_law_number", .ofString "_law_state", .ofString "_law_draw", .ofString "_law_pair", .ofString "_law_tree", .ofString "_law_value", .ofString "_law_equal", .ofString "_law_side", .ofString "_law_between", .ofString "_law_part", .ofString "_law_range", .ofString "_law_told", .ofString "_law_held", .ofString "law"], [("Zero", [], [.ofString "Zero", .ofString "Trouble", .ofString "ValueError"]), ("Hole", [], [.ofString "Hole", .ofString "Trouble", .ofString "ValueError"])], [("ZERO", .tup [.int 0, .int 1]), ("ONE", .tup [.int 1, .int 1])], [.ofString "gcd", .ofString "int", .ofString "len", .ofString "list", .ofString "range"]⟩
theorem look_make : DefT.look T t_make = true := by decide +kernel
theorem look_add : DefT.look T t_add = true := by decide +kernel
theorem look_neg : DefT.look T t_neg = true := by decide +kernel
theorem look_mul : DefT.look T t_mul = true := by decide +kernel
theorem look_div : DefT.look T t_div = true := by decide +kernel
theorem look_compare : DefT.look T t_compare = true := by decide +kernel
theorem look_least : DefT.look T t_least = true := by decide +kernel
theorem look_greatest : DefT.look T t_greatest = true := by decide +kernel
theorem look_power : DefT.look T t_power = true := by decide +kernel
theorem look_floor_to : DefT.look T t_floor_to = true := by decide +kernel
theorem look_ceil_to : DefT.look T t_ceil_to = true := by decide +kernel
theorem look_point : DefT.look T t_point = true := by decide +kernel
theorem look_hull : DefT.look T t_hull = true := by decide +kernel
theorem look_plus : DefT.look T t_plus = true := by decide +kernel
theorem look_negative : DefT.look T t_negative = true := by decide +kernel
theorem look_minus : DefT.look T t_minus = true := by decide +kernel
theorem look_scaled : DefT.look T t_scaled = true := by decide +kernel
theorem look_times : DefT.look T t_times = true := by decide +kernel
theorem look_has : DefT.look T t_has = true := by decide +kernel
theorem look_over : DefT.look T t_over = true := by decide +kernel
theorem look_raised : DefT.look T t_raised = true := by decide +kernel
theorem look_inside : DefT.look T t_inside = true := by decide +kernel
theorem look_widen : DefT.look T t_widen = true := by decide +kernel
theorem look_range_over : DefT.look T t_range_over = true := by decide +kernel
theorem look__law_mix : DefT.look T t__law_mix = true := by decide +kernel
theorem look__law_number : DefT.look T t__law_number = true := by decide +kernel
theorem look__law_state : DefT.look T t__law_state = true := by decide +kernel
theorem look__law_draw : DefT.look T t__law_draw = true := by decide +kernel
theorem look__law_pair : DefT.look T t__law_pair = true := by decide +kernel
theorem look__law_tree : DefT.look T t__law_tree = true := by decide +kernel
theorem look__law_value : DefT.look T t__law_value = true := by decide +kernel
theorem look__law_equal : DefT.look T t__law_equal = true := by decide +kernel
theorem look__law_side : DefT.look T t__law_side = true := by decide +kernel
theorem look__law_between : DefT.look T t__law_between = true := by decide +kernel
theorem look__law_part : DefT.look T t__law_part = true := by decide +kernel
theorem look__law_range : DefT.look T t__law_range = true := by decide +kernel
theorem look__law_told : DefT.look T t__law_told = true := by decide +kernel
theorem look__law_held : DefT.look T t__law_held = true := by decide +kernel
theorem look_law : DefT.look T t_law = true := by decide +kernel
theorem bd_make : BdT t_make := fun _ _ _ _ _ _ us hl => match us, hl with | [_, _], _ => rfl
theorem bd_add : BdT t_add := fun _ _ _ _ _ _ us hl => match us, hl with | [_, _], _ => rfl
theorem bd_neg : BdT t_neg := fun _ _ _ _ _ _ us hl => match us, hl with | [_], _ => rfl
theorem bd_mul : BdT t_mul := fun _ _ _ _ _ _ us hl => match us, hl with | [_, _], _ => rfl
theorem bd_div : BdT t_div := fun _ _ _ _ _ _ us hl => match us, hl with | [_, _], _ => rfl
theorem bd_compare : BdT t_compare := fun _ _ _ _ _ _ us hl => match us, hl with | [_, _], _ => rfl
theorem bd_least : BdT t_least := fun _ _ _ _ _ _ us hl => match us, hl with | [_, _], _ => rfl
theorem bd_greatest : BdT t_greatest := fun _ _ _ _ _ _ us hl => match us, hl with | [_, _], _ => rfl
theorem bd_power : BdT t_power := fun _ _ _ _ _ _ us hl => match us, hl with | [_, _], _ => rfl
theorem bd_floor_to : BdT t_floor_to := fun _ _ _ _ _ _ us hl => match us, hl with | [_, _], _ => rfl
theorem bd_ceil_to : BdT t_ceil_to := fun _ _ _ _ _ _ us hl => match us, hl with | [_, _], _ => rfl
theorem bd_point : BdT t_point := fun _ _ _ _ _ _ us hl => match us, hl with | [_], _ => rfl
theorem bd_hull : BdT t_hull := fun _ _ _ _ _ _ us hl => match us, hl with | [_, _], _ => rfl
theorem bd_plus : BdT t_plus := fun _ _ _ _ _ _ us hl => match us, hl with | [_, _], _ => rfl
theorem bd_negative : BdT t_negative := fun _ _ _ _ _ _ us hl => match us, hl with | [_], _ => rfl
theorem bd_minus : BdT t_minus := fun _ _ _ _ _ _ us hl => match us, hl with | [_, _], _ => rfl
theorem bd_scaled : BdT t_scaled := fun _ _ _ _ _ _ us hl => match us, hl with | [_, _], _ => rfl
theorem bd_times : BdT t_times := fun _ _ _ _ _ _ us hl => match us, hl with | [_, _], _ => rfl
theorem bd_has : BdT t_has := fun _ _ _ _ _ _ us hl => match us, hl with | [_, _], _ => rfl
theorem bd_over : BdT t_over := fun _ _ _ _ _ _ us hl => match us, hl with | [_, _], _ => rfl
theorem bd_raised : BdT t_raised := fun _ _ _ _ _ _ us hl => match us, hl with | [_, _], _ => rfl
theorem bd_inside : BdT t_inside := fun _ _ _ _ _ _ us hl => match us, hl with | [_, _], _ => rfl
theorem bd_widen : BdT t_widen := fun _ _ _ _ _ _ us hl => match us, hl with | [_, _], _ => rfl
theorem bd_range_over : BdT t_range_over := fun _ _ _ _ _ _ us hl => match us, hl with | [_, _, _, _], _ => rfl
theorem bd__law_mix : BdT t__law_mix := fun _ _ _ _ _ _ us hl => match us, hl with | [_], _ => rfl
theorem bd__law_number : BdT t__law_number := fun _ _ _ _ _ _ us hl => match us, hl with | [_], _ => rfl
theorem bd__law_state : BdT t__law_state := fun _ _ _ _ _ _ us hl => match us, hl with | [_], _ => rfl
theorem bd__law_draw : BdT t__law_draw := fun _ _ _ _ _ _ us hl => match us, hl with | [_, _], _ => rfl
theorem bd__law_pair : BdT t__law_pair := fun _ _ _ _ _ _ us hl => match us, hl with | [_], _ => rfl
theorem bd__law_tree : BdT t__law_tree := fun _ _ _ _ _ _ us hl => match us, hl with | [_, _], _ => rfl
theorem bd__law_value : BdT t__law_value := fun _ _ _ _ _ _ us hl => match us, hl with | [_, _, _], _ => rfl
theorem bd__law_equal : BdT t__law_equal := fun _ _ _ _ _ _ us hl => match us, hl with | [_, _], _ => rfl
theorem bd__law_side : BdT t__law_side := fun _ _ _ _ _ _ us hl => match us, hl with | [_], _ => rfl
theorem bd__law_between : BdT t__law_between := fun _ _ _ _ _ _ us hl => match us, hl with | [_, _], _ => rfl
theorem bd__law_part : BdT t__law_part := fun _ _ _ _ _ _ us hl => match us, hl with | [_, _], _ => rfl
theorem bd__law_range : BdT t__law_range := fun _ _ _ _ _ _ us hl => match us, hl with | [_, _, _, _], _ => rfl
theorem bd__law_told : BdT t__law_told := fun _ _ _ _ _ _ us hl => match us, hl with | [_, _, _, _], _ => rfl
theorem bd__law_held : BdT t__law_held := fun _ _ _ _ _ _ us hl => match us, hl with | [_, _], _ => rfl
theorem bd_law : BdT t_law := fun _ _ _ _ _ _ us hl => match us, hl with | [_], _ => rfl
theorem looks : (D.all fun t => t.look T) = true := by
  simp only [D, List.all_cons, List.all_nil, look_make, look_add, look_neg, look_mul, look_div, look_compare, look_least, look_greatest, look_power, look_floor_to, look_ceil_to, look_point, look_hull, look_plus, look_negative, look_minus, look_scaled, look_times, look_has, look_over, look_raised, look_inside, look_widen, look_range_over, look__law_mix, look__law_number, look__law_state, look__law_draw, look__law_pair, look__law_tree, look__law_value, look__law_equal, look__law_side, look__law_between, look__law_part, look__law_range, look__law_told, look__law_held, look_law, Bool.and_self]
theorem bds : AllT BdT D := .cons bd_make (.cons bd_add (.cons bd_neg (.cons bd_mul (.cons bd_div (.cons bd_compare (.cons bd_least (.cons bd_greatest (.cons bd_power (.cons bd_floor_to (.cons bd_ceil_to (.cons bd_point (.cons bd_hull (.cons bd_plus (.cons bd_negative (.cons bd_minus (.cons bd_scaled (.cons bd_times (.cons bd_has (.cons bd_over (.cons bd_raised (.cons bd_inside (.cons bd_widen (.cons bd_range_over (.cons bd__law_mix (.cons bd__law_number (.cons bd__law_state (.cons bd__law_draw (.cons bd__law_pair (.cons bd__law_tree (.cons bd__law_value (.cons bd__law_equal (.cons bd__law_side (.cons bd__law_between (.cons bd__law_part (.cons bd__law_range (.cons bd__law_told (.cons bd__law_held (.cons bd_law (.nil)))))))))))))))))))))))))))))))))))))))
theorem fdsEq : D.map (·.fd) = F := rfl
abbrev R : PySem.W.OpenRow := PySem.W.OpenLaw.row PySem.Challenge.rw_motionsheld_k16_ranges_of_expressions
abbrev view : List Nat := [0, 49]
abbrev loose : List Str := [.ofString "Trouble", .ofString "Zero", .ofString "Hole", .ofString "make", .ofString "add", .ofString "neg", .ofString "mul", .ofString "div", .ofString "compare", .ofString "least", .ofString "greatest", .ofString "power", .ofString "floor_to", .ofString "ceil_to", .ofString "point", .ofString "hull", .ofString "plus", .ofString "negative", .ofString "minus", .ofString "scaled", .ofString "times", .ofString "has", .ofString "over", .ofString "raised", .ofString "inside", .ofString "widen", .ofString "range_over", .ofString "_law_mix", .ofString "_law_number", .ofString "_law_state", .ofString "_law_draw", .ofString "_law_pair", .ofString "_law_tree", .ofString "_law_value", .ofString "_law_equal", .ofString "_law_side", .ofString "_law_between", .ofString "_law_part", .ofString "_law_range", .ofString "_law_told", .ofString "_law_held", .ofString "ZERO", .ofString "ONE"]
abbrev lawAt : Nat := 49
abbrev lawNo : Nat := 38
end K16
namespace K16
open PySem PySem.Spec PyProof.Rows L2 MP
abbrev hk : PySem.W.Hook := hookM 4 T D
def ob (s : PySem.W.SharedT) : Bool × List He.FnW := seenM 4 T D (HandSHeadRun.getT s)
theorem ob_eq (s : PySem.W.SharedT) : ob s = hk.obs s.abs := seenM_eq (HandSHeadRun.getT_eq s)
theorem run (w : World) : HandSHeadRun.RunEqI R (PySem.W.view R.prog view) hk ob 40000 loose w := by
  unfold HandSHeadRun.RunEqI
  kernel_rfl
end K16
end
section
set_option Elab.async false
set_option linter.all false
set_option maxRecDepth 100000
set_option maxHeartbeats 1000000
namespace K16
open PySem MP
theorem c_make {d : Nat} {t b : Int} {S : Sto} (hb : sz 8900 b) : callN F (d + 1) n_make [.int t, .int b] S = if b = 0 then .exc 0 [] S else .ok (pr (mkT t b) (mkB t b)) S := by
  rw [callN_of (fd := ⟨2, 3, b_make⟩) rfl rfl]
  by_cases h0 : b = 0
  · rw [if_pos h0]
    refine run_exc (σ := [some (.int t), some (.int b), none]) ?_ rfl
    simp [b_make, bd_ok, bd_exc, st_ok, st_exc, xss_cons, xss_nil, seq_next, seq_ret, seq_brk, seq_cont, seq_exc, eqV_int, xst, ev, evT, evs, evo, evc, evi, opR, opV, opt, cmV, cmI, ixV, itemAt, MP.placeOf, biR, bindT, bindTs, unslot, hold, unhold, truV, isTy, isV, h0]
  · rw [if_neg h0]
    have hg := mkG_pos (t := t) h0
    have hd : divOk (mkG t b) = true := divOk_of (k := 8900) (by
      unfold sz mkG
      have z : Nat.gcd t.natAbs b.natAbs ≤ b.natAbs := Nat.gcd_le_right _ (by omega)
      exact Nat.lt_of_le_of_lt z hb) (by decide) (by omega)
    refine run_ret ?_ rfl
    by_cases hn : b < 0
    · unfold mkT mkB mkG at *
      simp [b_make, bd_ok, bd_exc, st_ok, st_exc, xss_cons, xss_nil, seq_next, seq_ret, seq_brk, seq_cont, seq_exc, eqV_int, xst, ev, evT, evs, evo, evc, evi, opR, opV, opt, cmV, cmI, ixV, itemAt, MP.placeOf, biR, bindT, bindTs, unslot, hold, unhold, truV, isTy, isV, h0, hn, hd]
    · unfold mkT mkB mkG at *
      simp [b_make, bd_ok, bd_exc, st_ok, st_exc, xss_cons, xss_nil, seq_next, seq_ret, seq_brk, seq_cont, seq_exc, eqV_int, xst, ev, evT, evs, evo, evc, evi, opR, opV, opt, cmV, cmI, ixV, itemAt, MP.placeOf, biR, bindT, bindTs, unslot, hold, unhold, truV, isTy, isV, h0, hn, hd]
theorem c_makeQ {d : Nat} {t b T B : Int} {S : Sto} {k : Nat} (h0 : b ≠ 0) (h : t * B = T * b) (ht : sz k t) (hb : sz k b) (l : k ≤ 8900) : ∃ v, callN F (d + 1) n_make [.int t, .int b] S = .ok v S ∧ Q v T B k := by
  refine ⟨_, ?_, Q.mk h0 h ht hb⟩
  rw [c_make (hb.mono l), if_neg h0]
theorem c_neg {d : Nat} {t b : Int} {S : Sto} : callN F (d + 1) n_neg [pr t b] S = .ok (pr (-t) b) S := by
  rw [callN_of (fd := ⟨1, 1, b_neg⟩) rfl rfl]
  refine run_ret ?_ rfl
  simp [b_neg, bd_ok, bd_exc, st_ok, st_exc, xss_cons, xss_nil, seq_next, seq_ret, seq_brk, seq_cont, seq_exc, eqV_int, xst, ev, evT, evs, evo, evc, evi, opR, opV, opt, cmV, cmI, ixV, itemAt, MP.placeOf, biR, bindT, bindTs, unslot, hold, unhold, truV, isTy, isV]
theorem c_add {d k : Nat} {t1 b1 t2 b2 : Int} {S : Sto} (z1 : sz k t1) (z2 : sz k b1) (z3 : sz k t2) (z4 : sz k b2) (p1 : b1 ≠ 0) (p2 : b2 ≠ 0) (l : k + k + 1 ≤ 8900) :
    ∃ v, callN F (d + 2) n_add [pr t1 b1, pr t2 b2] S = .ok v S ∧ Q v (t1 * b2 + t2 * b1) (b1 * b2) (k + k + 1) := by
  have m1 : mulOk t1 b2 = true := mulOk_of z1 z4 (by omega)
  have m2 : mulOk t2 b1 = true := mulOk_of z3 z2 (by omega)
  have m3 : mulOk b1 b2 = true := mulOk_of z2 z4 (by omega)
  rw [callN_of (fd := ⟨2, 2, b_add⟩) rfl rfl]
  by_cases e : b1 = b2
  · subst e
    obtain ⟨v, e1, q⟩ := c_makeQ (d := d) (S := ⟨S.cells, false⟩) (t := t1 + t2) (b := b1) (T := t1 * b1 + t2 * b1) (B := b1 * b1) (k := k + k + 1) p1 (by rw [← Int.add_mul, Int.mul_assoc]) ((z1.add z3).mono (by omega)) (z2.mono (by omega)) l
    refine ⟨v, ?_, q⟩
    refine run_ret ?_ (by obtain ⟨_, _, rfl, _⟩ := q; rfl)
    simp [b_add, bd_ok, bd_exc, st_ok, st_exc, xss_cons, xss_nil, seq_next, seq_ret, seq_brk, seq_cont, seq_exc, eqV_int, xst, ev, evT, evs, evo, evc, evi, opR, opV, opt, cmV, cmI, ixV, itemAt, MP.placeOf, biR, bindT, bindTs, unslot, hold, unhold, truV, isTy, isV, e1]
  · obtain ⟨v, e1, q⟩ := c_makeQ (d := d) (S := ⟨S.cells, false⟩) (t := t1 * b2 + t2 * b1) (b := b1 * b2) (T := t1 * b2 + t2 * b1) (B := b1 * b2) (k := k + k + 1) (Int.mul_ne_zero p1 p2) rfl ((z1.mul z4).add (z3.mul z2)) ((z2.mul z4).mono (by omega)) l
    refine ⟨v, ?_, q⟩
    refine run_ret ?_ (by obtain ⟨_, _, rfl, _⟩ := q; rfl)
    simp [b_add, bd_ok, bd_exc, st_ok, st_exc, xss_cons, xss_nil, seq_next, seq_ret, seq_brk, seq_cont, seq_exc, eqV_int, xst, ev, evT, evs, evo, evc, evi, opR, opV, opt, cmV, cmI, ixV, itemAt, MP.placeOf, biR, bindT, bindTs, unslot, hold, unhold, truV, isTy, isV, e, m1, m2, m3, e1]
theorem c_mul {d j k : Nat} {t1 b1 t2 b2 : Int} {S : Sto} (z1 : sz j t1) (z2 : sz j b1) (z3 : sz k t2) (z4 : sz k b2) (p1 : b1 ≠ 0) (p2 : b2 ≠ 0) (l : j + k ≤ 8900) :
    ∃ v, callN F (d + 2) n_mul [pr t1 b1, pr t2 b2] S = .ok v S ∧ Q v (t1 * t2) (b1 * b2) (j + k) := by
  have m1 : mulOk t1 t2 = true := mulOk_of z1 z3 (by omega)
  have m3 : mulOk b1 b2 = true := mulOk_of z2 z4 (by omega)
  rw [callN_of (fd := ⟨2, 2, b_mul⟩) rfl rfl]
  obtain ⟨v, e1, q⟩ := c_makeQ (d := d) (S := ⟨S.cells, false⟩) (t := t1 * t2) (b := b1 * b2) (T := t1 * t2) (B := b1 * b2) (k := j + k) (Int.mul_ne_zero p1 p2) rfl (z1.mul z3) (z2.mul z4) l
  refine ⟨v, ?_, q⟩
  refine run_ret ?_ (by obtain ⟨_, _, rfl, _⟩ := q; rfl)
  simp [b_mul, bd_ok, bd_exc, st_ok, st_exc, xss_cons, xss_nil, seq_next, seq_ret, seq_brk, seq_cont, seq_exc, eqV_int, xst, ev, evT, evs, evo, evc, evi, opR, opV, opt, cmV, cmI, ixV, itemAt, MP.placeOf, biR, bindT, bindTs, unslot, hold, unhold, truV, isTy, isV, m1, m3, e1]
theorem c_div {d j k : Nat} {t1 b1 t2 b2 : Int} {S : Sto} (z1 : sz j t1) (z2 : sz j b1) (z3 : sz k t2) (z4 : sz k b2) (p1 : b1 ≠ 0) (p2 : t2 ≠ 0) (l : j + k ≤ 8900) :
    ∃ v, callN F (d + 2) n_div [pr t1 b1, pr t2 b2] S = .ok v S ∧ Q v (t1 * b2) (b1 * t2) (j + k) := by
  have m1 : mulOk t1 b2 = true := mulOk_of z1 z4 (by omega)
  have m3 : mulOk b1 t2 = true := mulOk_of z2 z3 (by omega)
  rw [callN_of (fd := ⟨2, 2, b_div⟩) rfl rfl]
  obtain ⟨v, e1, q⟩ := c_makeQ (d := d) (S := ⟨S.cells, false⟩) (t := t1 * b2) (b := b1 * t2) (T := t1 * b2) (B := b1 * t2) (k := j + k) (Int.mul_ne_zero p1 p2) rfl (z1.mul z4) (z2.mul z3) l
  refine ⟨v, ?_, q⟩
  refine run_ret ?_ (by obtain ⟨_, _, rfl, _⟩ := q; rfl)
  simp [b_div, bd_ok, bd_exc, st_ok, st_exc, xss_cons, xss_nil, seq_next, seq_ret, seq_brk, seq_cont, seq_exc, eqV_int, xst, ev, evT, evs, evo, evc, evi, opR, opV, opt, cmV, cmI, ixV, itemAt, MP.placeOf, biR, bindT, bindTs, unslot, hold, unhold, truV, isTy, isV, m1, m3, e1]
def cmp (t1 b1 t2 b2 : Int) : Int := if t1 * b2 < t2 * b1 then -1 else if t2 * b1 < t1 * b2 then 1 else 0
theorem c_compare {d k : Nat} {t1 b1 t2 b2 : Int} {S : Sto} (z1 : sz k t1) (z2 : sz k b1) (z3 : sz k t2) (z4 : sz k b2) (l : k ≤ 8900) : callN F (d + 1) n_compare [pr t1 b1, pr t2 b2] S = .ok (.int (cmp t1 b1 t2 b2)) S := by
  have m1 : mulOk t1 b2 = true := mulOk_of z1 z4 (by omega)
  have m2 : mulOk t2 b1 = true := mulOk_of z3 z2 (by omega)
  rw [callN_of (fd := ⟨2, 4, b_compare⟩) rfl rfl]
  refine run_ret ?_ rfl
  unfold cmp
  by_cases h1 : t1 * b2 < t2 * b1
  · simp [b_compare, bd_ok, bd_exc, st_ok, st_exc, xss_cons, xss_nil, seq_next, seq_ret, seq_brk, seq_cont, seq_exc, eqV_int, xst, ev, evT, evs, evo, evc, evi, opR, opV, opt, cmV, cmI, ixV, itemAt, MP.placeOf, biR, bindT, bindTs, unslot, hold, unhold, truV, isTy, isV, m1, m2, h1]
  · by_cases h2 : t2 * b1 < t1 * b2
    · simp [b_compare, bd_ok, bd_exc, st_ok, st_exc, xss_cons, xss_nil, seq_next, seq_ret, seq_brk, seq_cont, seq_exc, eqV_int, xst, ev, evT, evs, evo, evc, evi, opR, opV, opt, cmV, cmI, ixV, itemAt, MP.placeOf, biR, bindT, bindTs, unslot, hold, unhold, truV, isTy, isV, m1, m2, h1, h2]
    · simp [b_compare, bd_ok, bd_exc, st_ok, st_exc, xss_cons, xss_nil, seq_next, seq_ret, seq_brk, seq_cont, seq_exc, eqV_int, xst, ev, evT, evs, evo, evc, evi, opR, opV, opt, cmV, cmI, ixV, itemAt, MP.placeOf, biR, bindT, bindTs, unslot, hold, unhold, truV, isTy, isV, m1, m2, h1, h2]
theorem cmp_swap (t1 b1 t2 b2 : Int) : cmp t2 b2 t1 b1 = -cmp t1 b1 t2 b2 := by
  unfold cmp
  by_cases h1 : t1 * b2 < t2 * b1
  · have h3 : ¬ t2 * b1 < t1 * b2 := by omega
    simp [h1, h3]
  · by_cases h2 : t2 * b1 < t1 * b2
    · simp [h1, h2]
    · simp [h1, h2]
theorem c_least {d k : Nat} {t1 b1 t2 b2 : Int} {S : Sto} (z1 : sz k t1) (z2 : sz k b1) (z3 : sz k t2) (z4 : sz k b2) (l : k ≤ 8900) : callN F (d + 2) n_least [pr t1 b1, pr t2 b2] S = .ok (if 0 < cmp t1 b1 t2 b2 then pr t2 b2 else pr t1 b1) S := by
  rw [callN_of (fd := ⟨2, 2, b_least⟩) rfl rfl]
  have e := c_compare (d := d) (S := ⟨S.cells, false⟩) z3 z4 z1 z2 l
  rw [cmp_swap] at e
  by_cases h : 0 < cmp t1 b1 t2 b2
  · rw [if_pos h]
    refine run_ret ?_ rfl
    simp [b_least, bd_ok, bd_exc, st_ok, st_exc, xss_cons, xss_nil, seq_next, seq_ret, seq_brk, seq_cont, seq_exc, eqV_int, xst, ev, evT, evs, evo, evc, evi, opR, opV, opt, cmV, cmI, ixV, itemAt, MP.placeOf, biR, bindT, bindTs, unslot, hold, unhold, truV, isTy, isV, e, h]
  · rw [if_neg h]
    refine run_ret ?_ rfl
    simp [b_least, bd_ok, bd_exc, st_ok, st_exc, xss_cons, xss_nil, seq_next, seq_ret, seq_brk, seq_cont, seq_exc, eqV_int, xst, ev, evT, evs, evo, evc, evi, opR, opV, opt, cmV, cmI, ixV, itemAt, MP.placeOf, biR, bindT, bindTs, unslot, hold, unhold, truV, isTy, isV, e, h]
theorem c_greatest {d k : Nat} {t1 b1 t2 b2 : Int} {S : Sto} (z1 : sz k t1) (z2 : sz k b1) (z3 : sz k t2) (z4 : sz k b2) (l : k ≤ 8900) : callN F (d + 2) n_greatest [pr t1 b1, pr t2 b2] S = .ok (if cmp t1 b1 t2 b2 < 0 then pr t2 b2 else pr t1 b1) S := by
  rw [callN_of (fd := ⟨2, 2, b_greatest⟩) rfl rfl]
  have e := c_compare (d := d) (S := ⟨S.cells, false⟩) z3 z4 z1 z2 l
  rw [cmp_swap] at e
  by_cases h : cmp t1 b1 t2 b2 < 0
  · rw [if_pos h]
    refine run_ret ?_ rfl
    simp [b_greatest, bd_ok, bd_exc, st_ok, st_exc, xss_cons, xss_nil, seq_next, seq_ret, seq_brk, seq_cont, seq_exc, eqV_int, xst, ev, evT, evs, evo, evc, evi, opR, opV, opt, cmV, cmI, ixV, itemAt, MP.placeOf, biR, bindT, bindTs, unslot, hold, unhold, truV, isTy, isV, e, h]
  · rw [if_neg h]
    refine run_ret ?_ rfl
    simp [b_greatest, bd_ok, bd_exc, st_ok, st_exc, xss_cons, xss_nil, seq_next, seq_ret, seq_brk, seq_cont, seq_exc, eqV_int, xst, ev, evT, evs, evo, evc, evi, opR, opV, opt, cmV, cmI, ixV, itemAt, MP.placeOf, biR, bindT, bindTs, unslot, hold, unhold, truV, isTy, isV, e, h]
theorem c_power {d k n : Nat} {t b : Int} {S : Sto} (z1 : sz k t) (z2 : sz k b) (p : 0 < b) (hn : n < 8) (hk : k * n ≤ 8800) : ∃ v, callN F (d + 3) n_power [pr t b, .int n] S = .ok v S ∧ Q v (t ^ n) (b ^ n) (1 + k * n) := by
  rw [callN_of (fd := ⟨2, 4, b_power⟩) rfl rfl]
  obtain ⟨σ', S', lp, v, x, rfl, q, rfl⟩ := for_rng (C := callN F (d + 2)) (b := S.cells.length) (t := .name 3) (e := .var 1) (p := .cons (.asg (.of (.name 2)) (.call n_mul (.cons (.var 2) (.cons (.var 0) .nil)))) .nil) (n := n)
    (P := fun i σ S' => ∃ v x, σ = [some (pr t b), some (.int n), some v, x] ∧ Q v (t ^ i) (b ^ i) (1 + k * i) ∧ S' = ⟨S.cells, false⟩)
    (σ := [some (pr t b), some (.int n), some (pr 1 1), none]) (S := ⟨S.cells, false⟩) (by simp [bd_ok, bd_exc, st_ok, st_exc, xss_cons, xss_nil, seq_next, seq_ret, seq_brk, seq_cont, seq_exc, eqV_int, xst, ev, evT, evs, evo, evc, evi, opR, opV, opt, cmV, cmI, ixV, itemAt, MP.placeOf, biR, bindT, bindTs, unslot, hold, unhold, truV, isTy, isV]) (by omega) ⟨_, _, rfl, ⟨1, 1, rfl, by decide, by decide, by simp, by rw [Nat.mul_zero]; unfold sz; decide, by rw [Nat.mul_zero]; unfold sz; decide⟩, rfl⟩ (fun j σ S' hj ⟨v, y, h1, h2, h3⟩ => by
      subst h1; subst h3
      obtain ⟨r, s, rfl, q1, q2, q3, q4, q5⟩ := h2
      have e1 : 1 + k * j + k = 1 + k * (j + 1) := by rw [Nat.mul_add k j 1]; omega
      have l1 : k * (j + 1) ≤ k * n := Nat.mul_le_mul_left k (by omega)
      obtain ⟨v, e2, a, c, w1, w2, w3, w4, w5, w6⟩ := c_mul (d := d) (S := ⟨S.cells, false⟩) q4 q5 z1 z2 (by omega) (by omega) (by omega)
      refine ⟨_, [some (pr t b), some (.int n), some v, some (.int j)], ⟨S.cells, false⟩, rfl, by simp [bd_ok, bd_exc, st_ok, st_exc, xss_cons, xss_nil, seq_next, seq_ret, seq_brk, seq_cont, seq_exc, eqV_int, xst, ev, evT, evs, evo, evc, evi, opR, opV, opt, cmV, cmI, ixV, itemAt, MP.placeOf, biR, bindT, bindTs, unslot, hold, unhold, truV, isTy, isV, e2], v, some (.int j), rfl, ⟨a, c, w1, w2, w3, ?_, e1 ▸ w5, e1 ▸ w6⟩, rfl⟩
      rw [Int.pow_succ, Int.pow_succ]
      have hsb : s * b ≠ 0 := Int.mul_ne_zero (by omega) (by omega)
      refine Int.eq_of_mul_eq_mul_right hsb ?_
      calc a * (b ^ j * b) * (s * b) = (a * (s * b)) * (b ^ j * b) := by ac_rfl
        _ = (r * t * c) * (b ^ j * b) := by rw [w4]
        _ = (r * b ^ j) * (t * c * b) := by ac_rfl
        _ = (t ^ j * s) * (t * c * b) := by rw [q3]
        _ = t ^ j * t * c * (s * b) := by ac_rfl)
  refine ⟨v, ?_, q⟩
  refine run_ret ?_ (by obtain ⟨_, _, rfl, _⟩ := q; rfl)
  unfold b_power
  refine (xss_step (σ' := [some (pr t b), some (.int n), some (pr 1 1), none]) (S' := ⟨S.cells, false⟩) (by simp [bd_ok, bd_exc, st_ok, st_exc, xss_cons, xss_nil, seq_next, seq_ret, seq_brk, seq_cont, seq_exc, eqV_int, xst, ev, evT, evs, evo, evc, evi, opR, opV, opt, cmV, cmI, ixV, itemAt, MP.placeOf, biR, bindT, bindTs, unslot, hold, unhold, truV, isTy, isV])).trans ((xss_step lp).trans ?_)
  simp [bd_ok, bd_exc, st_ok, st_exc, xss_cons, xss_nil, seq_next, seq_ret, seq_brk, seq_cont, seq_exc, eqV_int, xst, ev, evT, evs, evo, evc, evi, opR, opV, opt, cmV, cmI, ixV, itemAt, MP.placeOf, biR, bindT, bindTs, unslot, hold, unhold, truV, isTy, isV]
theorem c_floor {d k n : Nat} {t b : Int} {S : Sto} (z1 : sz k t) (z2 : sz k b) (p : 0 < b) (hn : n < 50) (hk : k ≤ 8800) : ∃ v, callN F (d + 2) n_floor_to [pr t b, .int n] S = .ok v S ∧ Q v ((t * 2 ^ n).fdiv b) (2 ^ n) (k + 51) := by
  rw [callN_of (fd := ⟨2, 3, b_floor_to⟩) rfl rfl]
  have z3 : sz 51 ((2 : Int) ^ n) := by
    unfold sz
    rw [Int.natAbs_pow]
    exact Nat.pow_lt_pow_right (by decide) (by omega)
  have sh : shlOk 1 n = true := by
    unfold shlOk
    have e : Nat.log2 (Int.natAbs 1) = 0 := by decide
    rw [e]
    simp
    omega
  have m1 : mulOk t (2 ^ n) = true := mulOk_of z1 z3 (by omega)
  have dv : divOk b = true := divOk_of z2 (by omega) (by omega)
  have n0 : (2 : Int) ^ n ≠ 0 := by
    have z : (0 : Int) < 2 ^ n := Int.pow_pos (by decide)
    omega
  obtain ⟨v, e1, q⟩ := c_makeQ (d := d) (S := ⟨S.cells, false⟩) (t := (t * 2 ^ n).fdiv b) (b := 2 ^ n) (T := (t * 2 ^ n).fdiv b) (B := 2 ^ n) (k := k + 51) n0 rfl ((z1.mul z3).fdiv.resolve_right (by omega)) (z3.mono (by omega)) (by omega)
  refine ⟨v, ?_, q⟩
  refine run_ret ?_ (by obtain ⟨_, _, rfl, _⟩ := q; rfl)
  simp [b_floor_to, bd_ok, bd_exc, st_ok, st_exc, xss_cons, xss_nil, seq_next, seq_ret, seq_brk, seq_cont, seq_exc, eqV_int, xst, ev, evT, evs, evo, evc, evi, opR, opV, opt, cmV, cmI, ixV, itemAt, MP.placeOf, biR, bindT, bindTs, unslot, hold, unhold, truV, isTy, isV, sh, m1, dv, e1]
theorem c_ceil {d k n : Nat} {t b : Int} {S : Sto} (z1 : sz k t) (z2 : sz k b) (p : 0 < b) (hn : n < 50) (hk : k ≤ 8800) : ∃ v, callN F (d + 3) n_ceil_to [pr t b, .int n] S = .ok v S ∧ Q v (-((-t * 2 ^ n).fdiv b)) (2 ^ n) (k + 51) := by
  obtain ⟨v, e1, x, y, rfl, q1, q2, q3, q4, q5⟩ := c_floor (d := d) (S := ⟨S.cells, false⟩) z1.neg z2 p hn hk
  rw [callN_of (fd := ⟨2, 2, b_ceil_to⟩) rfl rfl]
  refine ⟨pr (-x) y, ?_, -x, y, rfl, q1, by rw [Int.natAbs_neg]; exact q2, by rw [Int.neg_mul, Int.neg_mul, q3], q4.neg, q5⟩
  refine run_ret ?_ rfl
  simp [b_ceil_to, bd_ok, bd_exc, st_ok, st_exc, xss_cons, xss_nil, seq_next, seq_ret, seq_brk, seq_cont, seq_exc, eqV_int, xst, ev, evT, evs, evo, evc, evi, opR, opV, opt, cmV, cmI, ixV, itemAt, MP.placeOf, biR, bindT, bindTs, unslot, hold, unhold, truV, isTy, isV, c_neg, e1]
end K16
end
section
set_option Elab.async false
set_option linter.all false
set_option maxRecDepth 100000
set_option maxHeartbeats 1000000
namespace K16
open PySem MP
theorem c_mix {d : Nat} {c : Int} {S : Sto} : ∃ r, callN F (d + 1) n__law_mix [.int c] S = .ok (.int r) S ∧ 0 ≤ r := by
  have m : ∀ x : Int, mulOk x 48271 = true := fun x => mulOk_r (by unfold sz; decide)
  have m' : ∀ x : Int, mulOk x 69621 = true := fun x => mulOk_r (by unfold sz; decide)
  refine ⟨(((c.fmod 2147483647 * 48271 + 11).fmod 2147483647) * 69621 + 5).fmod 2147483629, ?_, Int.fmod_nonneg_of_pos _ (by decide)⟩
  rw [callN_of (fd := ⟨1, 2, b__law_mix⟩) rfl rfl]
  refine run_ret ?_ rfl
  simp [b__law_mix, bd_ok, bd_exc, st_ok, st_exc, xss_cons, xss_nil, seq_next, seq_ret, seq_brk, seq_cont, seq_exc, eqV_int, xst, ev, evT, evs, evo, evc, evi, opR, opV, opt, cmV, cmI, ixV, itemAt, MP.placeOf, biR, bindT, bindTs, unslot, hold, unhold, truV, isTy, isV, m, m']
theorem c_number {d : Nat} {c : Int} {S : Sto} : ∃ r, callN F (d + 2) n__law_number [.int c] S = .ok (.int r) S ∧ 0 ≤ r := by
  rw [callN_of (fd := ⟨1, 2, b__law_number⟩) rfl rfl]
  have pw : powOk 10 18 = true := by decide
  by_cases h : 10 ^ 18 ≤ c
  · have h' : (1000000000000000000 : Int) ≤ c := h
    refine ⟨c, ?_, by omega⟩
    refine run_ret ?_ rfl
    simp [b__law_number, bd_ok, bd_exc, st_ok, st_exc, xss_cons, xss_nil, seq_next, seq_ret, seq_brk, seq_cont, seq_exc, eqV_int, xst, ev, evT, evs, evo, evc, evi, opR, opV, opt, cmV, cmI, ixV, itemAt, MP.placeOf, biR, bindT, bindTs, unslot, hold, unhold, truV, isTy, isV, pw, h']
  · have h' : ¬ (1000000000000000000 : Int) ≤ c := h
    obtain ⟨r, e1, p1⟩ := c_mix (d := d) (c := c) (S := ⟨S.cells, false⟩)
    obtain ⟨s, e2, p2⟩ := c_mix (d := d) (c := r + c) (S := ⟨S.cells, false⟩)
    have m : mulOk r 2147483629 = true := mulOk_r (by unfold sz; decide)
    refine ⟨r * 2147483629 + s, ?_, by omega⟩
    refine run_ret ?_ rfl
    simp [b__law_number, bd_ok, bd_exc, st_ok, st_exc, xss_cons, xss_nil, seq_next, seq_ret, seq_brk, seq_cont, seq_exc, eqV_int, xst, ev, evT, evs, evo, evc, evi, opR, opV, opt, cmV, cmI, ixV, itemAt, MP.placeOf, biR, bindT, bindTs, unslot, hold, unhold, truV, isTy, isV, pw, h', m, e1, e2]
theorem c_state {d : Nat} {ns : List Int} : callN F (d + 1) n__law_state [.ref 0] ⟨[.ro (ns.map .int)], false⟩ = .ok (.ref 2) (G ns 0 0 (1 + (ns.length : Int)) []) := by
  rw [callN_of (fd := ⟨1, 1, b__law_state⟩) rfl rfl]
  unfold runF
  have e : xss (callN F d) 1 b__law_state [some (.ref 0)] ⟨[.ro (ns.map .int)], false⟩ = .ret (.ref 2) (G ns 0 0 (1 + (ns.length : Int)) []) := by
    simp [b__law_state, bd_ok, bd_exc, st_ok, st_exc, xss_cons, xss_nil, seq_next, seq_ret, seq_brk, seq_cont, seq_exc, eqV_int, xst, ev, evT, evs, evo, evc, evi, opR, opV, opt, cmV, cmI, ixV, itemAt, MP.placeOf, biR, bindT, bindTs, unslot, hold, unhold, truV, isTy, isV, seqOf, Sto.lst?, Sto.push, Sto.len, G]
  show (match xss (callN F d) 1 b__law_state [some (.ref 0)] ⟨[.ro (ns.map .int)], false⟩ with
  | .next _ S1 => fin ⟨[.ro (ns.map .int)], false⟩ .non S1
  | .ret v S1 => fin ⟨[.ro (ns.map .int)], false⟩ v S1
  | .exc c as _ S1 => if PV.pures as && !S1.dirty then .exc c as ⟨S1.cells.take 1, false⟩ else .bad
  | _ => .bad) = _
  rw [e]
  rfl
/-- a draw's first part -/
theorem draw1 {d : Nat} {ns : List Int} {a i c m : Int} {tl : List Cell} (ha : 0 ≤ a) (hi : 0 ≤ i) : ∃ a' i', 0 ≤ a' ∧ 0 ≤ i' ∧
    xst (callN F (d + 2)) (3 + tl.length) (.ifs (.and (.cmp .lt (.ix (.var 0) (.cst (.int 0))) (.var 1)) (.cmp .lt (.ix (.var 0) (.cst (.int 2))) (.bi .len (.cons (.ix (.var 0) (.cst (.int 1))) .nil)))) (.cons (.asg (.sub (.var 0) (.cst (.int 0))) (.call n__law_number (.cons (.ix (.ix (.var 0) (.cst (.int 1))) (.ix (.var 0) (.cst (.int 2)))) .nil)))
      (.cons (.asg (.sub (.var 0) (.cst (.int 2))) (.bin .add (.ix (.var 0) (.cst (.int 2))) (.cst (.int 1)))) .nil)) .nil) [some (.ref 2), some (.int m), none] (G ns a i c tl) = .next [some (.ref 2), some (.int m), none] (G ns a' i' c tl) := by
  have ob : ∀ x : Int, PV.pure (.int x) = true := fun _ => rfl
  by_cases h1 : a < m
  · by_cases h2 : i < (ns.length : Int)
    · obtain ⟨r, e1, p1⟩ := c_number (d := d) (c := ns[i.toNat]'(by omega)) (S := G ns a i c tl)
      refine ⟨r, i + 1, p1, by omega, ?_⟩
      have e2 : (ns.map PV.int)[i.toNat]? = some (.int (ns[i.toNat]'(by omega))) := by
        rw [List.getElem?_map, List.getElem?_eq_getElem (by omega)]
        rfl
      unfold G at *
      simp at e2
      simp [bd_ok, bd_exc, st_ok, st_exc, xss_cons, xss_nil, seq_next, seq_ret, seq_brk, seq_cont, seq_exc, eqV_int, xst, ev, evT, evs, evo, evc, evi, opR, opV, opt, cmV, cmI, ixV, itemAt, MP.placeOf, biR, bindT, bindTs, unslot, hold, unhold, truV, isTy, isV, Sto.lst?, Sto.wr, h1, h2, hi, e2, e1, ob]
    · refine ⟨a, i, ha, hi, ?_⟩
      unfold G
      simp [bd_ok, bd_exc, st_ok, st_exc, xss_cons, xss_nil, seq_next, seq_ret, seq_brk, seq_cont, seq_exc, eqV_int, xst, ev, evT, evs, evo, evc, evi, opR, opV, opt, cmV, cmI, ixV, itemAt, MP.placeOf, biR, bindT, bindTs, unslot, hold, unhold, truV, isTy, isV, Sto.lst?, Sto.wr, h1, h2]
  · refine ⟨a, i, ha, hi, ?_⟩
    unfold G
    simp [bd_ok, bd_exc, st_ok, st_exc, xss_cons, xss_nil, seq_next, seq_ret, seq_brk, seq_cont, seq_exc, eqV_int, xst, ev, evT, evs, evo, evc, evi, opR, opV, opt, cmV, cmI, ixV, itemAt, MP.placeOf, biR, bindT, bindTs, unslot, hold, unhold, truV, isTy, isV, Sto.lst?, Sto.wr, h1]
theorem c_draw {d : Nat} {ns : List Int} {a i c m : Int} {tl : List Cell} (ha : 0 ≤ a) (hi : 0 ≤ i) (hm : 0 < m) (hz : sz 64 m) : ∃ r a' i' c', callN F (d + 3) n__law_draw [.ref 2, .int m] (G ns a i c tl) = .ok (.int r) (G ns a' i' c' tl) ∧ 0 ≤ r ∧ r < m ∧ 0 ≤ a' ∧ 0 ≤ i' := by
  have ob : ∀ x : Int, PV.pure (.int x) = true := fun _ => rfl
  rw [callN_of (fd := ⟨2, 3, b__law_draw⟩) rfl rfl]
  have hl : (G ns a i c tl).cells.length = 3 + tl.length := by unfold G; simp; omega
  have fin' : ∀ r a' i' c', xss (callN F (d + 2)) (3 + tl.length) b__law_draw [some (.ref 2), some (.int m), none] (G ns a i c tl) = .ret (.int r) (G ns a' i' c' tl) → runF (callN F (d + 2)) ⟨2, 3, b__law_draw⟩ [.ref 2, .int m] (G ns a i c tl) = .ok (.int r) (G ns a' i' c' tl) := fun r a' i' c' h => by
    have z := run_retT (C := callN F (d + 2)) (fd := ⟨2, 3, b__law_draw⟩) (args := [.ref 2, .int m]) (S := G ns a i c tl) (v := .int r) (cs := (G ns a' i' c' tl).cells) (by rw [hl]; exact h) rfl
    rw [z, hl]
    have e : (G ns a' i' c' tl).cells.take (3 + tl.length) = (G ns a' i' c' tl).cells := List.take_of_length_le (by unfold G; simp; omega)
    rw [e]
    rfl
  obtain ⟨a1, i1, ha1, hi1, e1⟩ := draw1 (d := d) (ns := ns) (c := c) (m := m) (tl := tl) ha hi
  have hm0 : m ≠ 0 := by omega
  have dv : divOk m = true := divOk_of hz (by decide) hm0
  have d11 : divOk 11 = true := by decide
  have m48 : mulOk c 48271 = true := mulOk_r (by unfold sz; decide)
  by_cases h0 : a1 = 0
  · subst h0
    refine ⟨(((c * 48271 + 7).fmod 2147483647).fdiv 11).fmod m, 0, i1, (c * 48271 + 7).fmod 2147483647, fin' _ _ _ _ ?_, Int.fmod_nonneg_of_pos _ hm, Int.fmod_lt_of_pos _ hm, by omega, hi1⟩
    unfold b__law_draw
    refine (xss_step e1).trans ?_
    unfold G
    simp [bd_ok, bd_exc, st_ok, st_exc, xss_cons, xss_nil, seq_next, seq_ret, seq_brk, seq_cont, seq_exc, eqV_int, xst, ev, evT, evs, evo, evc, evi, opR, opV, opt, cmV, cmI, ixV, itemAt, MP.placeOf, biR, bindT, bindTs, unslot, hold, unhold, truV, isTy, isV, Sto.lst?, Sto.wr, ob, d11, m48, hm0]
  · refine ⟨a1.fmod m, a1.fdiv m, i1, c, fin' _ _ _ _ ?_, Int.fmod_nonneg_of_pos _ hm, Int.fmod_lt_of_pos _ hm, Int.fdiv_nonneg ha1 (by omega), hi1⟩
    unfold b__law_draw
    refine (xss_step e1).trans ?_
    unfold G
    simp [bd_ok, bd_exc, st_ok, st_exc, xss_cons, xss_nil, seq_next, seq_ret, seq_brk, seq_cont, seq_exc, eqV_int, xst, ev, evT, evs, evo, evc, evi, opR, opV, opt, cmV, cmI, ixV, itemAt, MP.placeOf, biR, bindT, bindTs, unslot, hold, unhold, truV, isTy, isV, Sto.lst?, Sto.wr, ob, h0, dv, hm0]
end K16
end
section
set_option Elab.async false
set_option linter.all false
set_option maxRecDepth 100000
set_option maxHeartbeats 1000000
namespace K16
open PySem MP
section
variable {d j k n : Nat} {a b : Rat} {S : Sto}
theorem r_make {t b : Int} (hb : b ≠ 0) (ht : sz k t) (hz : sz k b) (l : k ≤ 8900) : callN F (d + 1) n_make [.int t, .int b] S = .ok (fr (Rat.divInt t b)) S := by
  obtain ⟨v, e, q⟩ := c_makeQ (d := d) (S := S) (T := t) (B := b) hb rfl ht hz l
  rw [e, (q.fr hb).1]
theorem r_add (ha : szq k a) (hb : szq k b) (l : k + k + 1 ≤ 8900) : callN F (d + 2) n_add [fr a, fr b] S = .ok (fr (a + b)) S := by
  obtain ⟨v, e, q⟩ := c_add (d := d) (S := S) ha.1 ha.2 hb.1 hb.2 (den_ne a) (den_ne b) l
  unfold fr
  rw [e, (q.fr (Int.mul_ne_zero (den_ne a) (den_ne b))).1, rat_add]
  rfl
theorem r_neg : callN F (d + 1) n_neg [fr a] S = .ok (fr (-a)) S := by
  unfold fr
  rw [c_neg, Rat.neg_num, Rat.neg_den]
theorem r_mul (ha : szq j a) (hb : szq k b) (l : j + k ≤ 8900) : callN F (d + 2) n_mul [fr a, fr b] S = .ok (fr (a * b)) S := by
  obtain ⟨v, e, q⟩ := c_mul (d := d) (S := S) ha.1 ha.2 hb.1 hb.2 (den_ne a) (den_ne b) l
  unfold fr
  rw [e, (q.fr (Int.mul_ne_zero (den_ne a) (den_ne b))).1, rat_mul]
  rfl
theorem r_div (ha : szq j a) (hb : szq k b) (h0 : b ≠ 0) (l : j + k ≤ 8900) : callN F (d + 2) n_div [fr a, fr b] S = .ok (fr (a / b)) S := by
  obtain ⟨v, e, q⟩ := c_div (d := d) (S := S) ha.1 ha.2 hb.1 hb.2 (den_ne a) (num_ne h0) l
  unfold fr
  rw [e, (q.fr (Int.mul_ne_zero (den_ne a) (num_ne h0))).1, rat_div]
  rfl
theorem cmp_cq : cmp a.num a.den b.num b.den = cq a b := by
  unfold cmp cq
  simp only [Rat.lt_iff]
theorem r_compare (ha : szq k a) (hb : szq k b) (l : k ≤ 8900) : callN F (d + 1) n_compare [fr a, fr b] S = .ok (.int (cq a b)) S := by
  unfold fr
  rw [c_compare ha.1 ha.2 hb.1 hb.2 l, cmp_cq]
theorem r_least (ha : szq k a) (hb : szq k b) (l : k ≤ 8900) : callN F (d + 2) n_least [fr a, fr b] S = .ok (fr (mn a b)) S := by
  unfold fr
  rw [c_least ha.1 ha.2 hb.1 hb.2 l, cmp_cq]
  unfold mn
  by_cases h : b < a
  · rw [if_pos (cq_gt.mpr h), if_pos h]
  · rw [if_neg (fun z => h (cq_gt.mp z)), if_neg h]
theorem r_greatest (ha : szq k a) (hb : szq k b) (l : k ≤ 8900) : callN F (d + 2) n_greatest [fr a, fr b] S = .ok (fr (mx a b)) S := by
  unfold fr
  rw [c_greatest ha.1 ha.2 hb.1 hb.2 l, cmp_cq]
  unfold mx
  by_cases h : a < b
  · rw [if_pos (cq_lt.mpr h), if_pos h]
  · rw [if_neg (fun z => h (cq_lt.mp z)), if_neg h]
theorem r_power (ha : szq k a) (hn : n < 8) (hk : k * n ≤ 8800) : callN F (d + 3) n_power [fr a, .int n] S = .ok (fr (a ^ n)) S := by
  obtain ⟨v, e, q⟩ := c_power (d := d) (n := n) (S := S) ha.1 ha.2 (den_gt a) hn hk
  have h0 : ((a.den : Int) ^ n) ≠ 0 := by
    have z : (0 : Int) < (a.den : Int) ^ n := Int.pow_pos (den_gt a)
    omega
  unfold fr at *
  rw [e, (q.fr h0).1]
  have z : Rat.divInt (a.num ^ n) ((a.den : Int) ^ n) = a ^ n := by
    rw [Rat.pow_def, Rat.mk_eq_divInt, Int.natCast_pow]
  rw [z]
  rfl
theorem r_floor (ha : szq k a) (hn : n < 50) (hk : k ≤ 8800) : callN F (d + 2) n_floor_to [fr a, .int n] S = .ok (fr (flo a n)) S := by
  obtain ⟨v, e, q⟩ := c_floor (d := d) (n := n) (S := S) ha.1 ha.2 (den_gt a) hn hk
  have h0 : ((2 : Int) ^ n) ≠ 0 := by
    have z : (0 : Int) < (2 : Int) ^ n := Int.pow_pos (by decide)
    omega
  rw [(q.fr h0).1] at e
  exact e
theorem r_ceil (ha : szq k a) (hn : n < 50) (hk : k ≤ 8800) : callN F (d + 3) n_ceil_to [fr a, .int n] S = .ok (fr (cei a n)) S := by
  obtain ⟨v, e, q⟩ := c_ceil (d := d) (n := n) (S := S) ha.1 ha.2 (den_gt a) hn hk
  have h0 : ((2 : Int) ^ n) ≠ 0 := by
    have z : (0 : Int) < (2 : Int) ^ n := Int.pow_pos (by decide)
    omega
  rw [(q.fr h0).1] at e
  exact e
end
end K16
end
section
set_option Elab.async false
set_option linter.all false
set_option maxRecDepth 100000
set_option maxHeartbeats 1000000
namespace K16
open PySem MP
section
variable {d k n : Nat} {a b c e : Rat} {S : Sto}
theorem i_point : callN F (d + 1) n_point [fr a] S = .ok (iv a a) S := by
  rw [callN_of (fd := ⟨1, 1, b_point⟩) rfl rfl]
  refine run_ret ?_ rfl
  simp [b_point, bd_ok, bd_exc, st_ok, st_exc, xss_cons, xss_nil, seq_next, seq_ret, seq_brk, seq_cont, seq_exc, eqV_int, xst, ev, evT, evs, evo, evc, evi, opR, opV, opt, cmV, cmI, ixV, itemAt, MP.placeOf, biR, bindT, bindTs, unslot, hold, unhold, truV, isTy, isV]
theorem i_hull (ha : szq k a) (hb : szq k b) (hc : szq k c) (he : szq k e) (l : k ≤ 8900) : callN F (d + 3) n_hull [iv a b, iv c e] S = .ok (iv (mn a c) (mx b e)) S := by
  rw [callN_of (fd := ⟨2, 2, b_hull⟩) rfl rfl]
  refine run_ret ?_ rfl
  simp [b_hull, bd_ok, bd_exc, st_ok, st_exc, xss_cons, xss_nil, seq_next, seq_ret, seq_brk, seq_cont, seq_exc, eqV_int, xst, ev, evT, evs, evo, evc, evi, opR, opV, opt, cmV, cmI, ixV, itemAt, MP.placeOf, biR, bindT, bindTs, unslot, hold, unhold, truV, isTy, isV, r_least ha hc l, r_greatest hb he l]
theorem i_plus (ha : szq k a) (hb : szq k b) (hc : szq k c) (he : szq k e) (l : k + k + 1 ≤ 8900) : callN F (d + 3) n_plus [iv a b, iv c e] S = .ok (iv (a + c) (b + e)) S := by
  rw [callN_of (fd := ⟨2, 2, b_plus⟩) rfl rfl]
  refine run_ret ?_ rfl
  simp [b_plus, bd_ok, bd_exc, st_ok, st_exc, xss_cons, xss_nil, seq_next, seq_ret, seq_brk, seq_cont, seq_exc, eqV_int, xst, ev, evT, evs, evo, evc, evi, opR, opV, opt, cmV, cmI, ixV, itemAt, MP.placeOf, biR, bindT, bindTs, unslot, hold, unhold, truV, isTy, isV, r_add ha hc l, r_add hb he l]
theorem i_negative : callN F (d + 2) n_negative [iv a b] S = .ok (iv (-b) (-a)) S := by
  rw [callN_of (fd := ⟨1, 1, b_negative⟩) rfl rfl]
  refine run_ret ?_ rfl
  simp [b_negative, bd_ok, bd_exc, st_ok, st_exc, xss_cons, xss_nil, seq_next, seq_ret, seq_brk, seq_cont, seq_exc, eqV_int, xst, ev, evT, evs, evo, evc, evi, opR, opV, opt, cmV, cmI, ixV, itemAt, MP.placeOf, biR, bindT, bindTs, unslot, hold, unhold, truV, isTy, isV, r_neg]
theorem i_minus (ha : szq k a) (hb : szq k b) (hc : szq k c) (he : szq k e) (l : k + k + 1 ≤ 8900) : callN F (d + 4) n_minus [iv a b, iv c e] S = .ok (iv (a - e) (b - c)) S := by
  rw [callN_of (fd := ⟨2, 2, b_minus⟩) rfl rfl]
  refine run_ret ?_ rfl
  simp [b_minus, bd_ok, bd_exc, st_ok, st_exc, xss_cons, xss_nil, seq_next, seq_ret, seq_brk, seq_cont, seq_exc, eqV_int, xst, ev, evT, evs, evo, evc, evi, opR, opV, opt, cmV, cmI, ixV, itemAt, MP.placeOf, biR, bindT, bindTs, unslot, hold, unhold, truV, isTy, isV, i_negative, i_plus ha hb he.neg hc.neg l, Rat.sub_eq_add_neg]
theorem num_lt {a : Rat} : a.num < 0 ↔ a < 0 := by
  have z := Rat.lt_iff a 0
  have e : (0 : Rat).num = 0 := rfl
  have e2 : ((0 : Rat).den : Int) = 1 := rfl
  rw [e, e2, Int.mul_one, Int.zero_mul] at z
  exact z.symm
/-- x times a number -/
theorem i_scaled (ha : szq k a) (hb : szq k b) (hc : szq k c) (o : a ≤ b) (l : k + k ≤ 8900) : callN F (d + 3) n_scaled [iv a b, fr c] S = .ok (iv (mn (a * c) (b * c)) (mx (a * c) (b * c))) S := by
  rw [callN_of (fd := ⟨2, 2, b_scaled⟩) rfl rfl]
  refine run_ret ?_ rfl
  have fx : ∀ q : Rat, fr q = .tup [.int q.num, .int q.den] := fun _ => rfl
  have ix0 : ∀ (S : Sto), ixV S (fr c) (.int 0) = some (.int c.num) := fun _ => rfl
  by_cases h : c < 0
  · have h' := num_lt.mpr h
    rw [mn_ge (mul_anti o (by grind)), mx_ge (mul_anti o (by grind))]
    simp [b_scaled, bd_ok, st_ok, xss_cons, xss_nil, seq_next, seq_ret, xst, ev, evT, evs, opt, cmV, cmI, ix0, h', r_mul ha hc l, r_mul hb hc l]
    simp [ixV, itemAt, MP.placeOf, bd_ok, st_ok, seq_ret, r_mul ha hc l, r_mul hb hc l]
  · have h' : ¬ c.num < 0 := fun z => h (num_lt.mp z)
    rw [mn_le (mul_mono o (by grind)), mx_le (mul_mono o (by grind))]
    simp [b_scaled, bd_ok, st_ok, xss_cons, xss_nil, seq_next, seq_ret, xst, ev, evT, evs, opt, cmV, cmI, ix0, h', r_mul ha hc l, r_mul hb hc l]
    simp [ixV, itemAt, MP.placeOf, bd_ok, st_ok, seq_ret, r_mul ha hc l, r_mul hb hc l]
theorem i_times (ha : szq k a) (hb : szq k b) (hc : szq k c) (he : szq k e) (o : a ≤ b) (l : k + k ≤ 8900) : callN F (d + 4) n_times [iv a b, iv c e] S = .ok (iv (mn (mn (a * c) (b * c)) (mn (a * e) (b * e))) (mx (mx (a * c) (b * c)) (mx (a * e) (b * e)))) S := by
  rw [callN_of (fd := ⟨2, 2, b_times⟩) rfl rfl]
  refine run_ret ?_ rfl
  have w := i_hull (d := d) (S := ⟨S.cells, false⟩) ((ha.mul hc).mn (hb.mul hc)) ((ha.mul hc).mx (hb.mul hc)) ((ha.mul he).mn (hb.mul he)) ((ha.mul he).mx (hb.mul he)) l
  simp [b_times, bd_ok, bd_exc, st_ok, st_exc, xss_cons, xss_nil, seq_next, seq_ret, seq_brk, seq_cont, seq_exc, eqV_int, xst, ev, evT, evs, evo, evc, evi, opR, opV, opt, cmV, cmI, ixV, itemAt, MP.placeOf, biR, bindT, bindTs, unslot, hold, unhold, truV, isTy, isV, i_scaled ha hb hc o l, i_scaled ha hb he o l, w]
theorem i_has (ha : szq k a) (hb : szq k b) (hc : szq k c) (l : k ≤ 8900) : callN F (d + 2) n_has [iv a b, fr c] S = .ok (.bl (decide (a ≤ c) && decide (c ≤ b))) S := by
  rw [callN_of (fd := ⟨2, 2, b_has⟩) rfl rfl]
  refine run_ret ?_ rfl
  by_cases h : a ≤ c
  · have h' := cq_le.mpr h
    by_cases h2 : c ≤ b
    · have h2' := cq_le.mpr h2
      simp [b_has, bd_ok, bd_exc, st_ok, st_exc, xss_cons, xss_nil, seq_next, seq_ret, seq_brk, seq_cont, seq_exc, eqV_int, xst, ev, evT, evs, evo, evc, evi, opR, opV, opt, cmV, cmI, ixV, itemAt, MP.placeOf, biR, bindT, bindTs, unslot, hold, unhold, truV, isTy, isV, r_compare ha hc l, r_compare hc hb l, h, h', h2, h2']
    · have h2' : ¬ cq c b ≤ 0 := fun z => h2 (cq_le.mp z)
      simp only [decide_eq_false h2, Bool.and_false]
      simp [b_has, bd_ok, bd_exc, st_ok, st_exc, xss_cons, xss_nil, seq_next, seq_ret, seq_brk, seq_cont, seq_exc, eqV_int, xst, ev, evT, evs, evo, evc, evi, opR, opV, opt, cmV, cmI, ixV, itemAt, MP.placeOf, biR, bindT, bindTs, unslot, hold, unhold, truV, isTy, isV, r_compare ha hc l, r_compare hc hb l, h', h2']
  · have h' : ¬ cq a c ≤ 0 := fun z => h (cq_le.mp z)
    simp only [decide_eq_false h, Bool.false_and]
    simp [b_has, bd_ok, bd_exc, st_ok, st_exc, xss_cons, xss_nil, seq_next, seq_ret, seq_brk, seq_cont, seq_exc, eqV_int, xst, ev, evT, evs, evo, evc, evi, opR, opV, opt, cmV, cmI, ixV, itemAt, MP.placeOf, biR, bindT, bindTs, unslot, hold, unhold, truV, isTy, isV, r_compare ha hc l, r_compare hc hb l, h']
theorem i_inside (ha : szq k a) (hb : szq k b) (hc : szq k c) (he : szq k e) (l : k ≤ 8900) : callN F (d + 2) n_inside [iv a b, iv c e] S = .ok (.bl (decide (cq c a ≤ 0) && decide (cq b e ≤ 0))) S := by
  rw [callN_of (fd := ⟨2, 2, b_inside⟩) rfl rfl]
  refine run_ret ?_ rfl
  by_cases h : cq c a ≤ 0
  · simp [b_inside, bd_ok, bd_exc, st_ok, st_exc, xss_cons, xss_nil, seq_next, seq_ret, seq_brk, seq_cont, seq_exc, eqV_int, xst, ev, evT, evs, evo, evc, evi, opR, opV, opt, cmV, cmI, ixV, itemAt, MP.placeOf, biR, bindT, bindTs, unslot, hold, unhold, truV, isTy, isV, r_compare hc ha l, r_compare hb he l, h]
  · simp [b_inside, bd_ok, bd_exc, st_ok, st_exc, xss_cons, xss_nil, seq_next, seq_ret, seq_brk, seq_cont, seq_exc, eqV_int, xst, ev, evT, evs, evo, evc, evi, opR, opV, opt, cmV, cmI, ixV, itemAt, MP.placeOf, biR, bindT, bindTs, unslot, hold, unhold, truV, isTy, isV, r_compare hc ha l, r_compare hb he l, h]
theorem i_widen (ha : szq k a) (hb : szq k b) (hn : n < 50) (hk : k ≤ 8800) : callN F (d + 4) n_widen [iv a b, .int n] S = .ok (iv (flo a n) (cei b n)) S := by
  rw [callN_of (fd := ⟨2, 2, b_widen⟩) rfl rfl]
  refine run_ret ?_ rfl
  simp [b_widen, bd_ok, bd_exc, st_ok, st_exc, xss_cons, xss_nil, seq_next, seq_ret, seq_brk, seq_cont, seq_exc, eqV_int, xst, ev, evT, evs, evo, evc, evi, opR, opV, opt, cmV, cmI, ixV, itemAt, MP.placeOf, biR, bindT, bindTs, unslot, hold, unhold, truV, isTy, isV, r_floor ha hn hk, r_ceil hb hn hk]
theorem i_over0 (hb : szq k b) (hc : szq k c) (he : szq k e) (l : k ≤ 8900) (l1 : 1 ≤ k) (h : c ≤ 0 ∧ 0 ≤ e) : callN F (d + 5) n_over [iv a b, iv c e] S = .exc 1 [] S := by
  rw [callN_of (fd := ⟨2, 2, b_over⟩) rfl rfl]
  refine run_exc (σ := [some (iv a b), some (iv c e)]) ?_ rfl
  have w := i_has (d := d + 2) (S := ⟨S.cells, false⟩) hc he (sz_zero.mono l1) l
  rw [decide_eq_true h.1, decide_eq_true h.2] at w
  simp [b_over, bd_ok, bd_exc, st_ok, st_exc, xss_cons, xss_nil, seq_next, seq_ret, seq_brk, seq_cont, seq_exc, eqV_int, xst, ev, evT, evs, evo, evc, evi, opR, opV, opt, cmV, cmI, ixV, itemAt, MP.placeOf, biR, bindT, bindTs, unslot, hold, unhold, truV, isTy, isV, fr_zero, w]
theorem i_over (ha : szq k a) (hb : szq k b) (hc : szq k c) (he : szq k e) (o : a ≤ b) (o2 : c ≤ e) (l : (1 + k) + (1 + k) ≤ 8900) (l1 : 1 ≤ k) (h : ¬ (c ≤ 0 ∧ 0 ≤ e)) :
    callN F (d + 5) n_over [iv a b, iv c e] S = .ok (iv (mn (mn (a / e) (b / e)) (mn (a / c) (b / c))) (mx (mx (a / e) (b / e)) (mx (a / c) (b / c)))) S := by
  rw [callN_of (fd := ⟨2, 2, b_over⟩) rfl rfl]
  refine run_ret ?_ rfl
  have w := i_has (d := d + 2) (S := ⟨S.cells, false⟩) hc he (sz_zero.mono l1) (by omega)
  have w' : (decide (c ≤ 0) && decide (0 ≤ e)) = false := by
    by_cases q : c ≤ 0
    · have q2 : ¬ 0 ≤ e := fun q2 => h ⟨q, q2⟩
      simp [q2]
    · simp [q]
  rw [w'] at w
  have c0 : c ≠ 0 := fun q => h ⟨by grind, by grind⟩
  have e0 : e ≠ 0 := fun q => h ⟨by grind, by grind⟩
  have d1 := r_div (d := d + 2) (S := ⟨S.cells, false⟩) sz_one he e0 (by omega)
  have d2 := r_div (d := d + 2) (S := ⟨S.cells, false⟩) sz_one hc c0 (by omega)
  have t := i_times (d := d) (S := ⟨S.cells, false⟩) (ha.mono (by omega)) (hb.mono (by omega)) (sz_one.div he e0) (sz_one.div hc c0) o l
  have f : ∀ x y : Rat, x * (1 / y) = x / y := fun x y => by rw [Rat.div_def, Rat.div_def, Rat.one_mul]
  simp only [f] at t
  simp [b_over, bd_ok, bd_exc, st_ok, st_exc, xss_cons, xss_nil, seq_next, seq_ret, seq_brk, seq_cont, seq_exc, eqV_int, xst, ev, evT, evs, evo, evc, evi, opR, opV, opt, cmV, cmI, ixV, itemAt, MP.placeOf, biR, bindT, bindTs, unslot, hold, unhold, truV, isTy, isV, fr_zero, fr_one, w, d1, d2, t]
theorem ends_loop {r bb : Nat} {g : Sto → Bool} (hg : g S = true) (l : k ≤ 8900) : ∀ (xs : List Rat) (lo hi : Rat) (x : Option PV), (∀ q ∈ xs, szq k q) → szq k lo → szq k hi → ∃ x', forLoop g (bindT (.name 3)) (xss (callN F (d + 1)) bb (.cons (.ifs (.cmp .lt (.call n_compare (.cons (.var 3) (.cons (.var 1) .nil))) (.cst (.int 0))) (.cons (.asg (.of (.name 1)) (.var 3)) .nil) .nil)
  (.cons (.ifs (.cmp .gt (.call n_compare (.cons (.var 3) (.cons (.var 2) .nil))) (.cst (.int 0))) (.cons (.asg (.of (.name 2)) (.var 3)) .nil) .nil) .nil))) (xs.map fr) [some (.ref r), some (fr lo), some (fr hi), x] S = .next [some (.ref r), some (fr (xs.foldl mn lo)), some (fr (xs.foldl mx hi)), x'] S
  | [], lo, hi, x, _, _, _ => ⟨x, by
    rw [List.map_nil]
    unfold forLoop
    rw [if_pos hg]
    rfl⟩
  | q :: xs, lo, hi, x, hq, hl, hh => by
    have zq := hq q (List.mem_cons_self ..)
    obtain ⟨x', e⟩ := ends_loop hg l xs (mn lo q) (mx hi q) (some (fr q)) (fun p hp => hq p (List.mem_cons_of_mem _ hp)) (hl.mn zq) (hh.mx zq)
    refine ⟨x', ?_⟩
    rw [List.map_cons]
    unfold forLoop
    rw [if_pos hg]
    have c1 := fun S => r_compare (d := d) (S := S) zq hl l
    have c2 := fun S => r_compare (d := d) (S := S) zq hh l
    have st : xss (callN F (d + 1)) bb (.cons (.ifs (.cmp .lt (.call n_compare (.cons (.var 3) (.cons (.var 1) .nil))) (.cst (.int 0))) (.cons (.asg (.of (.name 1)) (.var 3)) .nil) .nil)
      (.cons (.ifs (.cmp .gt (.call n_compare (.cons (.var 3) (.cons (.var 2) .nil))) (.cst (.int 0))) (.cons (.asg (.of (.name 2)) (.var 3)) .nil) .nil) .nil)) [some (.ref r), some (fr lo), some (fr hi), some (fr q)] S = .next [some (.ref r), some (fr (mn lo q)), some (fr (mx hi q)), some (fr q)] S := by
      unfold mn mx
      by_cases h1 : q < lo
      · have h1' := cq_lt.mpr h1
        by_cases h2 : hi < q
        · have h2' := cq_gt.mpr h2
          simp [bd_ok, bd_exc, st_ok, st_exc, xss_cons, xss_nil, seq_next, seq_ret, seq_brk, seq_cont, seq_exc, eqV_int, xst, ev, evT, evs, evo, evc, evi, opR, opV, opt, cmV, cmI, ixV, itemAt, MP.placeOf, biR, bindT, bindTs, unslot, hold, unhold, truV, isTy, isV, c1, c2, h1, h1', h2, h2']
        · have h2' : ¬ 0 < cq q hi := fun z => h2 (cq_gt.mp z)
          simp only [if_neg h2]
          simp [bd_ok, bd_exc, st_ok, st_exc, xss_cons, xss_nil, seq_next, seq_ret, seq_brk, seq_cont, seq_exc, eqV_int, xst, ev, evT, evs, evo, evc, evi, opR, opV, opt, cmV, cmI, ixV, itemAt, MP.placeOf, biR, bindT, bindTs, unslot, hold, unhold, truV, isTy, isV, c1, c2, h1, h1', h2']
      · have h1' : ¬ cq q lo < 0 := fun z => h1 (cq_lt.mp z)
        simp only [if_neg h1]
        by_cases h2 : hi < q
        · have h2' := cq_gt.mpr h2
          simp [bd_ok, bd_exc, st_ok, st_exc, xss_cons, xss_nil, seq_next, seq_ret, seq_brk, seq_cont, seq_exc, eqV_int, xst, ev, evT, evs, evo, evc, evi, opR, opV, opt, cmV, cmI, ixV, itemAt, MP.placeOf, biR, bindT, bindTs, unslot, hold, unhold, truV, isTy, isV, c1, c2, h1', h2, h2']
        · have h2' : ¬ 0 < cq q hi := fun z => h2 (cq_gt.mp z)
          simp only [if_neg h2]
          simp [bd_ok, bd_exc, st_ok, st_exc, xss_cons, xss_nil, seq_next, seq_ret, seq_brk, seq_cont, seq_exc, eqV_int, xst, ev, evT, evs, evo, evc, evi, opR, opV, opt, cmV, cmI, ixV, itemAt, MP.placeOf, biR, bindT, bindTs, unslot, hold, unhold, truV, isTy, isV, c1, c2, h1', h2']
    have bd : bindT (.name 3) (fr q) [some (.ref r), some (fr lo), some (fr hi), x] = some [some (.ref r), some (fr lo), some (fr hi), some (fr q)] := by simp [bindT]
    rw [bd]
    simp only [st]
    exact e
end
end K16
end
section
set_option Elab.async false
set_option linter.all false
set_option maxRecDepth 100000
set_option maxHeartbeats 1000000
namespace K16
open PySem MP
section
variable {d k n : Nat} {a b c e : Rat} {S : Sto}
theorem i_raised (ha : szq k a) (hb : szq k b) (o : a ≤ b) (hn : n < 8) (hk : k * n ≤ 8800) (hk2 : k ≤ 8800) (l1 : 1 ≤ k) : callN F (d + 4) n_raised [iv a b, .int n] S = .ok (iv (rlo a b n) (rhi a b n)) S := by
  rw [callN_of (fd := ⟨2, 4, b_raised⟩) rfl rfl]
  refine run_ret ?_ rfl
  by_cases h0 : n = 0
  · subst h0
    have nz : ¬ zc a b 0 := fun z => absurd z.1 (by decide)
    unfold rlo rhi
    rw [if_neg nz, if_neg nz, Rat.pow_zero, Rat.pow_zero, mn_self, mx_self]
    simp [b_raised, bd_ok, bd_exc, st_ok, st_exc, xss_cons, xss_nil, seq_next, seq_ret, seq_brk, seq_cont, seq_exc, eqV_int, xst, ev, evT, evs, evo, evc, evi, opR, opV, opt, cmV, cmI, ixV, itemAt, MP.placeOf, biR, bindT, bindTs, unslot, hold, unhold, truV, isTy, isV, fr_one, i_point]
  · have h0' : ¬ (n : Int) = 0 := by omega
    have p1 := r_power (d := d) (n := n) (S := ⟨S.cells, false⟩) ha hn (by omega)
    have p2 := r_power (d := d) (n := n) (S := ⟨S.cells, false⟩) hb hn (by omega)
    by_cases hm : n % 2 = 1
    · have hm' : (n : Int).fmod 2 = 1 := by
        have z := Int.ofNat_fmod n 2
        rw [hm] at z
        exact z.symm
      have nz : ¬ zc a b n := fun z => by have := z.2.1; omega
      have mo : a ^ n ≤ b ^ n := by
        have e : n = 2 * (n / 2) + 1 := by omega
        rw [e]
        exact odd_mono o _
      unfold rlo rhi
      rw [if_neg nz, if_neg nz, mn_le mo, mx_le mo]
      simp [b_raised, bd_ok, bd_exc, st_ok, st_exc, xss_cons, xss_nil, seq_next, seq_ret, seq_brk, seq_cont, seq_exc, eqV_int, xst, ev, evT, evs, evo, evc, evi, opR, opV, opt, cmV, cmI, ixV, itemAt, MP.placeOf, biR, bindT, bindTs, unslot, hold, unhold, truV, isTy, isV, h0, h0', p1, p2, hm']
    · have hm2 : n % 2 = 0 := by omega
      have hm' : (n : Int).fmod 2 = 0 := by
        have z := Int.ofNat_fmod n 2
        rw [hm2] at z
        exact z.symm
      have evn : ∀ x : Rat, 0 ≤ x ^ n := fun x => by
        have e : n = 2 * (n / 2) := by omega
        rw [e]
        exact even_nn _ _
      have sa := ha.pow n
      have sb := hb.pow n
      have g := r_greatest (d := d + 1) (S := ⟨S.cells, false⟩) sa sb (by omega)
      have g2 := r_least (d := d + 1) (S := ⟨S.cells, false⟩) sa sb (by omega)
      have w := i_has (d := d + 1) (S := ⟨S.cells, false⟩) ha hb (sz_zero.mono l1) (by omega)
      by_cases hz : a ≤ 0 ∧ 0 ≤ b
      · have z : zc a b n := ⟨by omega, hm2, hz.1, hz.2⟩
        rw [decide_eq_true hz.1, decide_eq_true hz.2] at w
        have e1 : mn (mn (a ^ n) (b ^ n)) 0 = 0 := by
          refine mn_ge ?_
          unfold mn
          split
          · exact evn b
          · exact evn a
        have e2 : mx (mx (a ^ n) (b ^ n)) 0 = mx (a ^ n) (b ^ n) := by
          refine mx_ge ?_
          unfold mx
          split
          · exact evn b
          · exact evn a
        unfold rlo rhi
        rw [if_pos z, if_pos z, e1, e2]
        simp [b_raised, bd_ok, bd_exc, st_ok, st_exc, xss_cons, xss_nil, seq_next, seq_ret, seq_brk, seq_cont, seq_exc, eqV_int, xst, ev, evT, evs, evo, evc, evi, opR, opV, opt, cmV, cmI, ixV, itemAt, MP.placeOf, biR, bindT, bindTs, unslot, hold, unhold, truV, isTy, isV, fr_zero, h0, h0', p1, p2, hm', w, g]
      · have z : ¬ zc a b n := fun q => hz q.2.2
        have w' : (decide (a ≤ 0) && decide (0 ≤ b)) = false := by
          by_cases q : a ≤ 0
          · have q2 : ¬ 0 ≤ b := fun q2 => hz ⟨q, q2⟩
            simp [q2]
          · simp [q]
        rw [w'] at w
        unfold rlo rhi
        rw [if_neg z, if_neg z]
        simp [b_raised, bd_ok, bd_exc, st_ok, st_exc, xss_cons, xss_nil, seq_next, seq_ret, seq_brk, seq_cont, seq_exc, eqV_int, xst, ev, evT, evs, evo, evc, evi, opR, opV, opt, cmV, cmI, ixV, itemAt, MP.placeOf, biR, bindT, bindTs, unslot, hold, unhold, truV, isTy, isV, fr_zero, h0, h0', p1, p2, hm', w, g, g2]
end
end K16
end
section
set_option Elab.async false
set_option linter.all false
set_option maxRecDepth 100000
set_option maxHeartbeats 1000000
namespace K16
open PySem MP
inductive Bo where | add | sub | mul | div
inductive Tr where
  | num (q : Rat) | st (i : Nat) | cn (i : Nat) | pw (t : Tr) (m : Nat) | bin (o : Bo) (a b : Tr)
def Bo.nm : Bo → Str
  | .add => "add"
  | .sub => "sub"
  | .mul => "mul"
  | .div => "div"
def Tr.tv : Tr → PV
  | .num q => .tup [.str "num", fr q]
  | .st i => .tup [.str "state", .int i]
  | .cn i => .tup [.str "const", .int i]
  | .pw t m => .tup [.str "pow", t.tv, .int m]
  | .bin o a b => .tup [.str o.nm, a.tv, b.tv]
def Tr.ht : Tr → Nat
  | .pw t _ => t.ht + 1
  | .bin _ a b => max a.ht b.ht + 1
  | _ => 0
def Tr.okT : Tr → Prop
  | .num q => szq 8 q
  | .st i => i < 2
  | .cn i => i < 2
  | .pw t m => t.okT ∧ m < 5
  | .bin _ a b => a.okT ∧ b.okT
/-- the range by the rules -/
def rg (n : Nat) (X : Nat → Rat × Rat) : Tr → Option (Rat × Rat)
  | .num q => some (flo q n, cei q n)
  | .st i => some (flo (X i).1 n, cei (X i).2 n)
  | .cn i => some (flo (X (2 + i)).1 n, cei (X (2 + i)).2 n)
  | .pw t m => (rg n X t).map fun p => (flo (rlo p.1 p.2 m) n, cei (rhi p.1 p.2 m) n)
  | .bin o a b => (rg n X a).bind fun p => (rg n X b).bind fun r => match o with
    | .add => some (flo (p.1 + r.1) n, cei (p.2 + r.2) n)
    | .sub => some (flo (p.1 - r.2) n, cei (p.2 - r.1) n)
    | .mul => some (flo (tlo p.1 p.2 r.1 r.2) n, cei (thi p.1 p.2 r.1 r.2) n)
    | .div => if r.1 ≤ 0 ∧ 0 ≤ r.2 then none else some (flo (dlo p.1 p.2 r.1 r.2) n, cei (dhi p.1 p.2 r.1 r.2) n)
def oiv : Option (Rat × Rat) → PV
  | none => .non
  | some p => iv p.1 p.2
def Bd : Nat → Nat
  | 0 => 108
  | h + 1 => 4 * Bd h + 54
theorem Bd_mono {h k : Nat} (l : h ≤ k) : Bd h ≤ Bd k := by
  induction l with
  | refl => exact Nat.le_refl _
  | step _ ih => rw [Bd]; omega
theorem Bd_ge (h : Nat) : 108 ≤ Bd h := Bd_mono (Nat.zero_le h)
structure Xok (X : Nat → Rat × Rat) : Prop where
  o : ∀ i, i < 4 → (X i).1 ≤ (X i).2
  s : ∀ i, i < 4 → szq 57 (X i).1 ∧ szq 57 (X i).2
theorem wid_le {a b : Rat} (n : Nat) (h : a ≤ b) : flo a n ≤ cei b n := by
  have z1 := flo_le a n
  have z2 := le_cei b n
  grind
theorem szq.tlo {k : Nat} {a b c e : Rat} (ha : szq k a) (hb : szq k b) (hc : szq k c) (he : szq k e) : szq (k + k) (MP.tlo a b c e) := ((ha.mul hc).mn (hb.mul hc)).mn ((ha.mul he).mn (hb.mul he))
theorem szq.thi {k : Nat} {a b c e : Rat} (ha : szq k a) (hb : szq k b) (hc : szq k c) (he : szq k e) : szq (k + k) (MP.thi a b c e) := ((ha.mul hc).mx (hb.mul hc)).mx ((ha.mul he).mx (hb.mul he))
theorem szq.rlo {k m : Nat} {a b : Rat} (ha : szq k a) (hb : szq k b) : szq (1 + k * m) (MP.rlo a b m) := by
  unfold MP.rlo
  split
  · exact ((ha.pow m).mn (hb.pow m)).mn (sz_zero.mono (by omega))
  · exact (ha.pow m).mn (hb.pow m)
theorem szq.rhi {k m : Nat} {a b : Rat} (ha : szq k a) (hb : szq k b) : szq (1 + k * m) (MP.rhi a b m) := by
  unfold MP.rhi
  split
  · exact ((ha.pow m).mx (hb.pow m)).mx (sz_zero.mono (by omega))
  · exact (ha.pow m).mx (hb.pow m)
/-- a range's order and sizes -/
theorem rg_ok {n : Nat} {X : Nat → Rat × Rat} (hX : Xok X) (hn : n < 50) : ∀ (t : Tr) (p : Rat × Rat), t.okT → rg n X t = some p → p.1 ≤ p.2 ∧ szq (Bd t.ht) p.1 ∧ szq (Bd t.ht) p.2
  | .num q, p, ok, h => by
    cases h
    have ok : szq 8 q := ok
    exact ⟨wid_le n (by grind), (ok.flo hn).mono (by show 59 ≤ 108; omega), (ok.cei hn).mono (by show 59 ≤ 108; omega)⟩
  | .st i, p, ok, h => by
    cases h
    have ok : i < 2 := ok
    exact ⟨wid_le n (hX.o i (by omega)), ((hX.s i (by omega)).1.flo hn).mono (by show 108 ≤ 108; omega), ((hX.s i (by omega)).2.cei hn).mono (by show 108 ≤ 108; omega)⟩
  | .cn i, p, ok, h => by
    cases h
    have ok : i < 2 := ok
    exact ⟨wid_le n (hX.o (2 + i) (by omega)), ((hX.s (2 + i) (by omega)).1.flo hn).mono (by show 108 ≤ 108; omega), ((hX.s (2 + i) (by omega)).2.cei hn).mono (by show 108 ≤ 108; omega)⟩
  | .pw t m, p, ok, h => by
    unfold rg at h
    cases e : rg n X t with
    | none => rw [e] at h; cases h
    | some q =>
      rw [e] at h
      cases h
      obtain ⟨o, s1, s2⟩ := rg_ok hX hn t q ok.1 e
      have hm : m < 5 := ok.2
      have l : Bd t.ht * m ≤ Bd t.ht * 4 := Nat.mul_le_mul_left _ (by omega)
      have b : 1 + Bd t.ht * m + 51 ≤ Bd (Tr.pw t m).ht := by
        show _ ≤ 4 * Bd t.ht + 54
        omega
      exact ⟨wid_le n (rlo_rhi m o), ((szq.rlo s1 s2).flo hn).mono b, ((szq.rhi s1 s2).cei hn).mono b⟩
  | .bin o a b, p, ok, h => by
    unfold rg at h
    cases e : rg n X a with
    | none => rw [e] at h; cases h
    | some q =>
      cases e2 : rg n X b with
      | none => rw [e, e2] at h; cases h
      | some r =>
        rw [e, e2] at h
        obtain ⟨o1, s1, s2⟩ := rg_ok hX hn a q ok.1 e
        obtain ⟨o2, s3, s4⟩ := rg_ok hX hn b r ok.2 e2
        have m1 : Bd a.ht ≤ Bd (max a.ht b.ht) := Bd_mono (Nat.le_max_left _ _)
        have m2 : Bd b.ht ≤ Bd (max a.ht b.ht) := Bd_mono (Nat.le_max_right _ _)
        have g := Bd_ge (max a.ht b.ht)
        have s1 := s1.mono m1
        have s2 := s2.mono m1
        have s3 := s3.mono m2
        have s4 := s4.mono m2
        have top : Bd (Tr.bin o a b).ht = 4 * Bd (max a.ht b.ht) + 54 := rfl
        rw [top]
        generalize Bd (max a.ht b.ht) = k at *
        cases o with
        | add => cases h; exact ⟨wid_le n (by grind), ((s1.add s3).flo hn).mono (by omega), ((s2.add s4).cei hn).mono (by omega)⟩
        | sub => cases h; exact ⟨wid_le n (by grind), ((s1.sub s4).flo hn).mono (by omega), ((s2.sub s3).cei hn).mono (by omega)⟩
        | mul => cases h; exact ⟨wid_le n (tlo_thi _ _ _ _), ((szq.tlo s1 s2 s3 s4).flo hn).mono (by omega), ((szq.thi s1 s2 s3 s4).cei hn).mono (by omega)⟩
        | div =>
          have h : (if r.1 ≤ 0 ∧ 0 ≤ r.2 then none else some (flo (dlo q.1 q.2 r.1 r.2) n, cei (dhi q.1 q.2 r.1 r.2) n)) = some p := h
          split at h
          · cases h
          · rename_i hz
            cases h
            have c0 : r.1 ≠ 0 := fun z => hz ⟨by grind, by grind⟩
            have e0 : r.2 ≠ 0 := fun z => hz ⟨by grind, by grind⟩
            have d1 := sz_one.div s4 e0
            have d2 := sz_one.div s3 c0
            have t1 := szq.tlo (s1.mono (show k ≤ 1 + k by omega)) (s2.mono (show k ≤ 1 + k by omega)) d1 d2
            have t2 := szq.thi (s1.mono (show k ≤ 1 + k by omega)) (s2.mono (show k ≤ 1 + k by omega)) d1 d2
            exact ⟨wid_le n (tlo_thi _ _ _ _), (t1.flo hn).mono (by omega), (t2.cei hn).mono (by omega)⟩
end K16
end
section
set_option Elab.async false
set_option linter.all false
set_option maxRecDepth 100000
set_option maxHeartbeats 1000000
namespace K16
open PySem MP
theorem Bd2 : Bd 2 = 1998 := by decide
theorem Bd_mono2 {h : Nat} (l : h ≤ 2) : Bd h ≤ 1998 := by
  have z := Bd_mono l
  rw [Bd2] at z
  exact z
theorem w_ok {d k n : Nat} {a b : Rat} {S : Sto} (ha : szq k a) (hb : szq k b) (hn : n < 50) (hk : k ≤ 8800) : callN F (d + 4) n_widen [iv a b, .int n] S = .ok (iv (flo a n) (cei b n)) S := i_widen ha hb hn hk
/-- lists of two ranges -/
theorem ix2 {S : Sto} {p : Nat} {x y : PV} {i : Nat} (h : S.lst? p = some [x, y]) (hi : i < 2) : ixV S (.ref p) (.int i) = some (if i = 0 then x else y) := by
  unfold ixV
  simp only [h, Option.bind]
  match i, hi with
  | 0, _ => simp [itemAt, MP.placeOf]
  | 1, _ => simp [itemAt, MP.placeOf]
theorem ixX {S : Sto} {p : Nat} {X : Nat → Rat × Rat} {j i : Nat} (h : S.lst? p = some [iv (X j).1 (X j).2, iv (X (j + 1)).1 (X (j + 1)).2]) (hi : i < 2) : ixV S (.ref p) (.int i) = some (iv (X (j + i)).1 (X (j + i)).2) := by
  rw [ix2 h hi]
  match i, hi with
  | 0, _ => rfl
  | 1, _ => rfl
def told (o : Option (Rat × Rat)) (S : Sto) : MP.R PV := match o with
  | some p => .ok (iv p.1 p.2) S
  | none => .exc 1 [] S
theorem run_told {C : Nat → List PV → Sto → MP.R PV} {fd : FDef} {args : List PV} {S : Sto} {o : Option (Rat × Rat)} {σ : MP.Env} (h : xss C S.cells.length fd.body (args.map some ++ List.replicate (fd.nn - fd.np) none) ⟨S.cells, false⟩ = match o with
    | some p => .ret (iv p.1 p.2) ⟨S.cells, false⟩
    | none => .exc 1 [] σ ⟨S.cells, false⟩) : runF C fd args S = told o S := by
  cases o with
  | none => exact run_exc h rfl
  | some p => exact run_ret h rfl
section
variable {n p q : Nat} {X : Nat → Rat × Rat}
theorem c_range (hX : Xok X) (hn : n < 50) : ∀ (t : Tr) (e : Nat) (S : Sto), t.okT → t.ht ≤ 3 → t.ht + 8 ≤ e → S.lst? p = some [iv (X 0).1 (X 0).2, iv (X 1).1 (X 1).2] → S.lst? q = some [iv (X 2).1 (X 2).2, iv (X 3).1 (X 3).2] →
    callN F e n_range_over [t.tv, .ref p, .ref q, .int n] S = told (rg n X t) S
  | .num x, e, S, ok, h3, he, hp, hq => by
    obtain ⟨d, rfl⟩ : ∃ d, e = d + 8 := ⟨e - 8, by omega⟩
    rw [callN_of (fd := ⟨4, 7, b_range_over⟩) rfl rfl]
    have ok : szq 8 x := ok
    have w := w_ok (d := d + 3) (S := ⟨S.cells, false⟩) ok ok hn (by decide)
    have i := i_point (d := d + 6) (a := x) (S := ⟨S.cells, false⟩)
    refine run_ret ?_ rfl
    simp [b_range_over, Tr.tv, bd_ok, bd_exc, st_ok, st_exc, xss_cons, xss_nil, seq_next, seq_ret, seq_brk, seq_cont, seq_exc, eqV_int, xst, ev, evT, evs, evo, evc, evi, opR, opV, opt, cmV, cmI, ixV, itemAt, MP.placeOf, biR, bindT, bindTs, unslot, hold, unhold, truV, isTy, isV, es_num_num, es_num_state, es_num_const, es_num_pow, es_num_add, es_num_sub, es_num_mul, es_num_div, es_state_num, es_state_state, es_state_const, es_state_pow, es_state_add, es_state_sub, es_state_mul, es_state_div, es_const_num, es_const_state, es_const_const, es_const_pow, es_const_add, es_const_sub, es_const_mul, es_const_div, es_pow_num, es_pow_state, es_pow_const, es_pow_pow, es_pow_add, es_pow_sub, es_pow_mul, es_pow_div, es_add_num, es_add_state, es_add_const, es_add_pow, es_add_add, es_add_sub, es_add_mul, es_add_div, es_sub_num, es_sub_state, es_sub_const, es_sub_pow, es_sub_add, es_sub_sub, es_sub_mul, es_sub_div, es_mul_num, es_mul_state, es_mul_const, es_mul_pow, es_mul_add, es_mul_sub, es_mul_mul, es_mul_div, es_div_num, es_div_state, es_div_const, es_div_pow, es_div_add, es_div_sub, es_div_mul, es_div_div, i, w]
  | .st i, e, S, ok, h3, he, hp, hq => by
    obtain ⟨d, rfl⟩ : ∃ d, e = d + 8 := ⟨e - 8, by omega⟩
    rw [callN_of (fd := ⟨4, 7, b_range_over⟩) rfl rfl]
    have ok : i < 2 := ok
    have w := w_ok (d := d + 3) (S := ⟨S.cells, false⟩) (hX.s i (by omega)).1 (hX.s i (by omega)).2 hn (by decide)
    have j := ixX (S := ⟨S.cells, false⟩) (j := 0) (i := i) (X := X) hp ok
    rw [Nat.zero_add] at j
    have it : ∀ S : Sto, ixV S (.tup [.str "state", .int i]) (.int 0) = some (.str "state") := fun _ => rfl
    have it1 : ∀ S : Sto, ixV S (.tup [.str "state", .int i]) (.int 1) = some (.int i) := fun _ => rfl
    refine run_ret ?_ rfl
    simp [b_range_over, Tr.tv, bd_ok, bd_exc, st_ok, st_exc, xss_cons, xss_nil, seq_next, seq_ret, xst, ev, evT, evs, opt, cmV, bindT, es_num_num, es_num_state, es_num_const, es_num_pow, es_num_add, es_num_sub, es_num_mul, es_num_div, es_state_num, es_state_state, es_state_const, es_state_pow, es_state_add, es_state_sub, es_state_mul, es_state_div, es_const_num, es_const_state, es_const_const, es_const_pow, es_const_add, es_const_sub, es_const_mul, es_const_div, es_pow_num, es_pow_state, es_pow_const, es_pow_pow, es_pow_add, es_pow_sub, es_pow_mul, es_pow_div, es_add_num, es_add_state, es_add_const, es_add_pow, es_add_add, es_add_sub, es_add_mul, es_add_div, es_sub_num, es_sub_state, es_sub_const, es_sub_pow, es_sub_add, es_sub_sub, es_sub_mul, es_sub_div, es_mul_num, es_mul_state, es_mul_const, es_mul_pow, es_mul_add, es_mul_sub, es_mul_mul, es_mul_div, es_div_num, es_div_state, es_div_const, es_div_pow, es_div_add, es_div_sub, es_div_mul, es_div_div, it, it1, j, w]
  | .cn i, e, S, ok, h3, he, hp, hq => by
    obtain ⟨d, rfl⟩ : ∃ d, e = d + 8 := ⟨e - 8, by omega⟩
    rw [callN_of (fd := ⟨4, 7, b_range_over⟩) rfl rfl]
    have ok : i < 2 := ok
    have w := w_ok (d := d + 3) (S := ⟨S.cells, false⟩) (hX.s (2 + i) (by omega)).1 (hX.s (2 + i) (by omega)).2 hn (by decide)
    have j := ixX (S := ⟨S.cells, false⟩) (j := 2) (i := i) (X := X) hq ok
    have it : ∀ S : Sto, ixV S (.tup [.str "const", .int i]) (.int 0) = some (.str "const") := fun _ => rfl
    have it1 : ∀ S : Sto, ixV S (.tup [.str "const", .int i]) (.int 1) = some (.int i) := fun _ => rfl
    refine run_ret ?_ rfl
    simp [b_range_over, Tr.tv, bd_ok, bd_exc, st_ok, st_exc, xss_cons, xss_nil, seq_next, seq_ret, xst, ev, evT, evs, opt, cmV, bindT, es_num_num, es_num_state, es_num_const, es_num_pow, es_num_add, es_num_sub, es_num_mul, es_num_div, es_state_num, es_state_state, es_state_const, es_state_pow, es_state_add, es_state_sub, es_state_mul, es_state_div, es_const_num, es_const_state, es_const_const, es_const_pow, es_const_add, es_const_sub, es_const_mul, es_const_div, es_pow_num, es_pow_state, es_pow_const, es_pow_pow, es_pow_add, es_pow_sub, es_pow_mul, es_pow_div, es_add_num, es_add_state, es_add_const, es_add_pow, es_add_add, es_add_sub, es_add_mul, es_add_div, es_sub_num, es_sub_state, es_sub_const, es_sub_pow, es_sub_add, es_sub_sub, es_sub_mul, es_sub_div, es_mul_num, es_mul_state, es_mul_const, es_mul_pow, es_mul_add, es_mul_sub, es_mul_mul, es_mul_div, es_div_num, es_div_state, es_div_const, es_div_pow, es_div_add, es_div_sub, es_div_mul, es_div_div, it, it1, j, w]
  | .pw t m, e, S, ok, h3, he, hp, hq => by
    obtain ⟨d, rfl⟩ : ∃ d, e = d + 9 := ⟨e - 9, by have : (Tr.pw t m).ht = t.ht + 1 := rfl; omega⟩
    rw [callN_of (fd := ⟨4, 7, b_range_over⟩) rfl rfl]
    have hh : (Tr.pw t m).ht = t.ht + 1 := rfl
    have ih := c_range hX hn t (d + 8) ⟨S.cells, false⟩ ok.1 (by omega) (by omega) hp hq
    have hm : m < 5 := ok.2
    cases er : rg n X t with
    | none =>
      rw [er] at ih
      refine run_told (σ := [some (Tr.pw t m).tv, some (.ref p), some (.ref q), some (.int n), some (.str "pow"), none, none]) ?_
      simp [b_range_over, Tr.tv, bd_ok, bd_exc, st_ok, st_exc, xss_cons, xss_nil, seq_next, seq_ret, seq_brk, seq_cont, seq_exc, eqV_int, xst, ev, evT, evs, evo, evc, evi, opR, opV, opt, cmV, cmI, ixV, itemAt, MP.placeOf, biR, bindT, bindTs, unslot, hold, unhold, truV, isTy, isV, es_num_num, es_num_state, es_num_const, es_num_pow, es_num_add, es_num_sub, es_num_mul, es_num_div, es_state_num, es_state_state, es_state_const, es_state_pow, es_state_add, es_state_sub, es_state_mul, es_state_div, es_const_num, es_const_state, es_const_const, es_const_pow, es_const_add, es_const_sub, es_const_mul, es_const_div, es_pow_num, es_pow_state, es_pow_const, es_pow_pow, es_pow_add, es_pow_sub, es_pow_mul, es_pow_div, es_add_num, es_add_state, es_add_const, es_add_pow, es_add_add, es_add_sub, es_add_mul, es_add_div, es_sub_num, es_sub_state, es_sub_const, es_sub_pow, es_sub_add, es_sub_sub, es_sub_mul, es_sub_div, es_mul_num, es_mul_state, es_mul_const, es_mul_pow, es_mul_add, es_mul_sub, es_mul_mul, es_mul_div, es_div_num, es_div_state, es_div_const, es_div_pow, es_div_add, es_div_sub, es_div_mul, es_div_div, ih, told, rg, er]
    | some r =>
      rw [er] at ih
      obtain ⟨o, s1, s2⟩ := rg_ok hX hn t r ok.1 er
      have b2 : Bd t.ht ≤ 1998 := Bd_mono2 (by omega)
      have lm : Bd t.ht * m ≤ 1998 * 4 := Nat.mul_le_mul b2 (by omega)
      have rr := i_raised (d := d + 4) (n := m) (S := ⟨S.cells, false⟩) s1 s2 o (by omega) (by omega) (by omega) (by have := Bd_ge t.ht; omega)
      have w := w_ok (d := d + 4) (S := ⟨S.cells, false⟩) (szq.rlo (m := m) s1 s2) (szq.rhi (m := m) s1 s2) hn (by omega)
      have e2 : rg n X (Tr.pw t m) = some (flo (rlo r.1 r.2 m) n, cei (rhi r.1 r.2 m) n) := by unfold rg; rw [er]; rfl
      rw [e2]
      refine run_told (σ := []) ?_
      simp [b_range_over, Tr.tv, bd_ok, bd_exc, st_ok, st_exc, xss_cons, xss_nil, seq_next, seq_ret, seq_brk, seq_cont, seq_exc, eqV_int, xst, ev, evT, evs, evo, evc, evi, opR, opV, opt, cmV, cmI, ixV, itemAt, MP.placeOf, biR, bindT, bindTs, unslot, hold, unhold, truV, isTy, isV, es_num_num, es_num_state, es_num_const, es_num_pow, es_num_add, es_num_sub, es_num_mul, es_num_div, es_state_num, es_state_state, es_state_const, es_state_pow, es_state_add, es_state_sub, es_state_mul, es_state_div, es_const_num, es_const_state, es_const_const, es_const_pow, es_const_add, es_const_sub, es_const_mul, es_const_div, es_pow_num, es_pow_state, es_pow_const, es_pow_pow, es_pow_add, es_pow_sub, es_pow_mul, es_pow_div, es_add_num, es_add_state, es_add_const, es_add_pow, es_add_add, es_add_sub, es_add_mul, es_add_div, es_sub_num, es_sub_state, es_sub_const, es_sub_pow, es_sub_add, es_sub_sub, es_sub_mul, es_sub_div, es_mul_num, es_mul_state, es_mul_const, es_mul_pow, es_mul_add, es_mul_sub, es_mul_mul, es_mul_div, es_div_num, es_div_state, es_div_const, es_div_pow, es_div_add, es_div_sub, es_div_mul, es_div_div, ih, told, rr, w]
  | .bin o a b, e, S, ok, h3, he, hp, hq => by
    have hh : (Tr.bin o a b).ht = max a.ht b.ht + 1 := rfl
    have ha : a.ht ≤ max a.ht b.ht := Nat.le_max_left _ _
    have hb : b.ht ≤ max a.ht b.ht := Nat.le_max_right _ _
    obtain ⟨d, rfl⟩ : ∃ d, e = d + 9 := ⟨e - 9, by omega⟩
    rw [callN_of (fd := ⟨4, 7, b_range_over⟩) rfl rfl]
    have ih1 := c_range hX hn a (d + 8) ⟨S.cells, false⟩ ok.1 (by omega) (by omega) hp hq
    have ih2 := c_range hX hn b (d + 8) ⟨S.cells, false⟩ ok.2 (by omega) (by omega) hp hq
    cases er : rg n X a with
    | none =>
      rw [er] at ih1
      have e2 : rg n X (Tr.bin o a b) = none := by unfold rg; rw [er]; rfl
      rw [e2]
      refine run_told (σ := [some (Tr.bin o a b).tv, some (.ref p), some (.ref q), some (.int n), some (.str o.nm), none, none]) ?_
      cases o <;> simp [b_range_over, Tr.tv, Bo.nm, bd_ok, bd_exc, st_ok, st_exc, xss_cons, xss_nil, seq_next, seq_ret, seq_brk, seq_cont, seq_exc, eqV_int, xst, ev, evT, evs, evo, evc, evi, opR, opV, opt, cmV, cmI, ixV, itemAt, MP.placeOf, biR, bindT, bindTs, unslot, hold, unhold, truV, isTy, isV, es_num_num, es_num_state, es_num_const, es_num_pow, es_num_add, es_num_sub, es_num_mul, es_num_div, es_state_num, es_state_state, es_state_const, es_state_pow, es_state_add, es_state_sub, es_state_mul, es_state_div, es_const_num, es_const_state, es_const_const, es_const_pow, es_const_add, es_const_sub, es_const_mul, es_const_div, es_pow_num, es_pow_state, es_pow_const, es_pow_pow, es_pow_add, es_pow_sub, es_pow_mul, es_pow_div, es_add_num, es_add_state, es_add_const, es_add_pow, es_add_add, es_add_sub, es_add_mul, es_add_div, es_sub_num, es_sub_state, es_sub_const, es_sub_pow, es_sub_add, es_sub_sub, es_sub_mul, es_sub_div, es_mul_num, es_mul_state, es_mul_const, es_mul_pow, es_mul_add, es_mul_sub, es_mul_mul, es_mul_div, es_div_num, es_div_state, es_div_const, es_div_pow, es_div_add, es_div_sub, es_div_mul, es_div_div, ih1, told]
    | some r =>
      rw [er] at ih1
      cases er2 : rg n X b with
      | none =>
        rw [er2] at ih2
        have e2 : rg n X (Tr.bin o a b) = none := by unfold rg; rw [er, er2]; rfl
        rw [e2]
        refine run_told (σ := [some (Tr.bin o a b).tv, some (.ref p), some (.ref q), some (.int n), some (.str o.nm), some (iv r.1 r.2), none]) ?_
        cases o <;> simp [b_range_over, Tr.tv, Bo.nm, bd_ok, bd_exc, st_ok, st_exc, xss_cons, xss_nil, seq_next, seq_ret, seq_brk, seq_cont, seq_exc, eqV_int, xst, ev, evT, evs, evo, evc, evi, opR, opV, opt, cmV, cmI, ixV, itemAt, MP.placeOf, biR, bindT, bindTs, unslot, hold, unhold, truV, isTy, isV, es_num_num, es_num_state, es_num_const, es_num_pow, es_num_add, es_num_sub, es_num_mul, es_num_div, es_state_num, es_state_state, es_state_const, es_state_pow, es_state_add, es_state_sub, es_state_mul, es_state_div, es_const_num, es_const_state, es_const_const, es_const_pow, es_const_add, es_const_sub, es_const_mul, es_const_div, es_pow_num, es_pow_state, es_pow_const, es_pow_pow, es_pow_add, es_pow_sub, es_pow_mul, es_pow_div, es_add_num, es_add_state, es_add_const, es_add_pow, es_add_add, es_add_sub, es_add_mul, es_add_div, es_sub_num, es_sub_state, es_sub_const, es_sub_pow, es_sub_add, es_sub_sub, es_sub_mul, es_sub_div, es_mul_num, es_mul_state, es_mul_const, es_mul_pow, es_mul_add, es_mul_sub, es_mul_mul, es_mul_div, es_div_num, es_div_state, es_div_const, es_div_pow, es_div_add, es_div_sub, es_div_mul, es_div_div, ih1, ih2, told]
      | some s =>
        rw [er2] at ih2
        obtain ⟨o1, s1, s2⟩ := rg_ok hX hn a r ok.1 er
        obtain ⟨o2, s3, s4⟩ := rg_ok hX hn b s ok.2 er2
        have b2 : Bd (max a.ht b.ht) ≤ 1998 := Bd_mono2 (by omega)
        have s1 := s1.mono (Nat.le_trans (Bd_mono ha) b2)
        have s2 := s2.mono (Nat.le_trans (Bd_mono ha) b2)
        have s3 := s3.mono (Nat.le_trans (Bd_mono hb) b2)
        have s4 := s4.mono (Nat.le_trans (Bd_mono hb) b2)
        cases o with
        | add =>
          have e2 : rg n X (Tr.bin .add a b) = some (flo (r.1 + s.1) n, cei (r.2 + s.2) n) := by unfold rg; rw [er, er2]; rfl
          rw [e2]
          have op := i_plus (d := d + 5) (S := ⟨S.cells, false⟩) s1 s2 s3 s4 (by decide)
          have w := w_ok (d := d + 4) (S := ⟨S.cells, false⟩) (s1.add s3) (s2.add s4) hn (by decide)
          refine run_told (σ := []) ?_
          simp [b_range_over, Tr.tv, Bo.nm, bd_ok, bd_exc, st_ok, st_exc, xss_cons, xss_nil, seq_next, seq_ret, seq_brk, seq_cont, seq_exc, eqV_int, xst, ev, evT, evs, evo, evc, evi, opR, opV, opt, cmV, cmI, ixV, itemAt, MP.placeOf, biR, bindT, bindTs, unslot, hold, unhold, truV, isTy, isV, es_num_num, es_num_state, es_num_const, es_num_pow, es_num_add, es_num_sub, es_num_mul, es_num_div, es_state_num, es_state_state, es_state_const, es_state_pow, es_state_add, es_state_sub, es_state_mul, es_state_div, es_const_num, es_const_state, es_const_const, es_const_pow, es_const_add, es_const_sub, es_const_mul, es_const_div, es_pow_num, es_pow_state, es_pow_const, es_pow_pow, es_pow_add, es_pow_sub, es_pow_mul, es_pow_div, es_add_num, es_add_state, es_add_const, es_add_pow, es_add_add, es_add_sub, es_add_mul, es_add_div, es_sub_num, es_sub_state, es_sub_const, es_sub_pow, es_sub_add, es_sub_sub, es_sub_mul, es_sub_div, es_mul_num, es_mul_state, es_mul_const, es_mul_pow, es_mul_add, es_mul_sub, es_mul_mul, es_mul_div, es_div_num, es_div_state, es_div_const, es_div_pow, es_div_add, es_div_sub, es_div_mul, es_div_div, ih1, ih2, told, op, w]
        | sub =>
          have e2 : rg n X (Tr.bin .sub a b) = some (flo (r.1 - s.2) n, cei (r.2 - s.1) n) := by unfold rg; rw [er, er2]; rfl
          rw [e2]
          have op := i_minus (d := d + 4) (S := ⟨S.cells, false⟩) s1 s2 s3 s4 (by decide)
          have w := w_ok (d := d + 4) (S := ⟨S.cells, false⟩) (s1.sub s4) (s2.sub s3) hn (by decide)
          refine run_told (σ := []) ?_
          simp [b_range_over, Tr.tv, Bo.nm, bd_ok, bd_exc, st_ok, st_exc, xss_cons, xss_nil, seq_next, seq_ret, seq_brk, seq_cont, seq_exc, eqV_int, xst, ev, evT, evs, evo, evc, evi, opR, opV, opt, cmV, cmI, ixV, itemAt, MP.placeOf, biR, bindT, bindTs, unslot, hold, unhold, truV, isTy, isV, es_num_num, es_num_state, es_num_const, es_num_pow, es_num_add, es_num_sub, es_num_mul, es_num_div, es_state_num, es_state_state, es_state_const, es_state_pow, es_state_add, es_state_sub, es_state_mul, es_state_div, es_const_num, es_const_state, es_const_const, es_const_pow, es_const_add, es_const_sub, es_const_mul, es_const_div, es_pow_num, es_pow_state, es_pow_const, es_pow_pow, es_pow_add, es_pow_sub, es_pow_mul, es_pow_div, es_add_num, es_add_state, es_add_const, es_add_pow, es_add_add, es_add_sub, es_add_mul, es_add_div, es_sub_num, es_sub_state, es_sub_const, es_sub_pow, es_sub_add, es_sub_sub, es_sub_mul, es_sub_div, es_mul_num, es_mul_state, es_mul_const, es_mul_pow, es_mul_add, es_mul_sub, es_mul_mul, es_mul_div, es_div_num, es_div_state, es_div_const, es_div_pow, es_div_add, es_div_sub, es_div_mul, es_div_div, ih1, ih2, told, op, w]
        | mul =>
          have e2 : rg n X (Tr.bin .mul a b) = some (flo (tlo r.1 r.2 s.1 s.2) n, cei (thi r.1 r.2 s.1 s.2) n) := by unfold rg; rw [er, er2]; rfl
          rw [e2]
          have op : callN F (d + 8) n_times [iv r.1 r.2, iv s.1 s.2] ⟨S.cells, false⟩ = .ok (iv (tlo r.1 r.2 s.1 s.2) (thi r.1 r.2 s.1 s.2)) ⟨S.cells, false⟩ := i_times (d := d + 4) (S := ⟨S.cells, false⟩) s1 s2 s3 s4 o1 (by decide)
          have w := w_ok (d := d + 4) (S := ⟨S.cells, false⟩) (szq.tlo s1 s2 s3 s4) (szq.thi s1 s2 s3 s4) hn (by decide)
          refine run_told (σ := []) ?_
          simp [b_range_over, Tr.tv, Bo.nm, bd_ok, bd_exc, st_ok, st_exc, xss_cons, xss_nil, seq_next, seq_ret, seq_brk, seq_cont, seq_exc, eqV_int, xst, ev, evT, evs, evo, evc, evi, opR, opV, opt, cmV, cmI, ixV, itemAt, MP.placeOf, biR, bindT, bindTs, unslot, hold, unhold, truV, isTy, isV, es_num_num, es_num_state, es_num_const, es_num_pow, es_num_add, es_num_sub, es_num_mul, es_num_div, es_state_num, es_state_state, es_state_const, es_state_pow, es_state_add, es_state_sub, es_state_mul, es_state_div, es_const_num, es_const_state, es_const_const, es_const_pow, es_const_add, es_const_sub, es_const_mul, es_const_div, es_pow_num, es_pow_state, es_pow_const, es_pow_pow, es_pow_add, es_pow_sub, es_pow_mul, es_pow_div, es_add_num, es_add_state, es_add_const, es_add_pow, es_add_add, es_add_sub, es_add_mul, es_add_div, es_sub_num, es_sub_state, es_sub_const, es_sub_pow, es_sub_add, es_sub_sub, es_sub_mul, es_sub_div, es_mul_num, es_mul_state, es_mul_const, es_mul_pow, es_mul_add, es_mul_sub, es_mul_mul, es_mul_div, es_div_num, es_div_state, es_div_const, es_div_pow, es_div_add, es_div_sub, es_div_mul, es_div_div, ih1, ih2, told, op, w]
        | div =>
          by_cases hz : s.1 ≤ 0 ∧ 0 ≤ s.2
          · have e2 : rg n X (Tr.bin .div a b) = none := by unfold rg; rw [er, er2]; exact if_pos hz
            rw [e2]
            have op := i_over0 (d := d + 3) (a := r.1) (S := ⟨S.cells, false⟩) s2 s3 s4 (by decide) (by decide) hz
            refine run_told (σ := [some (Tr.bin .div a b).tv, some (.ref p), some (.ref q), some (.int n), some (.str "div"), some (iv r.1 r.2), some (iv s.1 s.2)]) ?_
            simp [b_range_over, Tr.tv, Bo.nm, bd_ok, bd_exc, st_ok, st_exc, xss_cons, xss_nil, seq_next, seq_ret, seq_brk, seq_cont, seq_exc, eqV_int, xst, ev, evT, evs, evo, evc, evi, opR, opV, opt, cmV, cmI, ixV, itemAt, MP.placeOf, biR, bindT, bindTs, unslot, hold, unhold, truV, isTy, isV, es_num_num, es_num_state, es_num_const, es_num_pow, es_num_add, es_num_sub, es_num_mul, es_num_div, es_state_num, es_state_state, es_state_const, es_state_pow, es_state_add, es_state_sub, es_state_mul, es_state_div, es_const_num, es_const_state, es_const_const, es_const_pow, es_const_add, es_const_sub, es_const_mul, es_const_div, es_pow_num, es_pow_state, es_pow_const, es_pow_pow, es_pow_add, es_pow_sub, es_pow_mul, es_pow_div, es_add_num, es_add_state, es_add_const, es_add_pow, es_add_add, es_add_sub, es_add_mul, es_add_div, es_sub_num, es_sub_state, es_sub_const, es_sub_pow, es_sub_add, es_sub_sub, es_sub_mul, es_sub_div, es_mul_num, es_mul_state, es_mul_const, es_mul_pow, es_mul_add, es_mul_sub, es_mul_mul, es_mul_div, es_div_num, es_div_state, es_div_const, es_div_pow, es_div_add, es_div_sub, es_div_mul, es_div_div, ih1, ih2, told, op]
          · have e2 : rg n X (Tr.bin .div a b) = some (flo (dlo r.1 r.2 s.1 s.2) n, cei (dhi r.1 r.2 s.1 s.2) n) := by unfold rg; rw [er, er2]; exact if_neg hz
            rw [e2]
            have op : callN F (d + 8) n_over [iv r.1 r.2, iv s.1 s.2] ⟨S.cells, false⟩ = .ok (iv (dlo r.1 r.2 s.1 s.2) (dhi r.1 r.2 s.1 s.2)) ⟨S.cells, false⟩ := by
              have z := i_over (d := d + 3) (S := ⟨S.cells, false⟩) s1 s2 s3 s4 o1 o2 (by decide) (by decide) hz
              unfold dlo dhi tlo thi
              simp only [div_one]
              exact z
            have c0 : s.1 ≠ 0 := fun z => hz ⟨by grind, by grind⟩
            have e0 : s.2 ≠ 0 := fun z => hz ⟨by grind, by grind⟩
            have d1 := sz_one.div s4 e0
            have d2 := sz_one.div s3 c0
            have t1 := szq.tlo (s1.mono (show 1998 ≤ 1 + 1998 by omega)) (s2.mono (show 1998 ≤ 1 + 1998 by omega)) d1 d2
            have t2 := szq.thi (s1.mono (show 1998 ≤ 1 + 1998 by omega)) (s2.mono (show 1998 ≤ 1 + 1998 by omega)) d1 d2
            have w : callN F (d + 8) n_widen [iv (dlo r.1 r.2 s.1 s.2) (dhi r.1 r.2 s.1 s.2), .int n] ⟨S.cells, false⟩ = _ := w_ok (d := d + 4) (S := ⟨S.cells, false⟩) t1 t2 hn (by decide)
            refine run_told (σ := []) ?_
            simp [b_range_over, Tr.tv, Bo.nm, bd_ok, bd_exc, st_ok, st_exc, xss_cons, xss_nil, seq_next, seq_ret, seq_brk, seq_cont, seq_exc, eqV_int, xst, ev, evT, evs, evo, evc, evi, opR, opV, opt, cmV, cmI, ixV, itemAt, MP.placeOf, biR, bindT, bindTs, unslot, hold, unhold, truV, isTy, isV, es_num_num, es_num_state, es_num_const, es_num_pow, es_num_add, es_num_sub, es_num_mul, es_num_div, es_state_num, es_state_state, es_state_const, es_state_pow, es_state_add, es_state_sub, es_state_mul, es_state_div, es_const_num, es_const_state, es_const_const, es_const_pow, es_const_add, es_const_sub, es_const_mul, es_const_div, es_pow_num, es_pow_state, es_pow_const, es_pow_pow, es_pow_add, es_pow_sub, es_pow_mul, es_pow_div, es_add_num, es_add_state, es_add_const, es_add_pow, es_add_add, es_add_sub, es_add_mul, es_add_div, es_sub_num, es_sub_state, es_sub_const, es_sub_pow, es_sub_add, es_sub_sub, es_sub_mul, es_sub_div, es_mul_num, es_mul_state, es_mul_const, es_mul_pow, es_mul_add, es_mul_sub, es_mul_mul, es_mul_div, es_div_num, es_div_state, es_div_const, es_div_pow, es_div_add, es_div_sub, es_div_mul, es_div_div, ih1, ih2, told, op, w]
end
end K16
end
section
set_option Elab.async false
set_option linter.all false
set_option maxRecDepth 100000
set_option maxHeartbeats 1000000
namespace K16
open PySem MP
section
variable {n p q : Nat} {X : Nat → Rat × Rat}
theorem oiv_pure (o : Option (Rat × Rat)) : (oiv o).pure = true := by cases o <;> rfl
theorem c_lrange (hX : Xok X) (hn : n < 50) : ∀ (t : Tr) (e : Nat) (S : Sto), t.okT → t.ht ≤ 3 → t.ht + 8 ≤ e → S.lst? p = some [iv (X 0).1 (X 0).2, iv (X 1).1 (X 1).2] → S.lst? q = some [iv (X 2).1 (X 2).2, iv (X 3).1 (X 3).2] →
    callN F e n__law_range [t.tv, .ref p, .ref q, .int n] S = .ok (oiv (rg n X t)) S
  | .num x, e, S, ok, h3, he, hp, hq => by
    obtain ⟨d, rfl⟩ : ∃ d, e = d + 8 := ⟨e - 8, by omega⟩
    rw [callN_of (fd := ⟨4, 7, b__law_range⟩) rfl rfl]
    have ok : szq 8 x := ok
    have w := w_ok (d := d + 3) (S := ⟨S.cells, false⟩) ok ok hn (by decide)
    have i := i_point (d := d + 6) (a := x) (S := ⟨S.cells, false⟩)
    refine run_ret ?_ (oiv_pure _)
    simp [b__law_range, Tr.tv, bd_ok, bd_exc, st_ok, st_exc, xss_cons, xss_nil, seq_next, seq_ret, seq_brk, seq_cont, seq_exc, eqV_int, xst, ev, evT, evs, evo, evc, evi, opR, opV, opt, cmV, cmI, ixV, itemAt, MP.placeOf, biR, bindT, bindTs, unslot, hold, unhold, truV, isTy, isV, es_num_num, es_num_state, es_num_const, es_num_pow, es_num_add, es_num_sub, es_num_mul, es_num_div, es_state_num, es_state_state, es_state_const, es_state_pow, es_state_add, es_state_sub, es_state_mul, es_state_div, es_const_num, es_const_state, es_const_const, es_const_pow, es_const_add, es_const_sub, es_const_mul, es_const_div, es_pow_num, es_pow_state, es_pow_const, es_pow_pow, es_pow_add, es_pow_sub, es_pow_mul, es_pow_div, es_add_num, es_add_state, es_add_const, es_add_pow, es_add_add, es_add_sub, es_add_mul, es_add_div, es_sub_num, es_sub_state, es_sub_const, es_sub_pow, es_sub_add, es_sub_sub, es_sub_mul, es_sub_div, es_mul_num, es_mul_state, es_mul_const, es_mul_pow, es_mul_add, es_mul_sub, es_mul_mul, es_mul_div, es_div_num, es_div_state, es_div_const, es_div_pow, es_div_add, es_div_sub, es_div_mul, es_div_div, i, w]
    rfl
  | .st i, e, S, ok, h3, he, hp, hq => by
    obtain ⟨d, rfl⟩ : ∃ d, e = d + 8 := ⟨e - 8, by omega⟩
    rw [callN_of (fd := ⟨4, 7, b__law_range⟩) rfl rfl]
    have ok : i < 2 := ok
    have w := w_ok (d := d + 3) (S := ⟨S.cells, false⟩) (hX.s i (by omega)).1 (hX.s i (by omega)).2 hn (by decide)
    have j := ixX (S := ⟨S.cells, false⟩) (j := 0) (i := i) (X := X) hp ok
    rw [Nat.zero_add] at j
    have it : ∀ S : Sto, ixV S (.tup [.str "state", .int i]) (.int 0) = some (.str "state") := fun _ => rfl
    have it1 : ∀ S : Sto, ixV S (.tup [.str "state", .int i]) (.int 1) = some (.int i) := fun _ => rfl
    refine run_ret ?_ (oiv_pure _)
    simp [b__law_range, Tr.tv, bd_ok, bd_exc, st_ok, st_exc, xss_cons, xss_nil, seq_next, seq_ret, xst, ev, evT, evs, opt, cmV, bindT, es_num_num, es_num_state, es_num_const, es_num_pow, es_num_add, es_num_sub, es_num_mul, es_num_div, es_state_num, es_state_state, es_state_const, es_state_pow, es_state_add, es_state_sub, es_state_mul, es_state_div, es_const_num, es_const_state, es_const_const, es_const_pow, es_const_add, es_const_sub, es_const_mul, es_const_div, es_pow_num, es_pow_state, es_pow_const, es_pow_pow, es_pow_add, es_pow_sub, es_pow_mul, es_pow_div, es_add_num, es_add_state, es_add_const, es_add_pow, es_add_add, es_add_sub, es_add_mul, es_add_div, es_sub_num, es_sub_state, es_sub_const, es_sub_pow, es_sub_add, es_sub_sub, es_sub_mul, es_sub_div, es_mul_num, es_mul_state, es_mul_const, es_mul_pow, es_mul_add, es_mul_sub, es_mul_mul, es_mul_div, es_div_num, es_div_state, es_div_const, es_div_pow, es_div_add, es_div_sub, es_div_mul, es_div_div, it, it1, j, w]
    rfl
  | .cn i, e, S, ok, h3, he, hp, hq => by
    obtain ⟨d, rfl⟩ : ∃ d, e = d + 8 := ⟨e - 8, by omega⟩
    rw [callN_of (fd := ⟨4, 7, b__law_range⟩) rfl rfl]
    have ok : i < 2 := ok
    have w := w_ok (d := d + 3) (S := ⟨S.cells, false⟩) (hX.s (2 + i) (by omega)).1 (hX.s (2 + i) (by omega)).2 hn (by decide)
    have j := ixX (S := ⟨S.cells, false⟩) (j := 2) (i := i) (X := X) hq ok
    have it : ∀ S : Sto, ixV S (.tup [.str "const", .int i]) (.int 0) = some (.str "const") := fun _ => rfl
    have it1 : ∀ S : Sto, ixV S (.tup [.str "const", .int i]) (.int 1) = some (.int i) := fun _ => rfl
    refine run_ret ?_ (oiv_pure _)
    simp [b__law_range, Tr.tv, bd_ok, bd_exc, st_ok, st_exc, xss_cons, xss_nil, seq_next, seq_ret, xst, ev, evT, evs, opt, cmV, bindT, es_num_num, es_num_state, es_num_const, es_num_pow, es_num_add, es_num_sub, es_num_mul, es_num_div, es_state_num, es_state_state, es_state_const, es_state_pow, es_state_add, es_state_sub, es_state_mul, es_state_div, es_const_num, es_const_state, es_const_const, es_const_pow, es_const_add, es_const_sub, es_const_mul, es_const_div, es_pow_num, es_pow_state, es_pow_const, es_pow_pow, es_pow_add, es_pow_sub, es_pow_mul, es_pow_div, es_add_num, es_add_state, es_add_const, es_add_pow, es_add_add, es_add_sub, es_add_mul, es_add_div, es_sub_num, es_sub_state, es_sub_const, es_sub_pow, es_sub_add, es_sub_sub, es_sub_mul, es_sub_div, es_mul_num, es_mul_state, es_mul_const, es_mul_pow, es_mul_add, es_mul_sub, es_mul_mul, es_mul_div, es_div_num, es_div_state, es_div_const, es_div_pow, es_div_add, es_div_sub, es_div_mul, es_div_div, it, it1, j, w]
    rfl
  | .pw t m, e, S, ok, h3, he, hp, hq => by
    obtain ⟨d, rfl⟩ : ∃ d, e = d + 9 := ⟨e - 9, by have : (Tr.pw t m).ht = t.ht + 1 := rfl; omega⟩
    rw [callN_of (fd := ⟨4, 7, b__law_range⟩) rfl rfl]
    have hh : (Tr.pw t m).ht = t.ht + 1 := rfl
    have ih := c_lrange hX hn t (d + 8) ⟨S.cells, false⟩ ok.1 (by omega) (by omega) hp hq
    have hm : m < 5 := ok.2
    cases er : rg n X t with
    | none =>
      rw [er] at ih
      refine run_ret ?_ (oiv_pure _)
      simp [b__law_range, Tr.tv, bd_ok, bd_exc, st_ok, st_exc, xss_cons, xss_nil, seq_next, seq_ret, seq_brk, seq_cont, seq_exc, eqV_int, xst, ev, evT, evs, evo, evc, evi, opR, opV, opt, cmV, cmI, ixV, itemAt, MP.placeOf, biR, bindT, bindTs, unslot, hold, unhold, truV, isTy, isV, es_num_num, es_num_state, es_num_const, es_num_pow, es_num_add, es_num_sub, es_num_mul, es_num_div, es_state_num, es_state_state, es_state_const, es_state_pow, es_state_add, es_state_sub, es_state_mul, es_state_div, es_const_num, es_const_state, es_const_const, es_const_pow, es_const_add, es_const_sub, es_const_mul, es_const_div, es_pow_num, es_pow_state, es_pow_const, es_pow_pow, es_pow_add, es_pow_sub, es_pow_mul, es_pow_div, es_add_num, es_add_state, es_add_const, es_add_pow, es_add_add, es_add_sub, es_add_mul, es_add_div, es_sub_num, es_sub_state, es_sub_const, es_sub_pow, es_sub_add, es_sub_sub, es_sub_mul, es_sub_div, es_mul_num, es_mul_state, es_mul_const, es_mul_pow, es_mul_add, es_mul_sub, es_mul_mul, es_mul_div, es_div_num, es_div_state, es_div_const, es_div_pow, es_div_add, es_div_sub, es_div_mul, es_div_div, ih, oiv, rg, er]
    | some r =>
      rw [er] at ih
      obtain ⟨o, s1, s2⟩ := rg_ok hX hn t r ok.1 er
      have b2 : Bd t.ht ≤ 1998 := Bd_mono2 (by omega)
      have lm : Bd t.ht * m ≤ 1998 * 4 := Nat.mul_le_mul b2 (by omega)
      have rr := i_raised (d := d + 4) (n := m) (S := ⟨S.cells, false⟩) s1 s2 o (by omega) (by omega) (by omega) (by have := Bd_ge t.ht; omega)
      have w := w_ok (d := d + 4) (S := ⟨S.cells, false⟩) (szq.rlo (m := m) s1 s2) (szq.rhi (m := m) s1 s2) hn (by omega)
      have e2 : rg n X (Tr.pw t m) = some (flo (rlo r.1 r.2 m) n, cei (rhi r.1 r.2 m) n) := by unfold rg; rw [er]; rfl
      rw [e2]
      refine run_ret ?_ (oiv_pure _)
      simp [b__law_range, Tr.tv, bd_ok, bd_exc, st_ok, st_exc, xss_cons, xss_nil, seq_next, seq_ret, seq_brk, seq_cont, seq_exc, eqV_int, xst, ev, evT, evs, evo, evc, evi, opR, opV, opt, cmV, cmI, ixV, itemAt, MP.placeOf, biR, bindT, bindTs, unslot, hold, unhold, truV, isTy, isV, es_num_num, es_num_state, es_num_const, es_num_pow, es_num_add, es_num_sub, es_num_mul, es_num_div, es_state_num, es_state_state, es_state_const, es_state_pow, es_state_add, es_state_sub, es_state_mul, es_state_div, es_const_num, es_const_state, es_const_const, es_const_pow, es_const_add, es_const_sub, es_const_mul, es_const_div, es_pow_num, es_pow_state, es_pow_const, es_pow_pow, es_pow_add, es_pow_sub, es_pow_mul, es_pow_div, es_add_num, es_add_state, es_add_const, es_add_pow, es_add_add, es_add_sub, es_add_mul, es_add_div, es_sub_num, es_sub_state, es_sub_const, es_sub_pow, es_sub_add, es_sub_sub, es_sub_mul, es_sub_div, es_mul_num, es_mul_state, es_mul_const, es_mul_pow, es_mul_add, es_mul_sub, es_mul_mul, es_mul_div, es_div_num, es_div_state, es_div_const, es_div_pow, es_div_add, es_div_sub, es_div_mul, es_div_div, ih, oiv, rr, w]
  | .bin o a b, e, S, ok, h3, he, hp, hq => by
    have hh : (Tr.bin o a b).ht = max a.ht b.ht + 1 := rfl
    have ha : a.ht ≤ max a.ht b.ht := Nat.le_max_left _ _
    have hb : b.ht ≤ max a.ht b.ht := Nat.le_max_right _ _
    obtain ⟨d, rfl⟩ : ∃ d, e = d + 9 := ⟨e - 9, by omega⟩
    rw [callN_of (fd := ⟨4, 7, b__law_range⟩) rfl rfl]
    have ih1 := c_lrange hX hn a (d + 8) ⟨S.cells, false⟩ ok.1 (by omega) (by omega) hp hq
    have ih2 := c_lrange hX hn b (d + 8) ⟨S.cells, false⟩ ok.2 (by omega) (by omega) hp hq
    cases er : rg n X a with
    | none =>
      rw [er] at ih1
      have e2 : rg n X (Tr.bin o a b) = none := by unfold rg; rw [er]; rfl
      rw [e2]
      refine run_ret ?_ (oiv_pure _)
      cases o <;> simp [b__law_range, Tr.tv, Bo.nm, bd_ok, bd_exc, st_ok, st_exc, xss_cons, xss_nil, seq_next, seq_ret, seq_brk, seq_cont, seq_exc, eqV_int, xst, ev, evT, evs, evo, evc, evi, opR, opV, opt, cmV, cmI, ixV, itemAt, MP.placeOf, biR, bindT, bindTs, unslot, hold, unhold, truV, isTy, isV, es_num_num, es_num_state, es_num_const, es_num_pow, es_num_add, es_num_sub, es_num_mul, es_num_div, es_state_num, es_state_state, es_state_const, es_state_pow, es_state_add, es_state_sub, es_state_mul, es_state_div, es_const_num, es_const_state, es_const_const, es_const_pow, es_const_add, es_const_sub, es_const_mul, es_const_div, es_pow_num, es_pow_state, es_pow_const, es_pow_pow, es_pow_add, es_pow_sub, es_pow_mul, es_pow_div, es_add_num, es_add_state, es_add_const, es_add_pow, es_add_add, es_add_sub, es_add_mul, es_add_div, es_sub_num, es_sub_state, es_sub_const, es_sub_pow, es_sub_add, es_sub_sub, es_sub_mul, es_sub_div, es_mul_num, es_mul_state, es_mul_const, es_mul_pow, es_mul_add, es_mul_sub, es_mul_mul, es_mul_div, es_div_num, es_div_state, es_div_const, es_div_pow, es_div_add, es_div_sub, es_div_mul, es_div_div, ih1, oiv]
    | some r =>
      rw [er] at ih1
      cases er2 : rg n X b with
      | none =>
        rw [er2] at ih2
        have e2 : rg n X (Tr.bin o a b) = none := by unfold rg; rw [er, er2]; rfl
        rw [e2]
        refine run_ret ?_ (oiv_pure _)
        cases o <;> simp [b__law_range, Tr.tv, Bo.nm, bd_ok, bd_exc, st_ok, st_exc, xss_cons, xss_nil, seq_next, seq_ret, seq_brk, seq_cont, seq_exc, eqV_int, xst, ev, evT, evs, evo, evc, evi, opR, opV, opt, cmV, cmI, ixV, itemAt, MP.placeOf, biR, bindT, bindTs, unslot, hold, unhold, truV, isTy, isV, es_num_num, es_num_state, es_num_const, es_num_pow, es_num_add, es_num_sub, es_num_mul, es_num_div, es_state_num, es_state_state, es_state_const, es_state_pow, es_state_add, es_state_sub, es_state_mul, es_state_div, es_const_num, es_const_state, es_const_const, es_const_pow, es_const_add, es_const_sub, es_const_mul, es_const_div, es_pow_num, es_pow_state, es_pow_const, es_pow_pow, es_pow_add, es_pow_sub, es_pow_mul, es_pow_div, es_add_num, es_add_state, es_add_const, es_add_pow, es_add_add, es_add_sub, es_add_mul, es_add_div, es_sub_num, es_sub_state, es_sub_const, es_sub_pow, es_sub_add, es_sub_sub, es_sub_mul, es_sub_div, es_mul_num, es_mul_state, es_mul_const, es_mul_pow, es_mul_add, es_mul_sub, es_mul_mul, es_mul_div, es_div_num, es_div_state, es_div_const, es_div_pow, es_div_add, es_div_sub, es_div_mul, es_div_div, ih1, ih2, oiv]
      | some s =>
        rw [er2] at ih2
        obtain ⟨o1, s1, s2⟩ := rg_ok hX hn a r ok.1 er
        obtain ⟨o2, s3, s4⟩ := rg_ok hX hn b s ok.2 er2
        have b2 : Bd (max a.ht b.ht) ≤ 1998 := Bd_mono2 (by omega)
        have s1 := s1.mono (Nat.le_trans (Bd_mono ha) b2)
        have s2 := s2.mono (Nat.le_trans (Bd_mono ha) b2)
        have s3 := s3.mono (Nat.le_trans (Bd_mono hb) b2)
        have s4 := s4.mono (Nat.le_trans (Bd_mono hb) b2)
        cases o with
        | add =>
          have e2 : rg n X (Tr.bin .add a b) = some (flo (r.1 + s.1) n, cei (r.2 + s.2) n) := by unfold rg; rw [er, er2]; rfl
          rw [e2]
          have op := i_plus (d := d + 5) (S := ⟨S.cells, false⟩) s1 s2 s3 s4 (by decide)
          have w := w_ok (d := d + 4) (S := ⟨S.cells, false⟩) (s1.add s3) (s2.add s4) hn (by decide)
          refine run_ret ?_ (oiv_pure _)
          simp [b__law_range, Tr.tv, Bo.nm, bd_ok, bd_exc, st_ok, st_exc, xss_cons, xss_nil, seq_next, seq_ret, seq_brk, seq_cont, seq_exc, eqV_int, xst, ev, evT, evs, evo, evc, evi, opR, opV, opt, cmV, cmI, ixV, itemAt, MP.placeOf, biR, bindT, bindTs, unslot, hold, unhold, truV, isTy, isV, es_num_num, es_num_state, es_num_const, es_num_pow, es_num_add, es_num_sub, es_num_mul, es_num_div, es_state_num, es_state_state, es_state_const, es_state_pow, es_state_add, es_state_sub, es_state_mul, es_state_div, es_const_num, es_const_state, es_const_const, es_const_pow, es_const_add, es_const_sub, es_const_mul, es_const_div, es_pow_num, es_pow_state, es_pow_const, es_pow_pow, es_pow_add, es_pow_sub, es_pow_mul, es_pow_div, es_add_num, es_add_state, es_add_const, es_add_pow, es_add_add, es_add_sub, es_add_mul, es_add_div, es_sub_num, es_sub_state, es_sub_const, es_sub_pow, es_sub_add, es_sub_sub, es_sub_mul, es_sub_div, es_mul_num, es_mul_state, es_mul_const, es_mul_pow, es_mul_add, es_mul_sub, es_mul_mul, es_mul_div, es_div_num, es_div_state, es_div_const, es_div_pow, es_div_add, es_div_sub, es_div_mul, es_div_div, ih1, ih2, oiv, op, w]
        | sub =>
          have e2 : rg n X (Tr.bin .sub a b) = some (flo (r.1 - s.2) n, cei (r.2 - s.1) n) := by unfold rg; rw [er, er2]; rfl
          rw [e2]
          have op := i_minus (d := d + 4) (S := ⟨S.cells, false⟩) s1 s2 s3 s4 (by decide)
          have w := w_ok (d := d + 4) (S := ⟨S.cells, false⟩) (s1.sub s4) (s2.sub s3) hn (by decide)
          refine run_ret ?_ (oiv_pure _)
          simp [b__law_range, Tr.tv, Bo.nm, bd_ok, bd_exc, st_ok, st_exc, xss_cons, xss_nil, seq_next, seq_ret, seq_brk, seq_cont, seq_exc, eqV_int, xst, ev, evT, evs, evo, evc, evi, opR, opV, opt, cmV, cmI, ixV, itemAt, MP.placeOf, biR, bindT, bindTs, unslot, hold, unhold, truV, isTy, isV, es_num_num, es_num_state, es_num_const, es_num_pow, es_num_add, es_num_sub, es_num_mul, es_num_div, es_state_num, es_state_state, es_state_const, es_state_pow, es_state_add, es_state_sub, es_state_mul, es_state_div, es_const_num, es_const_state, es_const_const, es_const_pow, es_const_add, es_const_sub, es_const_mul, es_const_div, es_pow_num, es_pow_state, es_pow_const, es_pow_pow, es_pow_add, es_pow_sub, es_pow_mul, es_pow_div, es_add_num, es_add_state, es_add_const, es_add_pow, es_add_add, es_add_sub, es_add_mul, es_add_div, es_sub_num, es_sub_state, es_sub_const, es_sub_pow, es_sub_add, es_sub_sub, es_sub_mul, es_sub_div, es_mul_num, es_mul_state, es_mul_const, es_mul_pow, es_mul_add, es_mul_sub, es_mul_mul, es_mul_div, es_div_num, es_div_state, es_div_const, es_div_pow, es_div_add, es_div_sub, es_div_mul, es_div_div, ih1, ih2, oiv, op, w]
        | mul =>
          have e2 : rg n X (Tr.bin .mul a b) = some (flo (tlo r.1 r.2 s.1 s.2) n, cei (thi r.1 r.2 s.1 s.2) n) := by unfold rg; rw [er, er2]; rfl
          rw [e2]
          have op : callN F (d + 8) n_times [iv r.1 r.2, iv s.1 s.2] ⟨S.cells, false⟩ = .ok (iv (tlo r.1 r.2 s.1 s.2) (thi r.1 r.2 s.1 s.2)) ⟨S.cells, false⟩ := i_times (d := d + 4) (S := ⟨S.cells, false⟩) s1 s2 s3 s4 o1 (by decide)
          have w := w_ok (d := d + 4) (S := ⟨S.cells, false⟩) (szq.tlo s1 s2 s3 s4) (szq.thi s1 s2 s3 s4) hn (by decide)
          refine run_ret ?_ (oiv_pure _)
          simp [b__law_range, Tr.tv, Bo.nm, bd_ok, bd_exc, st_ok, st_exc, xss_cons, xss_nil, seq_next, seq_ret, seq_brk, seq_cont, seq_exc, eqV_int, xst, ev, evT, evs, evo, evc, evi, opR, opV, opt, cmV, cmI, ixV, itemAt, MP.placeOf, biR, bindT, bindTs, unslot, hold, unhold, truV, isTy, isV, es_num_num, es_num_state, es_num_const, es_num_pow, es_num_add, es_num_sub, es_num_mul, es_num_div, es_state_num, es_state_state, es_state_const, es_state_pow, es_state_add, es_state_sub, es_state_mul, es_state_div, es_const_num, es_const_state, es_const_const, es_const_pow, es_const_add, es_const_sub, es_const_mul, es_const_div, es_pow_num, es_pow_state, es_pow_const, es_pow_pow, es_pow_add, es_pow_sub, es_pow_mul, es_pow_div, es_add_num, es_add_state, es_add_const, es_add_pow, es_add_add, es_add_sub, es_add_mul, es_add_div, es_sub_num, es_sub_state, es_sub_const, es_sub_pow, es_sub_add, es_sub_sub, es_sub_mul, es_sub_div, es_mul_num, es_mul_state, es_mul_const, es_mul_pow, es_mul_add, es_mul_sub, es_mul_mul, es_mul_div, es_div_num, es_div_state, es_div_const, es_div_pow, es_div_add, es_div_sub, es_div_mul, es_div_div, ih1, ih2, oiv, op, w]
        | div =>
          by_cases hz : s.1 ≤ 0 ∧ 0 ≤ s.2
          · have e2 : rg n X (Tr.bin .div a b) = none := by unfold rg; rw [er, er2]; exact if_pos hz
            rw [e2]
            have op1 := r_compare (d := d + 7) (S := ⟨S.cells, false⟩) s3 (sz_zero.mono (by decide)) (by decide)
            have op2 := r_compare (d := d + 7) (S := ⟨S.cells, false⟩) (sz_zero.mono (by decide)) s4 (by decide)
            have op3 := cq_le.mpr hz.1
            have op4 := cq_le.mpr hz.2
            refine run_ret ?_ (oiv_pure _)
            simp [b__law_range, Tr.tv, Bo.nm, bd_ok, bd_exc, st_ok, st_exc, xss_cons, xss_nil, seq_next, seq_ret, seq_brk, seq_cont, seq_exc, eqV_int, xst, ev, evT, evs, evo, evc, evi, opR, opV, opt, cmV, cmI, ixV, itemAt, MP.placeOf, biR, bindT, bindTs, unslot, hold, unhold, truV, isTy, isV, es_num_num, es_num_state, es_num_const, es_num_pow, es_num_add, es_num_sub, es_num_mul, es_num_div, es_state_num, es_state_state, es_state_const, es_state_pow, es_state_add, es_state_sub, es_state_mul, es_state_div, es_const_num, es_const_state, es_const_const, es_const_pow, es_const_add, es_const_sub, es_const_mul, es_const_div, es_pow_num, es_pow_state, es_pow_const, es_pow_pow, es_pow_add, es_pow_sub, es_pow_mul, es_pow_div, es_add_num, es_add_state, es_add_const, es_add_pow, es_add_add, es_add_sub, es_add_mul, es_add_div, es_sub_num, es_sub_state, es_sub_const, es_sub_pow, es_sub_add, es_sub_sub, es_sub_mul, es_sub_div, es_mul_num, es_mul_state, es_mul_const, es_mul_pow, es_mul_add, es_mul_sub, es_mul_mul, es_mul_div, es_div_num, es_div_state, es_div_const, es_div_pow, es_div_add, es_div_sub, es_div_mul, es_div_div, fr_zero, ih1, ih2, oiv, op1, op2, op3, op4]
          · have e2 : rg n X (Tr.bin .div a b) = some (flo (dlo r.1 r.2 s.1 s.2) n, cei (dhi r.1 r.2 s.1 s.2) n) := by unfold rg; rw [er, er2]; exact if_neg hz
            rw [e2]
            have op : callN F (d + 8) n_over [iv r.1 r.2, iv s.1 s.2] ⟨S.cells, false⟩ = .ok (iv (dlo r.1 r.2 s.1 s.2) (dhi r.1 r.2 s.1 s.2)) ⟨S.cells, false⟩ := by
              have z := i_over (d := d + 3) (S := ⟨S.cells, false⟩) s1 s2 s3 s4 o1 o2 (by decide) (by decide) hz
              unfold dlo dhi tlo thi
              simp only [div_one]
              exact z
            have c0 : s.1 ≠ 0 := fun z => hz ⟨by grind, by grind⟩
            have e0 : s.2 ≠ 0 := fun z => hz ⟨by grind, by grind⟩
            have d1 := sz_one.div s4 e0
            have d2 := sz_one.div s3 c0
            have t1 := szq.tlo (s1.mono (show 1998 ≤ 1 + 1998 by omega)) (s2.mono (show 1998 ≤ 1 + 1998 by omega)) d1 d2
            have t2 := szq.thi (s1.mono (show 1998 ≤ 1 + 1998 by omega)) (s2.mono (show 1998 ≤ 1 + 1998 by omega)) d1 d2
            have w : callN F (d + 8) n_widen [iv (dlo r.1 r.2 s.1 s.2) (dhi r.1 r.2 s.1 s.2), .int n] ⟨S.cells, false⟩ = _ := w_ok (d := d + 4) (S := ⟨S.cells, false⟩) t1 t2 hn (by decide)
            have op1 := r_compare (d := d + 7) (S := ⟨S.cells, false⟩) s3 (sz_zero.mono (by decide)) (by decide)
            have op2 := r_compare (d := d + 7) (S := ⟨S.cells, false⟩) (sz_zero.mono (by decide)) s4 (by decide)
            refine run_ret ?_ (oiv_pure _)
            by_cases q1 : s.1 ≤ 0
            · have q2 : ¬ cq 0 s.2 ≤ 0 := fun z => hz ⟨q1, cq_le.mp z⟩
              simp [b__law_range, Tr.tv, Bo.nm, bd_ok, bd_exc, st_ok, st_exc, xss_cons, xss_nil, seq_next, seq_ret, seq_brk, seq_cont, seq_exc, eqV_int, xst, ev, evT, evs, evo, evc, evi, opR, opV, opt, cmV, cmI, ixV, itemAt, MP.placeOf, biR, bindT, bindTs, unslot, hold, unhold, truV, isTy, isV, es_num_num, es_num_state, es_num_const, es_num_pow, es_num_add, es_num_sub, es_num_mul, es_num_div, es_state_num, es_state_state, es_state_const, es_state_pow, es_state_add, es_state_sub, es_state_mul, es_state_div, es_const_num, es_const_state, es_const_const, es_const_pow, es_const_add, es_const_sub, es_const_mul, es_const_div, es_pow_num, es_pow_state, es_pow_const, es_pow_pow, es_pow_add, es_pow_sub, es_pow_mul, es_pow_div, es_add_num, es_add_state, es_add_const, es_add_pow, es_add_add, es_add_sub, es_add_mul, es_add_div, es_sub_num, es_sub_state, es_sub_const, es_sub_pow, es_sub_add, es_sub_sub, es_sub_mul, es_sub_div, es_mul_num, es_mul_state, es_mul_const, es_mul_pow, es_mul_add, es_mul_sub, es_mul_mul, es_mul_div, es_div_num, es_div_state, es_div_const, es_div_pow, es_div_add, es_div_sub, es_div_mul, es_div_div, fr_zero, ih1, ih2, oiv, op1, op2, cq_le.mpr q1, q2, op, w]
            · have q2 : ¬ cq s.1 0 ≤ 0 := fun z => q1 (cq_le.mp z)
              simp [b__law_range, Tr.tv, Bo.nm, bd_ok, bd_exc, st_ok, st_exc, xss_cons, xss_nil, seq_next, seq_ret, seq_brk, seq_cont, seq_exc, eqV_int, xst, ev, evT, evs, evo, evc, evi, opR, opV, opt, cmV, cmI, ixV, itemAt, MP.placeOf, biR, bindT, bindTs, unslot, hold, unhold, truV, isTy, isV, es_num_num, es_num_state, es_num_const, es_num_pow, es_num_add, es_num_sub, es_num_mul, es_num_div, es_state_num, es_state_state, es_state_const, es_state_pow, es_state_add, es_state_sub, es_state_mul, es_state_div, es_const_num, es_const_state, es_const_const, es_const_pow, es_const_add, es_const_sub, es_const_mul, es_const_div, es_pow_num, es_pow_state, es_pow_const, es_pow_pow, es_pow_add, es_pow_sub, es_pow_mul, es_pow_div, es_add_num, es_add_state, es_add_const, es_add_pow, es_add_add, es_add_sub, es_add_mul, es_add_div, es_sub_num, es_sub_state, es_sub_const, es_sub_pow, es_sub_add, es_sub_sub, es_sub_mul, es_sub_div, es_mul_num, es_mul_state, es_mul_const, es_mul_pow, es_mul_add, es_mul_sub, es_mul_mul, es_mul_div, es_div_num, es_div_state, es_div_const, es_div_pow, es_div_add, es_div_sub, es_div_mul, es_div_div, fr_zero, ih1, ih2, oiv, op1, op2, q2, op, w]
theorem c_told (hX : Xok X) (hn : n < 50) {t : Tr} {e : Nat} {S : Sto} (ok : t.okT) (h3 : t.ht ≤ 3) (he : t.ht + 9 ≤ e) (hp : S.lst? p = some [iv (X 0).1 (X 0).2, iv (X 1).1 (X 1).2]) (hq : S.lst? q = some [iv (X 2).1 (X 2).2, iv (X 3).1 (X 3).2]) :
    callN F e n__law_told [t.tv, .ref p, .ref q, .int n] S = .ok (oiv (rg n X t)) S := by
  obtain ⟨d, rfl⟩ : ∃ d, e = d + 9 := ⟨e - 9, by omega⟩
  rw [callN_of (fd := ⟨4, 5, b__law_told⟩) rfl rfl]
  have r := c_range (p := p) (q := q) hX hn t (d + 8) ⟨S.cells, false⟩ ok h3 (by omega) hp hq
  cases er : rg n X t with
  | none =>
    rw [er] at r
    refine run_ret ?_ (oiv_pure _)
    simp [b__law_told, bd_ok, bd_exc, st_ok, st_exc, xss_cons, xss_nil, seq_next, seq_ret, seq_brk, seq_cont, seq_exc, eqV_int, xst, ev, evT, evs, evo, evc, evi, opR, opV, opt, cmV, cmI, ixV, itemAt, MP.placeOf, biR, bindT, bindTs, unslot, hold, unhold, truV, isTy, isV, r, told, oiv, caught, holdOk]
  | some x =>
    rw [er] at r
    refine run_ret ?_ (oiv_pure _)
    simp [b__law_told, bd_ok, bd_exc, st_ok, st_exc, xss_cons, xss_nil, seq_next, seq_ret, seq_brk, seq_cont, seq_exc, eqV_int, xst, ev, evT, evs, evo, evc, evi, opR, opV, opt, cmV, cmI, ixV, itemAt, MP.placeOf, biR, bindT, bindTs, unslot, hold, unhold, truV, isTy, isV, r, told, oiv, caught, holdOk]
end
end K16
end
section
set_option Elab.async false
set_option linter.all false
set_option maxRecDepth 100000
set_option maxHeartbeats 1000000
namespace K16
open PySem MP
/-- over a part of the box: a part of the range -/
theorem rg_sub {n : Nat} {X X' : Nat → Rat × Rat} (hn : n < 50) (hX' : Xok X') (hs : ∀ i, i < 4 → (X i).1 ≤ (X' i).1 ∧ (X' i).2 ≤ (X i).2) : ∀ (t : Tr) (R : Rat × Rat), t.okT → rg n X t = some R → ∃ R', rg n X' t = some R' ∧ R.1 ≤ R'.1 ∧ R'.2 ≤ R.2
  | .num q, R, ok, h => by
    cases h
    exact ⟨_, rfl, by grind, by grind⟩
  | .st i, R, ok, h => by
    cases h
    have ok : i < 2 := ok
    exact ⟨_, rfl, flo_mono (hs i (by omega)).1 n, cei_mono (hs i (by omega)).2 n⟩
  | .cn i, R, ok, h => by
    cases h
    have ok : i < 2 := ok
    exact ⟨_, rfl, flo_mono (hs (2 + i) (by omega)).1 n, cei_mono (hs (2 + i) (by omega)).2 n⟩
  | .pw t m, R, ok, h => by
    unfold rg at h
    cases e : rg n X t with
    | none => rw [e] at h; cases h
    | some q =>
      rw [e] at h
      cases h
      obtain ⟨q', e', l, u⟩ := rg_sub hn hX' hs t q ok.1 e
      obtain ⟨o, _, _⟩ := rg_ok hX' hn t q' ok.1 e'
      obtain ⟨z1, z2⟩ := pow_sub m l o u
      refine ⟨(flo (rlo q'.1 q'.2 m) n, cei (rhi q'.1 q'.2 m) n), ?_, flo_mono z1 n, cei_mono z2 n⟩
      unfold rg
      rw [e']
      rfl
  | .bin o a b, R, ok, h => by
    unfold rg at h
    cases e : rg n X a with
    | none => rw [e] at h; cases h
    | some q =>
      cases e2 : rg n X b with
      | none => rw [e, e2] at h; cases h
      | some r =>
        rw [e, e2] at h
        obtain ⟨q', e', l, u⟩ := rg_sub hn hX' hs a q ok.1 e
        obtain ⟨r', e2', l2, u2⟩ := rg_sub hn hX' hs b r ok.2 e2
        obtain ⟨o1, _, _⟩ := rg_ok hX' hn a q' ok.1 e'
        obtain ⟨o2, _, _⟩ := rg_ok hX' hn b r' ok.2 e2'
        cases o with
        | add => cases h; exact ⟨(flo (q'.1 + r'.1) n, cei (q'.2 + r'.2) n), by unfold rg; rw [e', e2']; rfl, flo_mono (by grind) n, cei_mono (by grind) n⟩
        | sub => cases h; exact ⟨(flo (q'.1 - r'.2) n, cei (q'.2 - r'.1) n), by unfold rg; rw [e', e2']; rfl, flo_mono (by grind) n, cei_mono (by grind) n⟩
        | mul =>
          cases h
          obtain ⟨z1, z2⟩ := mul_sub l o1 u l2 o2 u2
          exact ⟨(flo (tlo q'.1 q'.2 r'.1 r'.2) n, cei (thi q'.1 q'.2 r'.1 r'.2) n), by unfold rg; rw [e', e2']; rfl, flo_mono z1 n, cei_mono z2 n⟩
        | div =>
          have h : (if r.1 ≤ 0 ∧ 0 ≤ r.2 then none else some (flo (dlo q.1 q.2 r.1 r.2) n, cei (dhi q.1 q.2 r.1 r.2) n)) = some R := h
          split at h
          · cases h
          · rename_i hz
            cases h
            obtain ⟨z1, z2⟩ := div_sub l o1 u l2 o2 u2 hz
            have hz' : ¬ (r'.1 ≤ 0 ∧ 0 ≤ r'.2) := fun z => hz ⟨by grind, by grind⟩
            exact ⟨(flo (dlo q'.1 q'.2 r'.1 r'.2) n, cei (dhi q'.1 q'.2 r'.1 r'.2) n), by unfold rg; rw [e', e2']; exact if_neg hz', flo_mono z1 n, cei_mono z2 n⟩
/-- the law's own value -/
def vl (Y : Nat → Rat) : Tr → Option (Int × Int)
  | .num q => some (q.num, q.den)
  | .st i => some ((Y i).num, (Y i).den)
  | .cn i => some ((Y (2 + i)).num, (Y (2 + i)).den)
  | .pw t m => (vl Y t).map fun p => (p.1 ^ m, p.2 ^ m)
  | .bin o a b => (vl Y a).bind fun p => (vl Y b).bind fun r => match o with
    | .add => some (p.1 * r.2 + 1 * r.1 * p.2, p.2 * r.2)
    | .sub => some (p.1 * r.2 + -1 * r.1 * p.2, p.2 * r.2)
    | .mul => some (p.1 * r.1, p.2 * r.2)
    | .div => if r.1 = 0 then none else some (p.1 * r.2, p.2 * r.1)
def Vd : Nat → Nat
  | 0 => 200
  | h + 1 => 4 * Vd h + 4
theorem Vd_mono {h k : Nat} (l : h ≤ k) : Vd h ≤ Vd k := by
  induction l with
  | refl => exact Nat.le_refl _
  | step _ ih => rw [Vd]; omega
theorem Vd3 : Vd 3 = 12884 := by decide
theorem divInt_num {t b : Int} (hb : b ≠ 0) : Rat.divInt t b = (t : Rat) / (b : Rat) := Rat.divInt_eq_div t b
theorem cast_ne {b : Int} (h : b ≠ 0) : (b : Rat) ≠ 0 := by exact_mod_cast h
theorem dI_mul {a b c e : Int} : Rat.divInt (a * c) (b * e) = Rat.divInt a b * Rat.divInt c e := (Rat.divInt_mul_divInt a c).symm
theorem dI_pow {a b : Int} (hb : b ≠ 0) : ∀ m : Nat, Rat.divInt (a ^ m) (b ^ m) = (Rat.divInt a b) ^ m
  | 0 => by rw [Int.pow_zero, Int.pow_zero, Rat.pow_zero]; decide +kernel
  | m + 1 => by rw [Int.pow_succ, Int.pow_succ, Rat.pow_succ, dI_mul, dI_pow hb m]
theorem dI_add {a b c e : Int} (hb : b ≠ 0) (he : e ≠ 0) : Rat.divInt (a * e + 1 * c * b) (b * e) = Rat.divInt a b + Rat.divInt c e := by
  rw [Rat.divInt_add_divInt _ _ hb he, Int.one_mul]
theorem dI_sub {a b c e : Int} (hb : b ≠ 0) (he : e ≠ 0) : Rat.divInt (a * e + -1 * c * b) (b * e) = Rat.divInt a b - Rat.divInt c e := by
  rw [Rat.sub_eq_add_neg, Rat.neg_divInt, Rat.divInt_add_divInt _ _ hb he]
  congr 2
  rw [Int.neg_mul, Int.one_mul]
theorem dI_div {a b c e : Int} (hb : b ≠ 0) (hc : c ≠ 0) (he : e ≠ 0) : Rat.divInt (a * e) (b * c) = Rat.divInt a b / Rat.divInt c e := by
  rw [dI_mul, Rat.div_def]
  congr 1
  rw [Rat.divInt_eq_div, Rat.divInt_eq_div]
  have h1 := cast_ne hc
  have h2 := cast_ne he
  grind
theorem sz_one' : sz 1 1 := by unfold sz; decide
theorem vl_in {n : Nat} {X : Nat → Rat × Rat} {Y : Nat → Rat} (hX : Xok X) (hn : n < 50) (hY : ∀ i, i < 4 → (X i).1 ≤ Y i ∧ Y i ≤ (X i).2 ∧ szq 200 (Y i)) : ∀ (t : Tr) (R : Rat × Rat), t.okT → rg n X t = some R →
    ∃ p, vl Y t = some p ∧ p.2 ≠ 0 ∧ R.1 ≤ Rat.divInt p.1 p.2 ∧ Rat.divInt p.1 p.2 ≤ R.2 ∧ sz (Vd t.ht) p.1 ∧ sz (Vd t.ht) p.2
  | .num q, R, ok, h => by
    cases h
    have ok : szq 8 q := ok
    refine ⟨_, rfl, den_ne q, ?_, ?_, ok.1.mono (by show 8 ≤ 200; omega), ok.2.mono (by show 8 ≤ 200; omega)⟩
    · rw [Rat.num_divInt_den]; exact flo_le q n
    · rw [Rat.num_divInt_den]; exact le_cei q n
  | .st i, R, ok, h => by
    cases h
    have ok : i < 2 := ok
    obtain ⟨l, u, s⟩ := hY i (by omega)
    refine ⟨_, rfl, den_ne _, ?_, ?_, s.1, s.2⟩
    · rw [Rat.num_divInt_den]; have := flo_le (X i).1 n; grind
    · rw [Rat.num_divInt_den]; have := le_cei (X i).2 n; grind
  | .cn i, R, ok, h => by
    cases h
    have ok : i < 2 := ok
    obtain ⟨l, u, s⟩ := hY (2 + i) (by omega)
    refine ⟨_, rfl, den_ne _, ?_, ?_, s.1, s.2⟩
    · rw [Rat.num_divInt_den]; have := flo_le (X (2 + i)).1 n; grind
    · rw [Rat.num_divInt_den]; have := le_cei (X (2 + i)).2 n; grind
  | .pw t m, R, ok, h => by
    unfold rg at h
    cases e : rg n X t with
    | none => rw [e] at h; cases h
    | some q =>
      rw [e] at h
      cases h
      obtain ⟨p, e', nz, l, u, s1, s2⟩ := vl_in hX hn hY t q ok.1 e
      obtain ⟨z1, z2⟩ := pow_in m l u
      have hm : m < 5 := ok.2
      have lm : 1 + Vd t.ht * m ≤ Vd (Tr.pw t m).ht := by
        show _ ≤ 4 * Vd t.ht + 4
        have := Nat.mul_le_mul_left (Vd t.ht) (show m ≤ 4 by omega)
        omega
      have pn : p.2 ^ m ≠ 0 := Int.pow_ne_zero nz
      refine ⟨(p.1 ^ m, p.2 ^ m), by unfold vl; rw [e']; rfl, pn, ?_, ?_, (s1.pow m).mono lm, (s2.pow m).mono lm⟩
      · show _ ≤ Rat.divInt (p.1 ^ m) (p.2 ^ m)
        rw [dI_pow nz]
        have := flo_le (rlo q.1 q.2 m) n
        grind
      · show Rat.divInt (p.1 ^ m) (p.2 ^ m) ≤ _
        rw [dI_pow nz]
        have := le_cei (rhi q.1 q.2 m) n
        grind
  | .bin o a b, R, ok, h => by
    unfold rg at h
    cases e : rg n X a with
    | none => rw [e] at h; cases h
    | some q =>
      cases e2 : rg n X b with
      | none => rw [e, e2] at h; cases h
      | some r =>
        rw [e, e2] at h
        obtain ⟨p, e', nz, l, u, s1, s2⟩ := vl_in hX hn hY a q ok.1 e
        obtain ⟨w, e2', nz2, l2, u2, s3, s4⟩ := vl_in hX hn hY b r ok.2 e2
        have m1 : Vd a.ht ≤ Vd (max a.ht b.ht) := Vd_mono (Nat.le_max_left _ _)
        have m2 : Vd b.ht ≤ Vd (max a.ht b.ht) := Vd_mono (Nat.le_max_right _ _)
        have s1 := s1.mono m1
        have s2 := s2.mono m1
        have s3 := s3.mono m2
        have s4 := s4.mono m2
        have top : Vd (Tr.bin o a b).ht = 4 * Vd (max a.ht b.ht) + 4 := rfl
        rw [top]
        generalize Vd (max a.ht b.ht) = k at *
        have bn : p.2 * w.2 ≠ 0 := Int.mul_ne_zero nz nz2
        cases o with
        | add =>
          cases h
          refine ⟨(p.1 * w.2 + 1 * w.1 * p.2, p.2 * w.2), by unfold vl; rw [e', e2']; rfl, bn, ?_, ?_, (((s1.mul s4).mono (show k + k ≤ 1 + k + k by omega)).add ((sz_one'.mul s3).mul s2)).mono (by omega), (s2.mul s4).mono (by omega)⟩
          · show _ ≤ Rat.divInt (p.1 * w.2 + 1 * w.1 * p.2) (p.2 * w.2)
            rw [dI_add nz nz2]
            have := flo_le (q.1 + r.1) n
            grind
          · show Rat.divInt (p.1 * w.2 + 1 * w.1 * p.2) (p.2 * w.2) ≤ _
            rw [dI_add nz nz2]
            have := le_cei (q.2 + r.2) n
            grind
        | sub =>
          cases h
          refine ⟨(p.1 * w.2 + -1 * w.1 * p.2, p.2 * w.2), by unfold vl; rw [e', e2']; rfl, bn, ?_, ?_, ?_, (s2.mul s4).mono (by omega)⟩
          · show _ ≤ Rat.divInt (p.1 * w.2 + -1 * w.1 * p.2) (p.2 * w.2)
            rw [dI_sub nz nz2]
            have := flo_le (q.1 - r.2) n
            grind
          · show Rat.divInt (p.1 * w.2 + -1 * w.1 * p.2) (p.2 * w.2) ≤ _
            rw [dI_sub nz nz2]
            have := le_cei (q.2 - r.1) n
            grind
          · exact (((s1.mul s4).mono (show k + k ≤ 1 + k + k by omega)).add ((sz_one'.neg.mul s3).mul s2)).mono (by omega)
        | mul =>
          cases h
          obtain ⟨z1, z2⟩ := mul_in l u l2 u2
          refine ⟨(p.1 * w.1, p.2 * w.2), by unfold vl; rw [e', e2']; rfl, bn, ?_, ?_, (s1.mul s3).mono (by omega), (s2.mul s4).mono (by omega)⟩
          · show _ ≤ Rat.divInt (p.1 * w.1) (p.2 * w.2)
            rw [dI_mul]
            have := flo_le (tlo q.1 q.2 r.1 r.2) n
            grind
          · show Rat.divInt (p.1 * w.1) (p.2 * w.2) ≤ _
            rw [dI_mul]
            have := le_cei (thi q.1 q.2 r.1 r.2) n
            grind
        | div =>
          have h : (if r.1 ≤ 0 ∧ 0 ≤ r.2 then none else some (flo (dlo q.1 q.2 r.1 r.2) n, cei (dhi q.1 q.2 r.1 r.2) n)) = some R := h
          split at h
          · cases h
          · rename_i hz
            cases h
            obtain ⟨z1, z2⟩ := div_in l u l2 u2 hz
            have w0 : w.1 ≠ 0 := fun z => by
              rw [z, Rat.zero_divInt] at l2 u2
              exact hz ⟨l2, u2⟩
            refine ⟨(p.1 * w.2, p.2 * w.1), by unfold vl; rw [e', e2']; exact if_neg w0, Int.mul_ne_zero nz w0, ?_, ?_, (s1.mul s4).mono (by omega), (s2.mul s3).mono (by omega)⟩
            · show _ ≤ Rat.divInt (p.1 * w.2) (p.2 * w.1)
              rw [dI_div nz w0 nz2]
              have := flo_le (dlo q.1 q.2 r.1 r.2) n
              grind
            · show Rat.divInt (p.1 * w.2) (p.2 * w.1) ≤ _
              rw [dI_div nz w0 nz2]
              have := le_cei (dhi q.1 q.2 r.1 r.2) n
              grind
/-- a bound by cross products -/
theorem le_cross {a : Rat} {t b : Int} (hb : 0 < b) (h : a ≤ Rat.divInt t b) : a.num * b ≤ t * a.den := by
  have e : (Rat.divInt t b).num * b = t * (Rat.divInt t b).den := (Rat.divInt_eq_divInt_iff (den_ne _) (by omega)).mp (Rat.num_divInt_den _)
  have z := (Rat.le_iff _ _).mp h
  have dq := den_gt (Rat.divInt t b)
  refine Int.le_of_mul_le_mul_right (?_ : a.num * b * ((Rat.divInt t b).den : Int) ≤ t * a.den * ((Rat.divInt t b).den : Int)) dq
  have y := Int.mul_le_mul_of_nonneg_right z (show 0 ≤ b by omega)
  calc a.num * b * ((Rat.divInt t b).den : Int) = a.num * ((Rat.divInt t b).den : Int) * b := by ac_rfl
    _ ≤ (Rat.divInt t b).num * a.den * b := y
    _ = (Rat.divInt t b).num * b * a.den := by ac_rfl
    _ = t * (Rat.divInt t b).den * a.den := by rw [e]
    _ = t * a.den * (Rat.divInt t b).den := by ac_rfl
theorem ge_cross {a : Rat} {t b : Int} (hb : 0 < b) (h : Rat.divInt t b ≤ a) : t * a.den ≤ a.num * b := by
  have e : (Rat.divInt t b).num * b = t * (Rat.divInt t b).den := (Rat.divInt_eq_divInt_iff (den_ne _) (by omega)).mp (Rat.num_divInt_den _)
  have z := (Rat.le_iff _ _).mp h
  have dq := den_gt (Rat.divInt t b)
  refine Int.le_of_mul_le_mul_right (?_ : t * a.den * ((Rat.divInt t b).den : Int) ≤ a.num * b * ((Rat.divInt t b).den : Int)) dq
  have y := Int.mul_le_mul_of_nonneg_right z (show 0 ≤ b by omega)
  calc t * a.den * ((Rat.divInt t b).den : Int) = t * ((Rat.divInt t b).den : Int) * a.den := by ac_rfl
    _ = (Rat.divInt t b).num * b * a.den := by rw [e]
    _ = (Rat.divInt t b).num * a.den * b := by ac_rfl
    _ ≤ a.num * ((Rat.divInt t b).den : Int) * b := y
    _ = a.num * b * ((Rat.divInt t b).den : Int) := by ac_rfl
end K16
end
section
set_option Elab.async false
set_option linter.all false
set_option maxRecDepth 100000
set_option maxHeartbeats 1000000
namespace K16
open PySem MP
theorem run_G {C : Nat → List PV → Sto → MP.R PV} {fd : FDef} {args : List PV} {ns : List Int} {a i c a' i' c' : Int} {tl more : List Cell} {v : PV} (h : xss C (3 + tl.length) fd.body (args.map some ++ List.replicate (fd.nn - fd.np) none) (G ns a i c tl) = .ret v (G ns a' i' c' (tl ++ more))) (p : v.pure = true) : runF C fd args (G ns a i c tl) = .ok v (G ns a' i' c' tl) := by
  have hl : (G ns a i c tl).cells.length = 3 + tl.length := by unfold G; simp; omega
  have z := run_retT (C := C) (fd := fd) (args := args) (S := G ns a i c tl) (v := v) (cs := (G ns a' i' c' (tl ++ more)).cells) (by rw [hl]; exact h) p
  rw [z, hl]
  have e : (G ns a' i' c' (tl ++ more)).cells.take (3 + tl.length) = (G ns a' i' c' tl).cells := by
    unfold G
    have q : 3 + tl.length = tl.length + 1 + 1 + 1 := by omega
    simp [q]
  rw [e]
  rfl
section
variable {d k n : Nat} {a b c e : Rat} {S : Sto} {ns : List Int} {u i w : Int} {tl : List Cell}
theorem l_pair (hu : 0 ≤ u) (hi : 0 ≤ i) : ∃ q u' i' w', callN F (d + 4) n__law_pair [.ref 2] (G ns u i w tl) = .ok (fr q) (G ns u' i' w' tl) ∧ szq 5 q ∧ 0 ≤ u' ∧ 0 ≤ i' := by
  rw [callN_of (fd := ⟨1, 2, b__law_pair⟩) rfl rfl]
  obtain ⟨r1, u1, i1, w1, e1, p1, p2, p3, p4⟩ := c_draw (d := d) (ns := ns) (c := w) (m := 5) (tl := tl) hu hi (by decide) (by unfold sz; decide)
  obtain ⟨r2, u2, i2, w2, e2, p5, p6, p7, p8⟩ := c_draw (d := d) (ns := ns) (c := w1) (m := 8 * (1 + r1) + 1) (tl := tl) p3 p4 (by omega) (by unfold sz; omega)
  have z1 : sz 5 (r2 - 4 * (1 + r1)) := by unfold sz; omega
  have z2 : sz 5 (1 + r1) := by unfold sz; omega
  have m1 : mulOk 8 (1 + r1) = true := mulOk_l (by unfold sz; decide)
  have m2 : mulOk 4 (1 + r1) = true := mulOk_l (by unfold sz; decide)
  have mk := r_make (d := d + 2) (S := G ns u2 i2 w2 tl) (t := r2 - 4 * (1 + r1)) (b := 1 + r1) (by omega) z1 z2 (by decide)
  refine ⟨_, u2, i2, w2, run_G (more := []) ?_ (fr_pure _), szq_divInt (by omega) z1 z2, p7, p8⟩
  rw [List.append_nil]
  unfold b__law_pair
  refine (xss_step (σ' := [some (.ref 2), some (.int (1 + r1))]) (S' := G ns u1 i1 w1 tl) (by simp [bd_ok, bd_exc, st_ok, st_exc, xss_cons, xss_nil, seq_next, seq_ret, seq_brk, seq_cont, seq_exc, eqV_int, xst, ev, evT, evs, evo, evc, evi, opR, opV, opt, cmV, cmI, ixV, itemAt, MP.placeOf, biR, bindT, bindTs, unslot, hold, unhold, truV, isTy, isV, e1])).trans ?_
  simp [bd_ok, bd_exc, st_ok, st_exc, xss_cons, xss_nil, seq_next, seq_ret, seq_brk, seq_cont, seq_exc, eqV_int, xst, ev, evT, evs, evo, evc, evi, opR, opV, opt, cmV, cmI, ixV, itemAt, MP.placeOf, biR, bindT, bindTs, unslot, hold, unhold, truV, isTy, isV, e2, m1, m2, mk]
theorem l_side (hu : 0 ≤ u) (hi : 0 ≤ i) : ∃ x y u' i' w', callN F (d + 5) n__law_side [.ref 2] (G ns u i w tl) = .ok (iv x y) (G ns u' i' w' tl) ∧ x ≤ y ∧ szq 11 x ∧ szq 11 y ∧ 0 ≤ u' ∧ 0 ≤ i' := by
  rw [callN_of (fd := ⟨1, 2, b__law_side⟩) rfl rfl]
  obtain ⟨x, u1, i1, w1, e1, zx, p1, p2⟩ := l_pair (d := d) (ns := ns) (w := w) (tl := tl) hu hi
  obtain ⟨r, u2, i2, w2, e2, p3, p4, p5, p6⟩ := c_draw (d := d + 1) (ns := ns) (c := w1) (m := 3) (tl := tl) p1 p2 (by decide) (by unfold sz; decide)
  by_cases h0 : r = 0
  · refine ⟨x, x, u2, i2, w2, run_G (more := []) ?_ rfl, by grind, zx.mono (by decide), zx.mono (by decide), p5, p6⟩
    rw [List.append_nil]
    unfold b__law_side
    refine (xss_step (σ' := [some (.ref 2), some (fr x)]) (S' := G ns u1 i1 w1 tl) (by simp [bd_ok, bd_exc, st_ok, st_exc, xss_cons, xss_nil, seq_next, seq_ret, seq_brk, seq_cont, seq_exc, eqV_int, xst, ev, evT, evs, evo, evc, evi, opR, opV, opt, cmV, cmI, ixV, itemAt, MP.placeOf, biR, bindT, bindTs, unslot, hold, unhold, truV, isTy, isV, e1])).trans ?_
    simp [bd_ok, bd_exc, st_ok, st_exc, xss_cons, xss_nil, seq_next, seq_ret, seq_brk, seq_cont, seq_exc, eqV_int, xst, ev, evT, evs, evo, evc, evi, opR, opV, opt, cmV, cmI, ixV, itemAt, MP.placeOf, biR, bindT, bindTs, unslot, hold, unhold, truV, isTy, isV, e2, h0]
  · obtain ⟨r2, u3, i3, w3, e3, q3, q4, q5, q6⟩ := c_draw (d := d + 1) (ns := ns) (c := w2) (m := 8) (tl := tl) p5 p6 (by decide) (by unfold sz; decide)
    have z1 : sz 5 (1 + r2) := by unfold sz; omega
    have z2 : sz 5 4 := by unfold sz; decide
    have mk := r_make (d := d + 3) (S := G ns u3 i3 w3 tl) (t := 1 + r2) (b := 4) (by decide) z1 z2 (by decide)
    have zd := szq_divInt (t := 1 + r2) (b := 4) (by decide) z1 z2
    have ad := r_add (d := d + 2) (S := G ns u3 i3 w3 tl) zx zd (by decide)
    have nn : 0 ≤ Rat.divInt (1 + r2) 4 := Rat.divInt_nonneg (by omega) (by decide)
    refine ⟨x, x + Rat.divInt (1 + r2) 4, u3, i3, w3, run_G (more := []) ?_ rfl, by grind, zx.mono (by decide), (zx.add zd).mono (by decide), q5, q6⟩
    rw [List.append_nil]
    unfold b__law_side
    refine (xss_step (σ' := [some (.ref 2), some (fr x)]) (S' := G ns u1 i1 w1 tl) (by simp [bd_ok, bd_exc, st_ok, st_exc, xss_cons, xss_nil, seq_next, seq_ret, seq_brk, seq_cont, seq_exc, eqV_int, xst, ev, evT, evs, evo, evc, evi, opR, opV, opt, cmV, cmI, ixV, itemAt, MP.placeOf, biR, bindT, bindTs, unslot, hold, unhold, truV, isTy, isV, e1])).trans ?_
    simp [bd_ok, bd_exc, st_ok, st_exc, xss_cons, xss_nil, seq_next, seq_ret, seq_brk, seq_cont, seq_exc, eqV_int, xst, ev, evT, evs, evo, evc, evi, opR, opV, opt, cmV, cmI, ixV, itemAt, MP.placeOf, biR, bindT, bindTs, unslot, hold, unhold, truV, isTy, isV, e2, h0, e3, mk, ad]
theorem l_between (ha : szq 11 a) (hb : szq 11 b) (o : a ≤ b) (hu : 0 ≤ u) (hi : 0 ≤ i) : ∃ q u' i' w', callN F (d + 4) n__law_between [.ref 2, iv a b] (G ns u i w tl) = .ok (fr q) (G ns u' i' w' tl) ∧ a ≤ q ∧ q ≤ b ∧ szq 57 q ∧ 0 ≤ u' ∧ 0 ≤ i' := by
  rw [callN_of (fd := ⟨2, 3, b__law_between⟩) rfl rfl]
  obtain ⟨r, u1, i1, w1, e1, p1, p2, p3, p4⟩ := c_draw (d := d) (ns := ns) (c := w) (m := 5) (tl := tl) hu hi (by decide) (by unfold sz; decide)
  have z1 : sz 3 r := by unfold sz; omega
  have z2 : sz 3 4 := by unfold sz; decide
  have mk := r_make (d := d + 2) (S := G ns u1 i1 w1 tl) (t := r) (b := 4) (by decide) z1 z2 (by decide)
  have zd := szq_divInt (t := r) (b := 4) (by decide) z1 z2
  have fm : PV.tup [.int (-1), .int 1] = fr (-1) := rfl
  have zm : szq 1 (-1 : Rat) := sz_one.neg
  have m1 := r_mul (d := d + 1) (S := G ns u1 i1 w1 tl) zm ha (by decide)
  have a1 := r_add (d := d + 1) (S := G ns u1 i1 w1 tl) (hb.mono (show 11 ≤ 12 by decide)) (zm.mul ha) (by decide)
  have s1 := (hb.mono (show 11 ≤ 12 by decide)).add (zm.mul ha)
  have m2 := r_mul (d := d + 1) (S := G ns u1 i1 w1 tl) zd s1 (by decide)
  have s2 := zd.mul s1
  have a2 := r_add (d := d + 1) (S := G ns u1 i1 w1 tl) (ha.mono (show 11 ≤ 3 + (12 + 12 + 1) by decide)) s2 (by decide)
  have s3 := (ha.mono (show 11 ≤ 3 + (12 + 12 + 1) by decide)).add s2
  have n0 : 0 ≤ Rat.divInt r 4 := Rat.divInt_nonneg p1 (by decide)
  have n1 : Rat.divInt r 4 ≤ 1 := by
    have z : 0 ≤ Rat.divInt (4 - r) 4 := Rat.divInt_nonneg (by omega) (by decide)
    have e : Rat.divInt (4 - r) 4 + Rat.divInt r 4 = 1 := by
      rw [Rat.divInt_add_divInt _ _ (by decide) (by decide)]
      have q : (4 - r) * 4 + r * 4 = 16 := by omega
      rw [q]
      decide +kernel
    grind
  have hd : 0 ≤ b + -1 * a := by grind
  have k1 := Rat.mul_le_mul_of_nonneg_right n0 hd
  have k2 := Rat.mul_le_mul_of_nonneg_right n1 hd
  refine ⟨a + Rat.divInt r 4 * (b + -1 * a), u1, i1, w1, run_G (more := []) ?_ (fr_pure _), by grind, by grind, s3.mono (by decide), p3, p4⟩
  rw [List.append_nil]
  unfold b__law_between
  refine (xss_step (σ' := [some (.ref 2), some (iv a b), some (fr (Rat.divInt r 4))]) (S' := G ns u1 i1 w1 tl) (by simp [bd_ok, bd_exc, st_ok, st_exc, xss_cons, xss_nil, seq_next, seq_ret, seq_brk, seq_cont, seq_exc, eqV_int, xst, ev, evT, evs, evo, evc, evi, opR, opV, opt, cmV, cmI, ixV, itemAt, MP.placeOf, biR, bindT, bindTs, unslot, hold, unhold, truV, isTy, isV, e1, mk])).trans ?_
  simp [bd_ok, bd_exc, st_ok, st_exc, xss_cons, xss_nil, seq_next, seq_ret, seq_brk, seq_cont, seq_exc, eqV_int, xst, ev, evT, evs, evo, evc, evi, opR, opV, opt, cmV, cmI, ixV, itemAt, MP.placeOf, biR, bindT, bindTs, unslot, hold, unhold, truV, isTy, isV, fm, m1, a1, m2, a2]
theorem l_part (ha : szq 11 a) (hb : szq 11 b) (o : a ≤ b) (hu : 0 ≤ u) (hi : 0 ≤ i) : ∃ x y u' i' w', callN F (d + 5) n__law_part [.ref 2, iv a b] (G ns u i w tl) = .ok (iv x y) (G ns u' i' w' tl) ∧ a ≤ x ∧ x ≤ y ∧ y ≤ b ∧ szq 57 x ∧ szq 57 y ∧ 0 ≤ u' ∧ 0 ≤ i' := by
  rw [callN_of (fd := ⟨2, 4, b__law_part⟩) rfl rfl]
  obtain ⟨x, u1, i1, w1, e1, l1, r1, s1, p1, p2⟩ := l_between (d := d) (ns := ns) (w := w) (tl := tl) ha hb o hu hi
  obtain ⟨y, u2, i2, w2, e2, l2, r2, s2, p3, p4⟩ := l_between (d := d) (ns := ns) (w := w1) (tl := tl) ha hb o p1 p2
  have cp := r_compare (d := d + 3) (S := G ns u2 i2 w2 tl) s1 s2 (by decide)
  have st1 : xst (callN F (d + 4)) (3 + tl.length) (.asg (.of (.name 2)) (.call n__law_between (.cons (.var 0) (.cons (.var 1) .nil)))) [some (.ref 2), some (iv a b), none, none] (G ns u i w tl) = .next [some (.ref 2), some (iv a b), some (fr x), none] (G ns u1 i1 w1 tl) := by simp [bd_ok, bd_exc, st_ok, st_exc, xss_cons, xss_nil, seq_next, seq_ret, seq_brk, seq_cont, seq_exc, eqV_int, xst, ev, evT, evs, evo, evc, evi, opR, opV, opt, cmV, cmI, ixV, itemAt, MP.placeOf, biR, bindT, bindTs, unslot, hold, unhold, truV, isTy, isV, e1]
  have st2 : xst (callN F (d + 4)) (3 + tl.length) (.asg (.of (.name 3)) (.call n__law_between (.cons (.var 0) (.cons (.var 1) .nil)))) [some (.ref 2), some (iv a b), some (fr x), none] (G ns u1 i1 w1 tl) = .next [some (.ref 2), some (iv a b), some (fr x), some (fr y)] (G ns u2 i2 w2 tl) := by simp [bd_ok, bd_exc, st_ok, st_exc, xss_cons, xss_nil, seq_next, seq_ret, seq_brk, seq_cont, seq_exc, eqV_int, xst, ev, evT, evs, evo, evc, evi, opR, opV, opt, cmV, cmI, ixV, itemAt, MP.placeOf, biR, bindT, bindTs, unslot, hold, unhold, truV, isTy, isV, e2]
  by_cases h : x ≤ y
  · refine ⟨x, y, u2, i2, w2, run_G (more := []) ?_ rfl, l1, h, r2, s1, s2, p3, p4⟩
    rw [List.append_nil]
    unfold b__law_part
    refine (xss_step st1).trans ((xss_step st2).trans ?_)
    simp [bd_ok, bd_exc, st_ok, st_exc, xss_cons, xss_nil, seq_next, seq_ret, seq_brk, seq_cont, seq_exc, eqV_int, xst, ev, evT, evs, evo, evc, evi, opR, opV, opt, cmV, cmI, ixV, itemAt, MP.placeOf, biR, bindT, bindTs, unslot, hold, unhold, truV, isTy, isV, cp, cq_le.mpr h]
  · have h' : ¬ cq x y ≤ 0 := fun z => h (cq_le.mp z)
    refine ⟨y, x, u2, i2, w2, run_G (more := []) ?_ rfl, l2, by grind, r1, s2, s1, p3, p4⟩
    rw [List.append_nil]
    unfold b__law_part
    refine (xss_step st1).trans ((xss_step st2).trans ?_)
    simp [bd_ok, bd_exc, st_ok, st_exc, xss_cons, xss_nil, seq_next, seq_ret, seq_brk, seq_cont, seq_exc, eqV_int, xst, ev, evT, evs, evo, evc, evi, opR, opV, opt, cmV, cmI, ixV, itemAt, MP.placeOf, biR, bindT, bindTs, unslot, hold, unhold, truV, isTy, isV, cp, h']
end
end K16
end
section
set_option Elab.async false
set_option linter.all false
set_option maxRecDepth 100000
set_option maxHeartbeats 1000000
namespace K16
open PySem MP
theorem tv_pure : ∀ t : Tr, t.tv.pure = true
  | .num _ => rfl
  | .st _ => rfl
  | .cn _ => rfl
  | .pw t m => by
    have := tv_pure t
    simp [Tr.tv, PV.pure, PV.pures, this]
  | .bin o a b => by
    have := tv_pure a
    have := tv_pure b
    simp [Tr.tv, PV.pure, PV.pures, *]
theorem pu (ns : List Int) (a i c : Int) (tl : List Cell) (x : Cell) : (G ns a i c tl).push x = G ns a i c (tl ++ [x]) := by unfold G Sto.push; simp
theorem ln (ns : List Int) (a i c : Int) (tl : List Cell) : (G ns a i c tl).len = 3 + tl.length := by unfold G Sto.len; simp; omega
theorem lastL (ns : List Int) (a i c : Int) (tl : List Cell) (xs : List PV) : (G ns a i c (tl ++ [.lst xs])).lst? (3 + tl.length) = some xs := by
  unfold Sto.lst? G
  have q : 3 + tl.length = tl.length + 1 + 1 + 1 := by omega
  simp [q]
section
variable {ns : List Int}
theorem l_tree : ∀ (m e : Nat) (u i w : Int) (tl : List Cell), m + 6 ≤ e → 0 ≤ u → 0 ≤ i → ∃ (t : Tr) (u' i' w' : Int), callN F e n__law_tree [.ref 2, .int m] (G ns u i w tl) = .ok t.tv (G ns u' i' w' tl) ∧ t.okT ∧ t.ht ≤ m ∧ 0 ≤ u' ∧ 0 ≤ i' := by
  intro m
  induction m with
  | zero =>
    intro e u i w tl he hu hi
    obtain ⟨d, rfl⟩ : ∃ d, e = d + 6 := ⟨e - 6, by omega⟩
    rw [callN_of (fd := ⟨2, 4, b__law_tree⟩) rfl rfl]
    obtain ⟨r, u1, i1, w1, e1, p1, p2, p3, p4⟩ := c_draw (d := d + 2) (ns := ns) (c := w) (m := 3) (tl := tl) hu hi (by decide) (by unfold sz; decide)
    have q : r = 0 ∨ r = 1 ∨ r = 2 := by omega
    rcases q with rfl | rfl | rfl
    · obtain ⟨x, u2, i2, w2, e2, zx, p5, p6⟩ := l_pair (d := d + 1) (ns := ns) (w := w1) (tl := tl) p3 p4
      refine ⟨.num x, u2, i2, w2, run_G (more := []) ?_ (tv_pure _), zx.mono (by decide), Nat.le_refl _, p5, p6⟩
      rw [List.append_nil]
      simp [b__law_tree, bd_ok, bd_exc, st_ok, st_exc, xss_cons, xss_nil, seq_next, seq_ret, seq_brk, seq_cont, seq_exc, eqV_int, xst, ev, evT, evs, evo, evc, evi, opR, opV, opt, cmV, cmI, ixV, itemAt, MP.placeOf, biR, bindT, bindTs, unslot, hold, unhold, truV, isTy, isV, e1, e2, Tr.tv]
    · obtain ⟨x, u2, i2, w2, e2, q1, q2, p5, p6⟩ := c_draw (d := d + 2) (ns := ns) (c := w1) (m := 2) (tl := tl) p3 p4 (by decide) (by unfold sz; decide)
      obtain ⟨k, rfl⟩ := Int.eq_ofNat_of_zero_le q1
      refine ⟨.st k, u2, i2, w2, run_G (more := []) ?_ (tv_pure _), (by show k < 2; omega), Nat.le_refl _, p5, p6⟩
      rw [List.append_nil]
      simp [b__law_tree, bd_ok, bd_exc, st_ok, st_exc, xss_cons, xss_nil, seq_next, seq_ret, seq_brk, seq_cont, seq_exc, eqV_int, xst, ev, evT, evs, evo, evc, evi, opR, opV, opt, cmV, cmI, ixV, itemAt, MP.placeOf, biR, bindT, bindTs, unslot, hold, unhold, truV, isTy, isV, e1, e2, Tr.tv]
    · obtain ⟨x, u2, i2, w2, e2, q1, q2, p5, p6⟩ := c_draw (d := d + 2) (ns := ns) (c := w1) (m := 2) (tl := tl) p3 p4 (by decide) (by unfold sz; decide)
      obtain ⟨k, rfl⟩ := Int.eq_ofNat_of_zero_le q1
      refine ⟨.cn k, u2, i2, w2, run_G (more := []) ?_ (tv_pure _), (by show k < 2; omega), Nat.le_refl _, p5, p6⟩
      rw [List.append_nil]
      simp [b__law_tree, bd_ok, bd_exc, st_ok, st_exc, xss_cons, xss_nil, seq_next, seq_ret, seq_brk, seq_cont, seq_exc, eqV_int, xst, ev, evT, evs, evo, evc, evi, opR, opV, opt, cmV, cmI, ixV, itemAt, MP.placeOf, biR, bindT, bindTs, unslot, hold, unhold, truV, isTy, isV, e1, e2, Tr.tv]
  | succ m ih =>
    intro e u i w tl he hu hi
    obtain ⟨d, rfl⟩ : ∃ d, e = d + 6 := ⟨e - 6, by omega⟩
    rw [callN_of (fd := ⟨2, 4, b__law_tree⟩) rfl rfl]
    obtain ⟨r, u1, i1, w1, e1, p1, p2, p3, p4⟩ := c_draw (d := d + 2) (ns := ns) (c := w) (m := 8) (tl := tl) hu hi (by decide) (by unfold sz; decide)
    have pos : (0 : Int) < (m : Int) + 1 := by omega
    have sb : ((m : Int) + 1) - 1 = m := by omega
    have first : xst (callN F (d + 5)) (3 + tl.length) (.asg (.of (.name 2)) (.call n__law_draw (.cons (.var 0) (.cons (.ife (.cmp .gt (.var 1) (.cst (.int 0))) (.cst (.int 8)) (.cst (.int 3))) .nil)))) [some (.ref 2), some (.int ((m + 1 : Nat) : Int)), none, none] (G ns u i w tl) = .next [some (.ref 2), some (.int ((m + 1 : Nat) : Int)), some (.int r), none] (G ns u1 i1 w1 tl) := by
      simp [bd_ok, bd_exc, st_ok, st_exc, xss_cons, xss_nil, seq_next, seq_ret, seq_brk, seq_cont, seq_exc, eqV_int, xst, ev, evT, evs, evo, evc, evi, opR, opV, opt, cmV, cmI, ixV, itemAt, MP.placeOf, biR, bindT, bindTs, unslot, hold, unhold, truV, isTy, isV, e1, pos]
    have q : r = 0 ∨ r = 1 ∨ r = 2 ∨ r = 7 ∨ (3 ≤ r ∧ r ≤ 6) := by omega
    rcases q with rfl | rfl | rfl | rfl | ⟨r3, r6⟩
    · obtain ⟨x, u2, i2, w2, e2, zx, p5, p6⟩ := l_pair (d := d + 1) (ns := ns) (w := w1) (tl := tl) p3 p4
      refine ⟨.num x, u2, i2, w2, run_G (more := []) ?_ (tv_pure _), zx.mono (by decide), Nat.zero_le _, p5, p6⟩
      rw [List.append_nil]
      unfold b__law_tree
      refine (xss_step first).trans ?_
      simp [bd_ok, bd_exc, st_ok, st_exc, xss_cons, xss_nil, seq_next, seq_ret, seq_brk, seq_cont, seq_exc, eqV_int, xst, ev, evT, evs, evo, evc, evi, opR, opV, opt, cmV, cmI, ixV, itemAt, MP.placeOf, biR, bindT, bindTs, unslot, hold, unhold, truV, isTy, isV, e2, Tr.tv]
    · obtain ⟨x, u2, i2, w2, e2, q1, q2, p5, p6⟩ := c_draw (d := d + 2) (ns := ns) (c := w1) (m := 2) (tl := tl) p3 p4 (by decide) (by unfold sz; decide)
      obtain ⟨k, rfl⟩ := Int.eq_ofNat_of_zero_le q1
      refine ⟨.st k, u2, i2, w2, run_G (more := []) ?_ (tv_pure _), (by show k < 2; omega), Nat.zero_le _, p5, p6⟩
      rw [List.append_nil]
      unfold b__law_tree
      refine (xss_step first).trans ?_
      simp [bd_ok, bd_exc, st_ok, st_exc, xss_cons, xss_nil, seq_next, seq_ret, seq_brk, seq_cont, seq_exc, eqV_int, xst, ev, evT, evs, evo, evc, evi, opR, opV, opt, cmV, cmI, ixV, itemAt, MP.placeOf, biR, bindT, bindTs, unslot, hold, unhold, truV, isTy, isV, e2, Tr.tv]
    · obtain ⟨x, u2, i2, w2, e2, q1, q2, p5, p6⟩ := c_draw (d := d + 2) (ns := ns) (c := w1) (m := 2) (tl := tl) p3 p4 (by decide) (by unfold sz; decide)
      obtain ⟨k, rfl⟩ := Int.eq_ofNat_of_zero_le q1
      refine ⟨.cn k, u2, i2, w2, run_G (more := []) ?_ (tv_pure _), (by show k < 2; omega), Nat.zero_le _, p5, p6⟩
      rw [List.append_nil]
      unfold b__law_tree
      refine (xss_step first).trans ?_
      simp [bd_ok, bd_exc, st_ok, st_exc, xss_cons, xss_nil, seq_next, seq_ret, seq_brk, seq_cont, seq_exc, eqV_int, xst, ev, evT, evs, evo, evc, evi, opR, opV, opt, cmV, cmI, ixV, itemAt, MP.placeOf, biR, bindT, bindTs, unslot, hold, unhold, truV, isTy, isV, e2, Tr.tv]
    · obtain ⟨t, u2, i2, w2, e2, ok, hh, p5, p6⟩ := ih (d + 5) u1 i1 w1 tl (by omega) p3 p4
      obtain ⟨x, u3, i3, w3, e3, q1, q2, p7, p8⟩ := c_draw (d := d + 2) (ns := ns) (c := w2) (m := 5) (tl := tl) p5 p6 (by decide) (by unfold sz; decide)
      obtain ⟨k, rfl⟩ := Int.eq_ofNat_of_zero_le q1
      refine ⟨.pw t k, u3, i3, w3, run_G (more := []) ?_ (tv_pure _), ⟨ok, by omega⟩, (by show t.ht + 1 ≤ m + 1; omega), p7, p8⟩
      rw [List.append_nil]
      unfold b__law_tree
      refine (xss_step first).trans ?_
      simp [bd_ok, bd_exc, st_ok, st_exc, xss_cons, xss_nil, seq_next, seq_ret, seq_brk, seq_cont, seq_exc, eqV_int, xst, ev, evT, evs, evo, evc, evi, opR, opV, opt, cmV, cmI, ixV, itemAt, MP.placeOf, biR, bindT, bindTs, unslot, hold, unhold, truV, isTy, isV, sb, e2, e3, Tr.tv]
    · obtain ⟨a, u2, i2, w2, e2, ok, hh, p5, p6⟩ := ih (d + 5) u1 i1 w1 tl (by omega) p3 p4
      obtain ⟨b, u3, i3, w3, e3, ok2, hh2, p7, p8⟩ := ih (d + 5) u2 i2 w2 (tl ++ [.lst [.str "add", .str "sub", .str "mul", .str "div"]]) (by omega) p5 p6
      have bo : ∃ o : Bo, itemAt [PV.str "add", .str "sub", .str "mul", .str "div"] (r - 3) = some (.str o.nm) := by
        have q : r = 3 ∨ r = 4 ∨ r = 5 ∨ r = 6 := by omega
        rcases q with rfl | rfl | rfl | rfl
        · exact ⟨.add, rfl⟩
        · exact ⟨.sub, rfl⟩
        · exact ⟨.mul, rfl⟩
        · exact ⟨.div, rfl⟩
      obtain ⟨o, ho⟩ := bo
      have n0 : ¬ r = 0 := by omega
      have n1 : ¬ r = 1 := by omega
      have n2 : ¬ r = 2 := by omega
      have n7 : ¬ r = 7 := by omega
      refine ⟨.bin o a b, u3, i3, w3, run_G (more := [.lst [.str "add", .str "sub", .str "mul", .str "div"]]) ?_ (tv_pure _), ⟨ok, ok2⟩, (by show max a.ht b.ht + 1 ≤ m + 1; omega), p7, p8⟩
      have ixl : ixV (G ns u2 i2 w2 (tl ++ [.lst [.str "add", .str "sub", .str "mul", .str "div"]])) (.ref (3 + tl.length)) (.int (r - 3)) = some (.str o.nm) := by
        unfold ixV
        simp only [lastL, Option.bind]
        exact ho
      unfold b__law_tree
      refine (xss_step first).trans ?_
      have mid : ∀ ss : Ss, xss (callN F (d + 5)) (3 + tl.length) (.cons (.ifs (.cmp .eq (.var 2) (.cst (.int 0))) (.cons (.ret (.tup (.cons (.cst (.str "num")) (.cons (.call 28 (.cons (.var 0) .nil)) .nil)))) .nil) .nil)
          (.cons (.ifs (.cmp .eq (.var 2) (.cst (.int 1))) (.cons (.ret (.tup (.cons (.cst (.str "state")) (.cons (.call 27 (.cons (.var 0) (.cons (.cst (.int 2)) .nil))) .nil)))) .nil) .nil)
          (.cons (.ifs (.cmp .eq (.var 2) (.cst (.int 2))) (.cons (.ret (.tup (.cons (.cst (.str "const")) (.cons (.call 27 (.cons (.var 0) (.cons (.cst (.int 2)) .nil))) .nil)))) .nil) .nil)
          (.cons (.ifs (.cmp .eq (.var 2) (.cst (.int 7))) (.cons (.ret (.tup (.cons (.cst (.str "pow")) (.cons (.call 29 (.cons (.var 0) (.cons (.bin .sub (.var 1) (.cst (.int 1))) .nil))) (.cons (.call 27 (.cons (.var 0) (.cons (.cst (.int 5)) .nil))) .nil))))) .nil) .nil)
          (.cons (.asg (.of (.name 3)) (.call 29 (.cons (.var 0) (.cons (.bin .sub (.var 1) (.cst (.int 1))) .nil)))) ss))))) [some (.ref 2), some (.int ((m + 1 : Nat) : Int)), some (.int r), none] (G ns u1 i1 w1 tl) = xss (callN F (d + 5)) (3 + tl.length) ss [some (.ref 2), some (.int ((m + 1 : Nat) : Int)), some (.int r), some a.tv] (G ns u2 i2 w2 tl) := fun ss => by
        simp [bd_ok, bd_exc, st_ok, st_exc, xss_cons, xss_nil, seq_next, seq_ret, seq_brk, seq_cont, seq_exc, eqV_int, xst, ev, evT, evs, evo, evc, evi, opR, opV, opt, cmV, cmI, ixV, itemAt, MP.placeOf, biR, bindT, bindTs, unslot, hold, unhold, truV, isTy, isV, n0, n1, n2, n7, sb, e2]
      rw [mid]
      have e3' : callN F (d + 5) n__law_tree [.ref 2, .int m] (G ns u2 i2 w2 (tl ++ [.lst [.str "add", .str "sub", .str "mul", .str "div"]])) = .ok b.tv (G ns u3 i3 w3 (tl ++ [.lst [.str "add", .str "sub", .str "mul", .str "div"]])) := e3
      simp [bd_ok, bd_exc, st_ok, xss_cons, seq_ret, xst, ev, evs, opR, opV, opt, pu, ln, ixl, sb, e3', Tr.tv]
end
end K16
end
section
set_option Elab.async false
set_option linter.all false
set_option maxRecDepth 100000
set_option maxHeartbeats 1000000
namespace K16
open PySem MP
theorem Vd_le {h : Nat} (l : h ≤ 3) : Vd h ≤ 12884 := by
  have z := Vd_mono l
  rw [Vd3] at z
  exact z
theorem ixY {S : Sto} {p : Nat} {Y : Nat → Rat} {j i : Nat} (h : S.lst? p = some [fr (Y j), fr (Y (j + 1))]) (hi : i < 2) : ixV S (.ref p) (.int i) = some (fr (Y (j + i))) := by
  rw [ix2 h hi]
  match i, hi with
  | 0, _ => rfl
  | 1, _ => rfl
theorem l_held {d k j : Nat} {lo hi : Rat} {t b : Int} {S : Sto} (hb : 0 < b) (h1 : lo ≤ Rat.divInt t b) (h2 : Rat.divInt t b ≤ hi) (s1 : szq k lo) (s2 : szq k hi) (s3 : sz j t) (s4 : sz j b) (l : k + j + 2 ≤ 134217728) : callN F (d + 1) n__law_held [iv lo hi, pr t b] S = .ok (.bl true) S := by
  have m1 : mulOk lo.num b = true := mulOk_of s1.1 s4 l
  have m2 : mulOk t lo.den = true := mulOk_of s3 s1.2 (by omega)
  have m3 : mulOk t hi.den = true := mulOk_of s3 s2.2 (by omega)
  have m4 : mulOk hi.num b = true := mulOk_of s2.1 s4 l
  have c1 := le_cross hb h1
  have c2 := ge_cross hb h2
  rw [callN_of (fd := ⟨2, 2, b__law_held⟩) rfl rfl]
  refine run_ret ?_ rfl
  unfold iv fr
  simp [b__law_held, bd_ok, bd_exc, st_ok, st_exc, xss_cons, xss_nil, seq_next, seq_ret, seq_brk, seq_cont, seq_exc, eqV_int, xst, ev, evT, evs, evo, evc, evi, opR, opV, opt, cmV, cmI, ixV, itemAt, MP.placeOf, biR, bindT, bindTs, unslot, hold, unhold, truV, isTy, isV, m1, m2, m3, m4, c1, c2]
section
variable {n p q : Nat} {X : Nat → Rat × Rat} {Y : Nat → Rat}
theorem fr_prn (x : Rat) : fr x = pr x.num x.den := rfl
theorem c_value (hX : Xok X) (hn : n < 50) (hY : ∀ i, i < 4 → (X i).1 ≤ Y i ∧ Y i ≤ (X i).2 ∧ szq 200 (Y i)) : ∀ (t : Tr) (R : Rat × Rat) (v : Int × Int) (e : Nat) (S : Sto), t.okT → rg n X t = some R → vl Y t = some v → t.ht ≤ 3 → t.ht + 1 ≤ e →
    S.lst? p = some [fr (Y 0), fr (Y 1)] → S.lst? q = some [fr (Y 2), fr (Y 3)] → callN F e n__law_value [t.tv, .ref p, .ref q] S = .ok (pr v.1 v.2) S
  | .num x, R, v, e, S, ok, hR, hv, h3, he, hp, hq => by
    obtain ⟨d, rfl⟩ : ∃ d, e = d + 1 := ⟨e - 1, by omega⟩
    cases hv
    rw [callN_of (fd := ⟨3, 10, b__law_value⟩) rfl rfl]
    refine run_ret ?_ rfl
    simp [b__law_value, Tr.tv, bd_ok, bd_exc, st_ok, st_exc, xss_cons, xss_nil, seq_next, seq_ret, seq_brk, seq_cont, seq_exc, eqV_int, xst, ev, evT, evs, evo, evc, evi, opR, opV, opt, cmV, cmI, ixV, itemAt, MP.placeOf, biR, bindT, bindTs, unslot, hold, unhold, truV, isTy, isV, es_num_num, es_num_state, es_num_const, es_num_pow, es_num_add, es_num_sub, es_num_mul, es_num_div, es_state_num, es_state_state, es_state_const, es_state_pow, es_state_add, es_state_sub, es_state_mul, es_state_div, es_const_num, es_const_state, es_const_const, es_const_pow, es_const_add, es_const_sub, es_const_mul, es_const_div, es_pow_num, es_pow_state, es_pow_const, es_pow_pow, es_pow_add, es_pow_sub, es_pow_mul, es_pow_div, es_add_num, es_add_state, es_add_const, es_add_pow, es_add_add, es_add_sub, es_add_mul, es_add_div, es_sub_num, es_sub_state, es_sub_const, es_sub_pow, es_sub_add, es_sub_sub, es_sub_mul, es_sub_div, es_mul_num, es_mul_state, es_mul_const, es_mul_pow, es_mul_add, es_mul_sub, es_mul_mul, es_mul_div, es_div_num, es_div_state, es_div_const, es_div_pow, es_div_add, es_div_sub, es_div_mul, es_div_div, fr_prn]
  | .st i, R, v, e, S, ok, hR, hv, h3, he, hp, hq => by
    obtain ⟨d, rfl⟩ : ∃ d, e = d + 1 := ⟨e - 1, by omega⟩
    cases hv
    have ok : i < 2 := ok
    have j := ixY (S := ⟨S.cells, false⟩) (j := 0) (i := i) (Y := Y) hp ok
    rw [Nat.zero_add] at j
    have it : ∀ S : Sto, ixV S (.tup [.str "state", .int i]) (.int 0) = some (.str "state") := fun _ => rfl
    have it1 : ∀ S : Sto, ixV S (.tup [.str "state", .int i]) (.int 1) = some (.int i) := fun _ => rfl
    rw [callN_of (fd := ⟨3, 10, b__law_value⟩) rfl rfl]
    refine run_ret ?_ rfl
    simp [b__law_value, Tr.tv, bd_ok, bd_exc, st_ok, st_exc, xss_cons, xss_nil, seq_next, seq_ret, xst, ev, evT, evs, opt, cmV, bindT, es_num_num, es_num_state, es_num_const, es_num_pow, es_num_add, es_num_sub, es_num_mul, es_num_div, es_state_num, es_state_state, es_state_const, es_state_pow, es_state_add, es_state_sub, es_state_mul, es_state_div, es_const_num, es_const_state, es_const_const, es_const_pow, es_const_add, es_const_sub, es_const_mul, es_const_div, es_pow_num, es_pow_state, es_pow_const, es_pow_pow, es_pow_add, es_pow_sub, es_pow_mul, es_pow_div, es_add_num, es_add_state, es_add_const, es_add_pow, es_add_add, es_add_sub, es_add_mul, es_add_div, es_sub_num, es_sub_state, es_sub_const, es_sub_pow, es_sub_add, es_sub_sub, es_sub_mul, es_sub_div, es_mul_num, es_mul_state, es_mul_const, es_mul_pow, es_mul_add, es_mul_sub, es_mul_mul, es_mul_div, es_div_num, es_div_state, es_div_const, es_div_pow, es_div_add, es_div_sub, es_div_mul, es_div_div, it, it1, j, fr_prn]
  | .cn i, R, v, e, S, ok, hR, hv, h3, he, hp, hq => by
    obtain ⟨d, rfl⟩ : ∃ d, e = d + 1 := ⟨e - 1, by omega⟩
    cases hv
    have ok : i < 2 := ok
    have j := ixY (S := ⟨S.cells, false⟩) (j := 2) (i := i) (Y := Y) hq ok
    have it : ∀ S : Sto, ixV S (.tup [.str "const", .int i]) (.int 0) = some (.str "const") := fun _ => rfl
    have it1 : ∀ S : Sto, ixV S (.tup [.str "const", .int i]) (.int 1) = some (.int i) := fun _ => rfl
    rw [callN_of (fd := ⟨3, 10, b__law_value⟩) rfl rfl]
    refine run_ret ?_ rfl
    simp [b__law_value, Tr.tv, bd_ok, bd_exc, st_ok, st_exc, xss_cons, xss_nil, seq_next, seq_ret, xst, ev, evT, evs, opt, cmV, bindT, es_num_num, es_num_state, es_num_const, es_num_pow, es_num_add, es_num_sub, es_num_mul, es_num_div, es_state_num, es_state_state, es_state_const, es_state_pow, es_state_add, es_state_sub, es_state_mul, es_state_div, es_const_num, es_const_state, es_const_const, es_const_pow, es_const_add, es_const_sub, es_const_mul, es_const_div, es_pow_num, es_pow_state, es_pow_const, es_pow_pow, es_pow_add, es_pow_sub, es_pow_mul, es_pow_div, es_add_num, es_add_state, es_add_const, es_add_pow, es_add_add, es_add_sub, es_add_mul, es_add_div, es_sub_num, es_sub_state, es_sub_const, es_sub_pow, es_sub_add, es_sub_sub, es_sub_mul, es_sub_div, es_mul_num, es_mul_state, es_mul_const, es_mul_pow, es_mul_add, es_mul_sub, es_mul_mul, es_mul_div, es_div_num, es_div_state, es_div_const, es_div_pow, es_div_add, es_div_sub, es_div_mul, es_div_div, it, it1, j, fr_prn]
  | .pw t m, R, v, e, S, ok, hR, hv, h3, he, hp, hq => by
    have hh : (Tr.pw t m).ht = t.ht + 1 := rfl
    obtain ⟨d, rfl⟩ : ∃ d, e = d + 1 := ⟨e - 1, by omega⟩
    have hm : m < 5 := ok.2
    unfold rg at hR
    cases er : rg n X t with
    | none => rw [er] at hR; cases hR
    | some r =>
      obtain ⟨x, ev', nz, _, _, s1, s2⟩ := vl_in hX hn hY t r ok.1 er
      unfold vl at hv
      rw [ev'] at hv
      cases hv
      have ih := c_value hX hn hY t r x d ⟨S.cells, false⟩ ok.1 er ev' (by omega) (by omega) hp hq
      have vd := Vd_le (h := t.ht) (by omega)
      rw [callN_of (fd := ⟨3, 10, b__law_value⟩) rfl rfl]
      refine run_ret ?_ rfl
      obtain ⟨σ', S', lp, y, rfl, rfl⟩ := for_rng (C := callN F d) (b := S.cells.length) (t := .name 7) (e := .ix (.var 0) (.cst (.int 2))) (p := .cons (.par 5 6 (.bin .mul (.var 5) (.ix (.var 4) (.cst (.int 0)))) (.bin .mul (.var 6) (.ix (.var 4) (.cst (.int 1))))) .nil) (n := m)
        (P := fun i σ S' => ∃ y, σ = [some (Tr.pw t m).tv, some (.ref p), some (.ref q), some (.str "pow"), some (pr x.1 x.2), some (.int (x.1 ^ i)), some (.int (x.2 ^ i)), y, none, none] ∧ S' = ⟨S.cells, false⟩)
        (σ := [some (Tr.pw t m).tv, some (.ref p), some (.ref q), some (.str "pow"), some (pr x.1 x.2), some (.int 1), some (.int 1), none, none, none]) (S := ⟨S.cells, false⟩) (by simp [bd_ok, bd_exc, st_ok, st_exc, xss_cons, xss_nil, seq_next, seq_ret, seq_brk, seq_cont, seq_exc, eqV_int, xst, ev, evT, evs, evo, evc, evi, opR, opV, opt, cmV, cmI, ixV, itemAt, MP.placeOf, biR, bindT, bindTs, unslot, hold, unhold, truV, isTy, isV, Tr.tv]) (by omega) ⟨none, by simp, rfl⟩ (fun j σ S' hj ⟨y, h1, h2⟩ => by
          subst h1; subst h2
          have l1 : Vd t.ht * j ≤ 12884 * 5 := Nat.mul_le_mul vd (by omega)
          have q1 : mulOk (x.1 ^ j) x.1 = true := mulOk_of (s1.pow j) s1 (by omega)
          have q2 : mulOk (x.2 ^ j) x.2 = true := mulOk_of (s2.pow j) s2 (by omega)
          refine ⟨_, [some (Tr.pw t m).tv, some (.ref p), some (.ref q), some (.str "pow"), some (pr x.1 x.2), some (.int (x.1 ^ j * x.1)), some (.int (x.2 ^ j * x.2)), some (.int j), none, none], ⟨S.cells, false⟩, rfl, by simp [bd_ok, bd_exc, st_ok, st_exc, xss_cons, xss_nil, seq_next, seq_ret, seq_brk, seq_cont, seq_exc, eqV_int, xst, ev, evT, evs, evo, evc, evi, opR, opV, opt, cmV, cmI, ixV, itemAt, MP.placeOf, biR, bindT, bindTs, unslot, hold, unhold, truV, isTy, isV, q1, q2], some (.int j), ?_, rfl⟩
          rw [Int.pow_succ, Int.pow_succ])
      have lp' : ∀ ss : Ss, xss (callN F d) S.cells.length (.cons (.fors (.name 7) (.rng1 (.ix (.var 0) (.cst (.int 2)))) (.cons (.par 5 6 (.bin .mul (.var 5) (.ix (.var 4) (.cst (.int 0)))) (.bin .mul (.var 6) (.ix (.var 4) (.cst (.int 1))))) .nil)) ss) [some (Tr.pw t m).tv, some (.ref p), some (.ref q), some (.str "pow"), some (pr x.1 x.2), some (.int 1), some (.int 1), none, none, none] ⟨S.cells, false⟩ = xss (callN F d) S.cells.length ss [some (Tr.pw t m).tv, some (.ref p), some (.ref q), some (.str "pow"), some (pr x.1 x.2), some (.int (x.1 ^ m)), some (.int (x.2 ^ m)), y, none, none] ⟨S.cells, false⟩ := fun ss => xss_step lp
      have s6 : xst (callN F d) S.cells.length (.ifs (.cmp .eq (.var 3) (.cst (.str "pow"))) (.cons (.asg (.of (.tup (.cons (.name 5) (.cons (.name 6) .nil)))) (.tup (.cons (.cst (.int 1)) (.cons (.cst (.int 1)) .nil))))
          (.cons (.fors (.name 7) (.rng1 (.ix (.var 0) (.cst (.int 2)))) (.cons (.par 5 6 (.bin .mul (.var 5) (.ix (.var 4) (.cst (.int 0)))) (.bin .mul (.var 6) (.ix (.var 4) (.cst (.int 1))))) .nil))
          (.cons (.ret (.tup (.cons (.var 5) (.cons (.var 6) .nil)))) .nil))) .nil) [some (Tr.pw t m).tv, some (.ref p), some (.ref q), some (.str "pow"), some (pr x.1 x.2), none, none, none, none, none] ⟨S.cells, false⟩ = .ret (pr (x.1 ^ m) (x.2 ^ m)) ⟨S.cells, false⟩ := by
        have t1 : evT (callN F d) (.cmp .eq (.var 3) (.cst (.str "pow"))) [some (Tr.pw t m).tv, some (.ref p), some (.ref q), some (.str "pow"), some (pr x.1 x.2), none, none, none, none, none] ⟨S.cells, false⟩ = .ok true ⟨S.cells, false⟩ := by simp [bd_ok, bd_exc, st_ok, st_exc, xss_cons, xss_nil, seq_next, seq_ret, seq_brk, seq_cont, seq_exc, eqV_int, xst, ev, evT, evs, evo, evc, evi, opR, opV, opt, cmV, cmI, ixV, itemAt, MP.placeOf, biR, bindT, bindTs, unslot, hold, unhold, truV, isTy, isV, es_num_num, es_num_state, es_num_const, es_num_pow, es_num_add, es_num_sub, es_num_mul, es_num_div, es_state_num, es_state_state, es_state_const, es_state_pow, es_state_add, es_state_sub, es_state_mul, es_state_div, es_const_num, es_const_state, es_const_const, es_const_pow, es_const_add, es_const_sub, es_const_mul, es_const_div, es_pow_num, es_pow_state, es_pow_const, es_pow_pow, es_pow_add, es_pow_sub, es_pow_mul, es_pow_div, es_add_num, es_add_state, es_add_const, es_add_pow, es_add_add, es_add_sub, es_add_mul, es_add_div, es_sub_num, es_sub_state, es_sub_const, es_sub_pow, es_sub_add, es_sub_sub, es_sub_mul, es_sub_div, es_mul_num, es_mul_state, es_mul_const, es_mul_pow, es_mul_add, es_mul_sub, es_mul_mul, es_mul_div, es_div_num, es_div_state, es_div_const, es_div_pow, es_div_add, es_div_sub, es_div_mul, es_div_div]
        rw [xst, t1]
        simp only [st_ok]
        refine (xss_step (σ' := [some (Tr.pw t m).tv, some (.ref p), some (.ref q), some (.str "pow"), some (pr x.1 x.2), some (.int 1), some (.int 1), none, none, none]) (S' := ⟨S.cells, false⟩) (by simp [bd_ok, bd_exc, st_ok, st_exc, xss_cons, xss_nil, seq_next, seq_ret, seq_brk, seq_cont, seq_exc, eqV_int, xst, ev, evT, evs, evo, evc, evi, opR, opV, opt, cmV, cmI, ixV, itemAt, MP.placeOf, biR, bindT, bindTs, unslot, hold, unhold, truV, isTy, isV])).trans ((lp' _).trans ?_)
        simp [bd_ok, bd_exc, st_ok, st_exc, xss_cons, xss_nil, seq_next, seq_ret, seq_brk, seq_cont, seq_exc, eqV_int, xst, ev, evT, evs, evo, evc, evi, opR, opV, opt, cmV, cmI, ixV, itemAt, MP.placeOf, biR, bindT, bindTs, unslot, hold, unhold, truV, isTy, isV]
      have pre : ∀ ss : Ss, xss (callN F d) S.cells.length (.cons (.asg (.of (.name 3)) (.ix (.var 0) (.cst (.int 0))))
          (.cons (.ifs (.cmp .eq (.var 3) (.cst (.str "num"))) (.cons (.ret (.ix (.var 0) (.cst (.int 1)))) .nil) .nil)
          (.cons (.ifs (.cmp .eq (.var 3) (.cst (.str "state"))) (.cons (.ret (.ix (.var 1) (.ix (.var 0) (.cst (.int 1))))) .nil) .nil)
          (.cons (.ifs (.cmp .eq (.var 3) (.cst (.str "const"))) (.cons (.ret (.ix (.var 2) (.ix (.var 0) (.cst (.int 1))))) .nil) .nil)
          (.cons (.asg (.of (.name 4)) (.call n__law_value (.cons (.ix (.var 0) (.cst (.int 1))) (.cons (.var 1) (.cons (.var 2) .nil)))))
          (.cons (.ifs (.cmp .isn (.var 4) (.cst .non)) (.cons (.ret (.cst .non)) .nil) .nil) ss)))))) [some (Tr.pw t m).tv, some (.ref p), some (.ref q), none, none, none, none, none, none, none] ⟨S.cells, false⟩ = xss (callN F d) S.cells.length ss [some (Tr.pw t m).tv, some (.ref p), some (.ref q), some (.str "pow"), some (pr x.1 x.2), none, none, none, none, none] ⟨S.cells, false⟩ := fun ss => by
        simp [Tr.tv, bd_ok, bd_exc, st_ok, st_exc, xss_cons, xss_nil, seq_next, seq_ret, seq_brk, seq_cont, seq_exc, eqV_int, xst, ev, evT, evs, evo, evc, evi, opR, opV, opt, cmV, cmI, ixV, itemAt, MP.placeOf, biR, bindT, bindTs, unslot, hold, unhold, truV, isTy, isV, es_num_num, es_num_state, es_num_const, es_num_pow, es_num_add, es_num_sub, es_num_mul, es_num_div, es_state_num, es_state_state, es_state_const, es_state_pow, es_state_add, es_state_sub, es_state_mul, es_state_div, es_const_num, es_const_state, es_const_const, es_const_pow, es_const_add, es_const_sub, es_const_mul, es_const_div, es_pow_num, es_pow_state, es_pow_const, es_pow_pow, es_pow_add, es_pow_sub, es_pow_mul, es_pow_div, es_add_num, es_add_state, es_add_const, es_add_pow, es_add_add, es_add_sub, es_add_mul, es_add_div, es_sub_num, es_sub_state, es_sub_const, es_sub_pow, es_sub_add, es_sub_sub, es_sub_mul, es_sub_div, es_mul_num, es_mul_state, es_mul_const, es_mul_pow, es_mul_add, es_mul_sub, es_mul_mul, es_mul_div, es_div_num, es_div_state, es_div_const, es_div_pow, es_div_add, es_div_sub, es_div_mul, es_div_div, ih]
      unfold b__law_value
      refine (pre _).trans ?_
      rw [xss_cons, s6, seq_ret]
  | .bin o a b, R, v, e, S, ok, hR, hv, h3, he, hp, hq => by
    have hh : (Tr.bin o a b).ht = max a.ht b.ht + 1 := rfl
    have ha : a.ht ≤ max a.ht b.ht := Nat.le_max_left _ _
    have hb : b.ht ≤ max a.ht b.ht := Nat.le_max_right _ _
    obtain ⟨d, rfl⟩ : ∃ d, e = d + 1 := ⟨e - 1, by omega⟩
    unfold rg at hR
    cases er : rg n X a with
    | none => rw [er] at hR; cases hR
    | some r =>
      cases er2 : rg n X b with
      | none => rw [er, er2] at hR; cases hR
      | some r2 =>
        obtain ⟨x, ev', nz, _, _, s1, s2⟩ := vl_in hX hn hY a r ok.1 er
        obtain ⟨y, ev2, nz2, _, _, s3, s4⟩ := vl_in hX hn hY b r2 ok.2 er2
        have ih1 := c_value hX hn hY a r x d ⟨S.cells, false⟩ ok.1 er ev' (by omega) (by omega) hp hq
        have ih2 := c_value hX hn hY b r2 y d ⟨S.cells, false⟩ ok.2 er2 ev2 (by omega) (by omega) hp hq
        have v1 := Vd_le (h := a.ht) (by omega)
        have v2 := Vd_le (h := b.ht) (by omega)
        have s1 := s1.mono v1
        have s2 := s2.mono v1
        have s3 := s3.mono v2
        have s4 := s4.mono v2
        have m1 : mulOk x.1 y.1 = true := mulOk_of s1 s3 (by omega)
        have m2 : mulOk x.1 y.2 = true := mulOk_of s1 s4 (by omega)
        have m3 : mulOk x.2 y.1 = true := mulOk_of s2 s3 (by omega)
        have m4 : mulOk x.2 y.2 = true := mulOk_of s2 s4 (by omega)
        have m5 : ∀ z : Int, mulOk 1 z = true := fun z => mulOk_l (by unfold sz; decide)
        have m6 : ∀ z : Int, mulOk (-1) z = true := fun z => mulOk_l (by unfold sz; decide)
        have m7 : mulOk y.1 x.2 = true := mulOk_of s3 s2 (by omega)
        have m8 : mulOk (-y.1) x.2 = true := mulOk_of s3.neg s2 (by omega)
        unfold vl at hv
        rw [ev', ev2] at hv
        rw [callN_of (fd := ⟨3, 10, b__law_value⟩) rfl rfl]
        refine run_ret ?_ rfl
        cases o with
        | add =>
          cases hv
          simp [b__law_value, Tr.tv, Bo.nm, bd_ok, bd_exc, st_ok, st_exc, xss_cons, xss_nil, seq_next, seq_ret, seq_brk, seq_cont, seq_exc, eqV_int, xst, ev, evT, evs, evo, evc, evi, opR, opV, opt, cmV, cmI, ixV, itemAt, MP.placeOf, biR, bindT, bindTs, unslot, hold, unhold, truV, isTy, isV, es_num_num, es_num_state, es_num_const, es_num_pow, es_num_add, es_num_sub, es_num_mul, es_num_div, es_state_num, es_state_state, es_state_const, es_state_pow, es_state_add, es_state_sub, es_state_mul, es_state_div, es_const_num, es_const_state, es_const_const, es_const_pow, es_const_add, es_const_sub, es_const_mul, es_const_div, es_pow_num, es_pow_state, es_pow_const, es_pow_pow, es_pow_add, es_pow_sub, es_pow_mul, es_pow_div, es_add_num, es_add_state, es_add_const, es_add_pow, es_add_add, es_add_sub, es_add_mul, es_add_div, es_sub_num, es_sub_state, es_sub_const, es_sub_pow, es_sub_add, es_sub_sub, es_sub_mul, es_sub_div, es_mul_num, es_mul_state, es_mul_const, es_mul_pow, es_mul_add, es_mul_sub, es_mul_mul, es_mul_div, es_div_num, es_div_state, es_div_const, es_div_pow, es_div_add, es_div_sub, es_div_mul, es_div_div, ih1, ih2, m2, m4, m5, m7]
        | sub =>
          cases hv
          simp [b__law_value, Tr.tv, Bo.nm, bd_ok, bd_exc, st_ok, st_exc, xss_cons, xss_nil, seq_next, seq_ret, seq_brk, seq_cont, seq_exc, eqV_int, xst, ev, evT, evs, evo, evc, evi, opR, opV, opt, cmV, cmI, ixV, itemAt, MP.placeOf, biR, bindT, bindTs, unslot, hold, unhold, truV, isTy, isV, es_num_num, es_num_state, es_num_const, es_num_pow, es_num_add, es_num_sub, es_num_mul, es_num_div, es_state_num, es_state_state, es_state_const, es_state_pow, es_state_add, es_state_sub, es_state_mul, es_state_div, es_const_num, es_const_state, es_const_const, es_const_pow, es_const_add, es_const_sub, es_const_mul, es_const_div, es_pow_num, es_pow_state, es_pow_const, es_pow_pow, es_pow_add, es_pow_sub, es_pow_mul, es_pow_div, es_add_num, es_add_state, es_add_const, es_add_pow, es_add_add, es_add_sub, es_add_mul, es_add_div, es_sub_num, es_sub_state, es_sub_const, es_sub_pow, es_sub_add, es_sub_sub, es_sub_mul, es_sub_div, es_mul_num, es_mul_state, es_mul_const, es_mul_pow, es_mul_add, es_mul_sub, es_mul_mul, es_mul_div, es_div_num, es_div_state, es_div_const, es_div_pow, es_div_add, es_div_sub, es_div_mul, es_div_div, ih1, ih2, m2, m4, m6, m7, m8]
        | mul =>
          cases hv
          simp [b__law_value, Tr.tv, Bo.nm, bd_ok, bd_exc, st_ok, st_exc, xss_cons, xss_nil, seq_next, seq_ret, seq_brk, seq_cont, seq_exc, eqV_int, xst, ev, evT, evs, evo, evc, evi, opR, opV, opt, cmV, cmI, ixV, itemAt, MP.placeOf, biR, bindT, bindTs, unslot, hold, unhold, truV, isTy, isV, es_num_num, es_num_state, es_num_const, es_num_pow, es_num_add, es_num_sub, es_num_mul, es_num_div, es_state_num, es_state_state, es_state_const, es_state_pow, es_state_add, es_state_sub, es_state_mul, es_state_div, es_const_num, es_const_state, es_const_const, es_const_pow, es_const_add, es_const_sub, es_const_mul, es_const_div, es_pow_num, es_pow_state, es_pow_const, es_pow_pow, es_pow_add, es_pow_sub, es_pow_mul, es_pow_div, es_add_num, es_add_state, es_add_const, es_add_pow, es_add_add, es_add_sub, es_add_mul, es_add_div, es_sub_num, es_sub_state, es_sub_const, es_sub_pow, es_sub_add, es_sub_sub, es_sub_mul, es_sub_div, es_mul_num, es_mul_state, es_mul_const, es_mul_pow, es_mul_add, es_mul_sub, es_mul_mul, es_mul_div, es_div_num, es_div_state, es_div_const, es_div_pow, es_div_add, es_div_sub, es_div_mul, es_div_div, ih1, ih2, m1, m4]
        | div =>
          have hv : (if y.1 = 0 then none else some (x.1 * y.2, x.2 * y.1)) = some v := hv
          split at hv
          · cases hv
          · rename_i h0
            cases hv
            simp [b__law_value, Tr.tv, Bo.nm, bd_ok, bd_exc, st_ok, st_exc, xss_cons, xss_nil, seq_next, seq_ret, seq_brk, seq_cont, seq_exc, eqV_int, xst, ev, evT, evs, evo, evc, evi, opR, opV, opt, cmV, cmI, ixV, itemAt, MP.placeOf, biR, bindT, bindTs, unslot, hold, unhold, truV, isTy, isV, es_num_num, es_num_state, es_num_const, es_num_pow, es_num_add, es_num_sub, es_num_mul, es_num_div, es_state_num, es_state_state, es_state_const, es_state_pow, es_state_add, es_state_sub, es_state_mul, es_state_div, es_const_num, es_const_state, es_const_const, es_const_pow, es_const_add, es_const_sub, es_const_mul, es_const_div, es_pow_num, es_pow_state, es_pow_const, es_pow_pow, es_pow_add, es_pow_sub, es_pow_mul, es_pow_div, es_add_num, es_add_state, es_add_const, es_add_pow, es_add_add, es_add_sub, es_add_mul, es_add_div, es_sub_num, es_sub_state, es_sub_const, es_sub_pow, es_sub_add, es_sub_sub, es_sub_mul, es_sub_div, es_mul_num, es_mul_state, es_mul_const, es_mul_pow, es_mul_add, es_mul_sub, es_mul_mul, es_mul_div, es_div_num, es_div_state, es_div_const, es_div_pow, es_div_add, es_div_sub, es_div_mul, es_div_div, ih1, ih2, m2, m3, h0]
end
end K16
end
section
set_option Elab.async false
set_option linter.all false
set_option maxRecDepth 100000
set_option maxHeartbeats 1000000
namespace K16
open PySem MP
inductive F2 (r : PV → PV → Prop) : List PV → List PV → Prop
  | nil : F2 r [] []
  | cons {x y : PV} {xs ys : List PV} : r x y → F2 r xs ys → F2 r (x :: xs) (y :: ys)
theorem lcG {C : Nat → List PV → Sto → MP.R PV} {k : Nat} {e : E} {σ : MP.Env} {ns : List Int} {tl : List Cell} {g : Sto → Bool} {r : PV → PV → Prop} (hg : ∀ u i w acc, g (G ns u i w (tl ++ [.lst acc])) = true) :
    ∀ (xs acc : List PV) (u i w : Int), 0 ≤ u → 0 ≤ i → acc.length + xs.length < 1000 →
    (∀ x ∈ xs, ∀ acc u i w, 0 ≤ u → 0 ≤ i → ∃ y u' i' w', ev C e ((σ.set k none).set k (some x)) (G ns u i w (tl ++ [.lst acc])) = .ok y (G ns u' i' w' (tl ++ [.lst acc])) ∧ r x y ∧ 0 ≤ u' ∧ 0 ≤ i') →
    ∃ ys u' i' w', lcLoop (3 + tl.length) g (fun x => bindT (.name k) x (wipe σ [k])) (evc C .none) (ev C e) xs (G ns u i w (tl ++ [.lst acc])) = .ok () (G ns u' i' w' (tl ++ [.lst (acc ++ ys)])) ∧ F2 r xs ys ∧ 0 ≤ u' ∧ 0 ≤ i'
  | [], acc, u, i, w, hu, hi, _, _ => ⟨[], u, i, w, by
    unfold lcLoop
    rw [hg, if_pos rfl, List.append_nil], .nil, hu, hi⟩
  | x :: xs, acc, u, i, w, hu, hi, hl, st => by
    obtain ⟨y, u1, i1, w1, e1, h1, p1, p2⟩ := st x (List.mem_cons_self ..) acc u i w hu hi
    have hl' : acc.length + (xs.length + 1) < 1000 := hl
    obtain ⟨ys, u2, i2, w2, e2, h2, p3, p4⟩ := lcG hg xs (acc ++ [y]) u1 i1 w1 p1 p2 (by rw [List.length_append]; show acc.length + 1 + xs.length < 1000; omega) fun z hz => st z (List.mem_cons_of_mem _ hz)
    refine ⟨y :: ys, u2, i2, w2, ?_, .cons h1 h2, p3, p4⟩
    have at' : (G ns u1 i1 w1 (tl ++ [.lst acc])).cells[3 + tl.length]? = some (.lst acc) := by
      unfold G
      have q : 3 + tl.length = tl.length + 1 + 1 + 1 := by omega
      simp [q]
    have set' : (⟨(G ns u1 i1 w1 (tl ++ [.lst acc])).cells.set (3 + tl.length) (.lst (acc ++ [y])), (G ns u1 i1 w1 (tl ++ [.lst acc])).dirty⟩ : Sto) = G ns u1 i1 w1 (tl ++ [.lst (acc ++ [y])]) := by
      unfold G
      have q : 3 + tl.length = tl.length + 1 + 1 + 1 := by omega
      simp [q]
    have ec : ∀ σ S, evc C .none σ S = .ok true S := fun σ S => by rw [evc]
    unfold lcLoop
    rw [hg, if_pos rfl]
    simp only [bindT, wipe, ec, bd_ok, e1, at']
    simp only [bindT, wipe] at e2
    rw [if_pos (by unfold lenMax; omega), set', e2, List.append_assoc]
    rfl
theorem ev_lcG {C : Nat → List PV → Sto → MP.R PV} {k : Nat} {it : It} {e : E} {σ : MP.Env} {ns : List Int} {tl : List Cell} {r : PV → PV → Prop} {xs : List PV} {gs : List (Nat × List PV)} {u i w : Int} (hu : 0 ≤ u) (hi : 0 ≤ i) (h : evi C it σ (G ns u i w tl) = .ok (xs, gs) (G ns u i w tl)) (hg : ∀ u i w acc, stands (G ns u i w (tl ++ [.lst acc])) gs = true) (hl : xs.length < 1000)
    (st : ∀ x ∈ xs, ∀ acc u i w, 0 ≤ u → 0 ≤ i → ∃ y u' i' w', ev C e ((σ.set k none).set k (some x)) (G ns u i w (tl ++ [.lst acc])) = .ok y (G ns u' i' w' (tl ++ [.lst acc])) ∧ r x y ∧ 0 ≤ u' ∧ 0 ≤ i') :
    ∃ ys u' i' w', ev C (.lc (.name k) [k] it .none e) σ (G ns u i w tl) = .ok (.ref (3 + tl.length)) (G ns u' i' w' (tl ++ [.lst ys])) ∧ F2 r xs ys ∧ 0 ≤ u' ∧ 0 ≤ i' := by
  obtain ⟨ys, u', i', w', e1, h1, p1, p2⟩ := lcG (C := C) (k := k) (e := e) (σ := σ) (r := r) (g := fun S => stands S gs) hg xs [] u i w hu hi (by simpa using hl) st
  refine ⟨ys, u', i', w', ?_, h1, p1, p2⟩
  rw [ev, h]
  simp only [bd_ok, pu, ln]
  rw [e1]
  simp only [bd_ok]
  rfl
theorem sl1 {C : Nat → List PV → Sto → MP.R PV} {σ : MP.Env} {S : Sto} {k r : Nat} {a b c d : PV} (h : σ[k]? = some (some (.ref r))) (hl : S.lst? r = some [a, b, c, d]) : ev C (.slc (.var k) .none (.some (.cst (.int 2)))) σ S = .ok (.ref S.len) (S.push (.lst [a, b])) := by
  rw [ev, ev, h]
  simp only [bd_ok, evo, ev, slR, hl]
  rfl
theorem sl2 {C : Nat → List PV → Sto → MP.R PV} {σ : MP.Env} {S : Sto} {k r : Nat} {a b c d : PV} (h : σ[k]? = some (some (.ref r))) (hl : S.lst? r = some [a, b, c, d]) : ev C (.slc (.var k) (.some (.cst (.int 2))) .none) σ S = .ok (.ref S.len) (S.push (.lst [c, d])) := by
  rw [ev, ev, h]
  simp only [bd_ok, evo, ev, slR, hl]
  rfl
theorem atG {ns : List Int} {a i c : Int} {tl : List Cell} {j : Nat} {xs : List PV} (h : tl[j]? = some (.lst xs)) : (G ns a i c tl).lst? (3 + j) = some xs := by
  unfold Sto.lst? G
  have q : 3 + j = j + 1 + 1 + 1 := by omega
  simp only [q, List.getElem?_cons_succ, h]
/-- three arguments: a tree, the halves of a list -/
theorem args3 {C : Nat → List PV → Sto → MP.R PV} {σ : MP.Env} {ns : List Int} {u i w : Int} {tl : List Cell} {j k r : Nat} {t a b c d : PV} {rest : Es} (ht : σ[j]? = some (some t)) (h : σ[k]? = some (some (.ref (3 + r)))) (hl : tl[r]? = some (.lst [a, b, c, d])) :
    evs C (.cons (.var j) (.cons (.slc (.var k) .none (.some (.cst (.int 2)))) (.cons (.slc (.var k) (.some (.cst (.int 2))) .none) rest))) σ (G ns u i w tl) = (evs C rest σ (G ns u i w (tl ++ [.lst [a, b]] ++ [.lst [c, d]]))).bd fun vs S' => .ok (t :: .ref (3 + tl.length) :: .ref (3 + (tl.length + 1)) :: vs) S' := by
  have hr : r < tl.length := (List.getElem?_eq_some_iff.mp hl).1
  have hl2 : (tl ++ [Cell.lst [a, b]])[r]? = some (.lst [a, b, c, d]) := by rw [List.getElem?_append_left hr]; exact hl
  rw [evs, ev, ht]
  simp only [bd_ok, evs]
  rw [sl1 h (atG hl)]
  simp only [bd_ok, pu, ln]
  rw [sl2 h (atG hl2)]
  simp only [bd_ok, pu, ln, List.length_append, List.length_cons, List.length_nil]
  cases evs C rest σ (G ns u i w (tl ++ [Cell.lst [a, b]] ++ [Cell.lst [c, d]])) <;> rfl
theorem lsA {ns : List Int} {u i w : Int} {tl : List Cell} {xs ys : List PV} : (G ns u i w (tl ++ [.lst xs] ++ [.lst ys])).lst? (3 + tl.length) = some xs := atG (by simp)
theorem lsB {ns : List Int} {u i w : Int} {tl : List Cell} {xs ys : List PV} : (G ns u i w (tl ++ [.lst xs] ++ [.lst ys])).lst? (3 + (tl.length + 1)) = some ys := atG (by simp)
theorem rg_den {n : Nat} {X : Nat → Rat × Rat} {t : Tr} {R : Rat × Rat} (h : rg n X t = some R) : ((R.1.den : Int) ∣ 2 ^ n) ∧ ((R.2.den : Int) ∣ 2 ^ n) := by
  cases t with
  | num q => cases h; exact ⟨flo_den _ _, cei_den _ _⟩
  | st i => cases h; exact ⟨flo_den _ _, cei_den _ _⟩
  | cn i => cases h; exact ⟨flo_den _ _, cei_den _ _⟩
  | pw t m =>
    unfold rg at h
    cases e : rg n X t with
    | none => rw [e] at h; cases h
    | some q => rw [e] at h; cases h; exact ⟨flo_den _ _, cei_den _ _⟩
  | bin o a b =>
    unfold rg at h
    cases e : rg n X a with
    | none => rw [e] at h; cases h
    | some q =>
      cases e2 : rg n X b with
      | none => rw [e, e2] at h; cases h
      | some r =>
        rw [e, e2] at h
        cases o with
        | add => cases h; exact ⟨flo_den _ _, cei_den _ _⟩
        | sub => cases h; exact ⟨flo_den _ _, cei_den _ _⟩
        | mul => cases h; exact ⟨flo_den _ _, cei_den _ _⟩
        | div =>
          have h : (if r.1 ≤ 0 ∧ 0 ≤ r.2 then none else some (flo (dlo q.1 q.2 r.1 r.2) n, cei (dhi q.1 q.2 r.1 r.2) n)) = some R := h
          split at h
          · cases h
          · cases h; exact ⟨flo_den _ _, cei_den _ _⟩
theorem eqV_non {S : Sto} : eqV S .non .non = some true := rfl
theorem eqV_oiv {S : Sto} {o : Option (Rat × Rat)} : eqV S (oiv o) (oiv o) = some true := by
  cases o with
  | none => rfl
  | some p =>
    show eqV S (iv p.1 p.2) (iv p.1 p.2) = _
    rw [eqV_iv]
    simp
end K16
end
section
set_option Elab.async false
set_option linter.all false
set_option maxRecDepth 100000
set_option maxHeartbeats 1000000
namespace K16
open PySem MP
theorem F2.four {r : PV → PV → Prop} {x0 x1 x2 x3 : PV} {ys : List PV} (h : F2 r [x0, x1, x2, x3] ys) : ∃ y0 y1 y2 y3, ys = [y0, y1, y2, y3] ∧ r x0 y0 ∧ r x1 y1 ∧ r x2 y2 ∧ r x3 y3 := by
  cases h with
  | cons h0 h => cases h with
    | cons h1 h => cases h with
      | cons h2 h => cases h with
        | cons h3 h => cases h with
          | nil => exact ⟨_, _, _, _, rfl, h0, h1, h2, h3⟩
def pick {α : Type} (a b c d : α) : Nat → α
  | 0 => a
  | 1 => b
  | 2 => c
  | _ => d
theorem pick_all {α : Type} {P : Nat → α → Prop} {a b c d : α} (h0 : P 0 a) (h1 : P 1 b) (h2 : P 2 c) (h3 : P 3 d) : ∀ i, i < 4 → P i (pick a b c d i)
  | 0, _ => h0
  | 1, _ => h1
  | 2, _ => h2
  | 3, _ => h3
abbrev env (tree sides k bits told scale turn place a side parts : Option PV) : MP.Env := [some (.ref 0), some (.ref 2), tree, sides, k, bits, told, scale, turn, place, a, side, parts]
/-- a side, as the law draws it -/
def isSide (y : PV) : Prop := ∃ a b, y = iv a b ∧ a ≤ b ∧ szq 11 a ∧ szq 11 b
def between (x y : PV) : Prop := ∀ a b, x = iv a b → ∃ q, y = fr q ∧ a ≤ q ∧ q ≤ b ∧ szq 57 q
def part (x y : PV) : Prop := ∀ a b, x = iv a b → ∃ c e, y = iv c e ∧ a ≤ c ∧ c ≤ e ∧ e ≤ b ∧ szq 57 c ∧ szq 57 e
theorem iv_inj {a b c e : Rat} (h : iv a b = iv c e) : a = c ∧ b = e := by
  unfold iv at h
  injection h with h
  injection h with h1 h2
  injection h2 with h2
  have f : ∀ x y : Rat, fr x = fr y → x = y := fun x y z => by
    unfold fr pr at z
    injection z with z
    injection z with z1 z2
    injection z1 with z1
    injection z2 with z2
    injection z2 with z2
    exact Rat.ext z1 (by omega)
  exact ⟨f _ _ h1, f _ _ h2⟩
theorem main {d : Nat} (ns : List Int) : ∃ S', callN F (d + 20) n_law [.ref 0] ⟨[.ro (ns.map .int)], false⟩ = .ok (.bl true) S' := by
  have fin1 : (∃ S', xss (callN F (d + 19)) 1 b_law [some (.ref 0), none, none, none, none, none, none, none, none, none, none, none, none] ⟨[.ro (ns.map .int)], false⟩ = .ret (.bl true) S') → ∃ S', callN F (d + 20) n_law [.ref 0] ⟨[.ro (ns.map .int)], false⟩ = .ok (.bl true) S' := fun ⟨S', h⟩ => by
    rw [callN_of (fd := ⟨1, 13, b_law⟩) rfl rfl]
    exact run_main h
  apply fin1
  unfold b_law
  have e1 := c_state (d := d + 18) (ns := ns)
  refine xss_ret (σ' := env none none none none none none none none none none none) (S' := G ns 0 0 (1 + (ns.length : Int)) []) (by simp [bd_ok, bd_exc, st_ok, st_exc, xss_cons, xss_nil, seq_next, seq_ret, seq_brk, seq_cont, seq_exc, eqV_int, xst, ev, evT, evs, evo, evc, evi, opR, opV, opt, cmV, cmI, ixV, itemAt, MP.placeOf, biR, bindT, bindTs, unslot, hold, unhold, truV, isTy, isV, e1]) ?_
  obtain ⟨r, u1, i1, w1, e2, p1, p2, p3, p4⟩ := c_draw (d := d + 16) (ns := ns) (a := 0) (i := 0) (c := 1 + (ns.length : Int)) (m := 3) (tl := []) (by decide) (by decide) (by decide) (by unfold sz; decide)
  obtain ⟨m, rfl⟩ := Int.eq_ofNat_of_zero_le p1
  obtain ⟨t, u2, i2, w2, e3, ok, hh, p5, p6⟩ := l_tree (ns := ns) (1 + m) (d + 19) u1 i1 w1 [] (by omega) p3 p4
  have cm : ((1 + m : Nat) : Int) = 1 + (m : Int) := by omega
  rw [cm] at e3
  refine xss_ret (σ' := env (some t.tv) none none none none none none none none none none) (S' := G ns u2 i2 w2 []) (by simp [bd_ok, bd_exc, st_ok, st_exc, xss_cons, xss_nil, seq_next, seq_ret, seq_brk, seq_cont, seq_exc, eqV_int, xst, ev, evT, evs, evo, evc, evi, opR, opV, opt, cmV, cmI, ixV, itemAt, MP.placeOf, biR, bindT, bindTs, unslot, hold, unhold, truV, isTy, isV, e2, e3]) ?_
  -- the sides
  obtain ⟨ys, u3, i3, w3, e4, h4, p7, p8⟩ := ev_lcG (C := callN F (d + 19)) (k := 4) (it := .rng1 (.cst (.int 4))) (e := .call n__law_side (.cons (.var 1) .nil)) (σ := env (some t.tv) none none none none none none none none none none) (ns := ns) (tl := []) (r := fun _ y => isSide y) (xs := [.int 0, .int 1, .int 2, .int 3]) (gs := []) (w := w2) p5 p6 (by
    have sm : small 4 = true := by decide
    simp [bd_ok, bd_exc, st_ok, st_exc, xss_cons, xss_nil, seq_next, seq_ret, seq_brk, seq_cont, seq_exc, eqV_int, xst, ev, evT, evs, evo, evc, evi, opR, opV, opt, cmV, cmI, ixV, itemAt, MP.placeOf, biR, bindT, bindTs, unslot, hold, unhold, truV, isTy, isV, sm]
    rfl) (fun _ _ _ _ => rfl) (by decide) (fun x _ acc u i w hu hi => by
    obtain ⟨a, b, u', i', w', e, o, s1, s2, q1, q2⟩ := l_side (d := d + 14) (ns := ns) (w := w) (tl := [] ++ [.lst acc]) hu hi
    exact ⟨_, u', i', w', by simp [bd_ok, bd_exc, st_ok, st_exc, xss_cons, xss_nil, seq_next, seq_ret, seq_brk, seq_cont, seq_exc, eqV_int, xst, ev, evT, evs, evo, evc, evi, opR, opV, opt, cmV, cmI, ixV, itemAt, MP.placeOf, biR, bindT, bindTs, unslot, hold, unhold, truV, isTy, isV]; exact e, ⟨a, b, rfl, o, s1, s2⟩, q1, q2⟩)
  obtain ⟨y0, y1, y2, y3, rfl, ⟨a0, b0, rfl, o0, s0, s0'⟩, ⟨a1, b1, rfl, o1, s1, s1'⟩, ⟨a2, b2, rfl, o2, s2, s2'⟩, ⟨a3, b3, rfl, o3, s3, s3'⟩⟩ := h4.four
  let X : Nat → Rat × Rat := pick (a0, b0) (a1, b1) (a2, b2) (a3, b3)
  have hX : Xok X := ⟨pick_all (P := fun _ (p : Rat × Rat) => p.1 ≤ p.2) o0 o1 o2 o3, pick_all (P := fun _ (p : Rat × Rat) => szq 57 p.1 ∧ szq 57 p.2) ⟨s0.mono (by decide), s0'.mono (by decide)⟩ ⟨s1.mono (by decide), s1'.mono (by decide)⟩ ⟨s2.mono (by decide), s2'.mono (by decide)⟩ ⟨s3.mono (by decide), s3'.mono (by decide)⟩⟩
  refine xss_ret (σ' := env (some t.tv) (some (.ref 3)) none none none none none none none none none) (S' := G ns u3 i3 w3 [.lst [iv a0 b0, iv a1 b1, iv a2 b2, iv a3 b3]]) (by rw [xst, e4]; simp [st_ok, bindT]) ?_
  -- the bits
  obtain ⟨r, u4, i4, w4, e5, q1, q2, q3, q4⟩ := c_draw (d := d + 16) (ns := ns) (c := w3) (m := 37) (tl := [.lst [iv a0 b0, iv a1 b1, iv a2 b2, iv a3 b3]]) p7 p8 (by decide) (by unfold sz; decide)
  obtain ⟨n, hn⟩ : ∃ n : Nat, 4 + r = (n : Int) := ⟨(4 + r).toNat, by omega⟩
  have hn50 : n < 50 := by omega
  refine xss_ret (σ' := env (some t.tv) (some (.ref 3)) none (some (.int n)) none none none none none none none) (S' := G ns u4 i4 w4 [.lst [iv a0 b0, iv a1 b1, iv a2 b2, iv a3 b3]]) (by simp [bd_ok, bd_exc, st_ok, st_exc, xss_cons, xss_nil, seq_next, seq_ret, seq_brk, seq_cont, seq_exc, eqV_int, xst, ev, evT, evs, evo, evc, evi, opR, opV, opt, cmV, cmI, ixV, itemAt, MP.placeOf, biR, bindT, bindTs, unslot, hold, unhold, truV, isTy, isV, e5, hn]) ?_
  -- told
  have h3 : t.ht ≤ 3 := by omega
  have ax : ∀ (σ : MP.Env) (u i w : Int) (rest : List Cell) (es : Es), σ[2]? = some (some t.tv) → σ[3]? = some (some (.ref 3)) → evs (callN F (d + 19)) (.cons (.var 2) (.cons (.slc (.var 3) .none (.some (.cst (.int 2)))) (.cons (.slc (.var 3) (.some (.cst (.int 2))) .none) es))) σ (G ns u i w (.lst [iv a0 b0, iv a1 b1, iv a2 b2, iv a3 b3] :: rest)) = _ := fun σ u i w rest es h1 h2 => args3 (r := 0) h1 h2 rfl
  have tA : ∀ (u i w : Int) (tl : List Cell), callN F (d + 19) n__law_told [t.tv, .ref (3 + tl.length), .ref (3 + (tl.length + 1)), .int n] (G ns u i w (tl ++ [.lst [iv a0 b0, iv a1 b1]] ++ [.lst [iv a2 b2, iv a3 b3]])) = .ok (oiv (rg n X t)) (G ns u i w (tl ++ [.lst [iv a0 b0, iv a1 b1]] ++ [.lst [iv a2 b2, iv a3 b3]])) := fun u i w tl => c_told hX hn50 ok h3 (by omega) lsA lsB
  have tB : ∀ (u i w : Int) (tl : List Cell), callN F (d + 19) n__law_range [t.tv, .ref (3 + tl.length), .ref (3 + (tl.length + 1)), .int n] (G ns u i w (tl ++ [.lst [iv a0 b0, iv a1 b1]] ++ [.lst [iv a2 b2, iv a3 b3]])) = .ok (oiv (rg n X t)) (G ns u i w (tl ++ [.lst [iv a0 b0, iv a1 b1]] ++ [.lst [iv a2 b2, iv a3 b3]])) := fun u i w tl => c_lrange hX hn50 t (d + 19) _ ok h3 (by omega) lsA lsB
  have st5 : xst (callN F (d + 19)) 1 (.asg (.of (.name 6)) (.call n__law_told (.cons (.var 2) (.cons (.slc (.var 3) .none (.some (.cst (.int 2)))) (.cons (.slc (.var 3) (.some (.cst (.int 2))) .none) (.cons (.var 5) .nil)))))) (env (some t.tv) (some (.ref 3)) none (some (.int n)) none none none none none none none) (G ns u4 i4 w4 [.lst [iv a0 b0, iv a1 b1, iv a2 b2, iv a3 b3]]) = .next (env (some t.tv) (some (.ref 3)) none (some (.int n)) (some (oiv (rg n X t))) none none none none none none) (G ns u4 i4 w4 ([.lst [iv a0 b0, iv a1 b1, iv a2 b2, iv a3 b3]] ++ [.lst [iv a0 b0, iv a1 b1]] ++ [.lst [iv a2 b2, iv a3 b3]])) := by
    rw [xst, ev, ax _ _ _ _ _ _ rfl rfl]
    have w := tA u4 i4 w4 [.lst [iv a0 b0, iv a1 b1, iv a2 b2, iv a3 b3]]
    simp only [evs, ev, env, List.getElem?_cons_zero, List.getElem?_cons_succ, bd_ok, st_ok, bindT, w]
    rfl
  refine xss_ret st5 ?_
  have st6 : xst (callN F (d + 19)) 1 (.ifs (.cmp .ne (.var 6) (.call n__law_range (.cons (.var 2) (.cons (.slc (.var 3) .none (.some (.cst (.int 2)))) (.cons (.slc (.var 3) (.some (.cst (.int 2))) .none) (.cons (.var 5) .nil)))))) (.cons (.ret (.cst (.bl false))) .nil) .nil) (env (some t.tv) (some (.ref 3)) none (some (.int n)) (some (oiv (rg n X t))) none none none none none none) (G ns u4 i4 w4 ([.lst [iv a0 b0, iv a1 b1, iv a2 b2, iv a3 b3]] ++ [.lst [iv a0 b0, iv a1 b1]] ++ [.lst [iv a2 b2, iv a3 b3]])) = .next (env (some t.tv) (some (.ref 3)) none (some (.int n)) (some (oiv (rg n X t))) none none none none none none) (G ns u4 i4 w4 (([.lst [iv a0 b0, iv a1 b1, iv a2 b2, iv a3 b3]] ++ [.lst [iv a0 b0, iv a1 b1]] ++ [.lst [iv a2 b2, iv a3 b3]]) ++ [.lst [iv a0 b0, iv a1 b1]] ++ [.lst [iv a2 b2, iv a3 b3]])) := by
    have w := tB u4 i4 w4 ([.lst [iv a0 b0, iv a1 b1, iv a2 b2, iv a3 b3]] ++ [.lst [iv a0 b0, iv a1 b1]] ++ [.lst [iv a2 b2, iv a3 b3]])
    have cl : ev (callN F (d + 19)) (.call n__law_range (.cons (.var 2) (.cons (.slc (.var 3) .none (.some (.cst (.int 2)))) (.cons (.slc (.var 3) (.some (.cst (.int 2))) .none) (.cons (.var 5) .nil))))) (env (some t.tv) (some (.ref 3)) none (some (.int n)) (some (oiv (rg n X t))) none none none none none none) (G ns u4 i4 w4 ([.lst [iv a0 b0, iv a1 b1, iv a2 b2, iv a3 b3]] ++ [.lst [iv a0 b0, iv a1 b1]] ++ [.lst [iv a2 b2, iv a3 b3]])) = .ok (oiv (rg n X t)) (G ns u4 i4 w4 (([.lst [iv a0 b0, iv a1 b1, iv a2 b2, iv a3 b3]] ++ [.lst [iv a0 b0, iv a1 b1]] ++ [.lst [iv a2 b2, iv a3 b3]]) ++ [.lst [iv a0 b0, iv a1 b1]] ++ [.lst [iv a2 b2, iv a3 b3]])) := by
      rw [ev]
      have z := ax (env (some t.tv) (some (.ref 3)) none (some (.int n)) (some (oiv (rg n X t))) none none none none none none) u4 i4 w4 ([.lst [iv a0 b0, iv a1 b1]] ++ [.lst [iv a2 b2, iv a3 b3]]) (.cons (.var 5) .nil) rfl rfl
      refine (congrArg (fun r => MP.R.bd r _) z).trans ?_
      simp only [evs, ev, env, List.getElem?_cons_zero, List.getElem?_cons_succ, bd_ok]
      exact w
    rw [xst, evT, ev]
    simp only [env, List.getElem?_cons_zero, List.getElem?_cons_succ, bd_ok]
    simp only [env] at cl
    rw [cl]
    simp only [bd_ok, cmV, eqV_oiv, Option.map, Bool.not_true, opt, st_ok, xss_nil]
  refine xss_ret st6 ?_
  generalize hrest : ([.lst [iv a0 b0, iv a1 b1]] ++ [.lst [iv a2 b2, iv a3 b3]] ++ [.lst [iv a0 b0, iv a1 b1]] ++ [.lst [iv a2 b2, iv a3 b3]] : List Cell) = rest
  have tlE : ((([.lst [iv a0 b0, iv a1 b1, iv a2 b2, iv a3 b3]] ++ [.lst [iv a0 b0, iv a1 b1]] ++ [.lst [iv a2 b2, iv a3 b3]]) ++ [.lst [iv a0 b0, iv a1 b1]] ++ [.lst [iv a2 b2, iv a3 b3]] : List Cell)) = .lst [iv a0 b0, iv a1 b1, iv a2 b2, iv a3 b3] :: rest := by rw [← hrest]; rfl
  rw [tlE]
  cases hR : rg n X t with
  | none =>
    refine ⟨G ns u4 i4 w4 (.lst [iv a0 b0, iv a1 b1, iv a2 b2, iv a3 b3] :: rest), ?_⟩
    simp [bd_ok, bd_exc, st_ok, st_exc, xss_cons, xss_nil, seq_next, seq_ret, seq_brk, seq_cont, seq_exc, eqV_int, xst, ev, evT, evs, evo, evc, evi, opR, opV, opt, cmV, cmI, ixV, itemAt, MP.placeOf, biR, bindT, bindTs, unslot, hold, unhold, truV, isTy, isV, oiv]
  | some R =>
    show ∃ S2, xss (callN F (d + 19)) 1 _ (env (some t.tv) (some (.ref 3)) none (some (.int n)) (some (iv R.1 R.2)) none none none none none none) _ = .ret (.bl true) S2
    obtain ⟨oR, zR1, zR2⟩ := rg_ok hX hn50 t R ok hR
    refine xss_same (by simp [bd_ok, bd_exc, st_ok, st_exc, xss_cons, xss_nil, seq_next, seq_ret, seq_brk, seq_cont, seq_exc, eqV_int, xst, ev, evT, evs, evo, evc, evi, opR, opV, opt, cmV, cmI, ixV, itemAt, MP.placeOf, biR, bindT, bindTs, unslot, hold, unhold, truV, isTy, isV]) ?_
    refine xss_ret (σ' := env (some t.tv) (some (.ref 3)) none (some (.int n)) (some (iv R.1 R.2)) (some (.int 1)) none none none none none) (S' := G ns u4 i4 w4 (.lst [iv a0 b0, iv a1 b1, iv a2 b2, iv a3 b3] :: rest)) (by simp [bd_ok, bd_exc, st_ok, st_exc, xss_cons, xss_nil, seq_next, seq_ret, seq_brk, seq_cont, seq_exc, eqV_int, xst, ev, evT, evs, evo, evc, evi, opR, opV, opt, cmV, cmI, ixV, itemAt, MP.placeOf, biR, bindT, bindTs, unslot, hold, unhold, truV, isTy, isV]) ?_
    obtain ⟨σ', S', lp, y, rfl, rfl⟩ := for_rng (C := callN F (d + 19)) (b := 1) (t := .name 4) (e := .var 5) (p := .cons (.asg (.of (.name 7)) (.bin .mul (.var 7) (.cst (.int 2)))) .nil) (n := n)
      (P := fun i σ S' => ∃ y, σ = env (some t.tv) (some (.ref 3)) y (some (.int n)) (some (iv R.1 R.2)) (some (.int (2 ^ i))) none none none none none ∧ S' = G ns u4 i4 w4 (.lst [iv a0 b0, iv a1 b1, iv a2 b2, iv a3 b3] :: rest))
      (σ := env (some t.tv) (some (.ref 3)) none (some (.int n)) (some (iv R.1 R.2)) (some (.int 1)) none none none none none) (S := G ns u4 i4 w4 (.lst [iv a0 b0, iv a1 b1, iv a2 b2, iv a3 b3] :: rest)) (by simp [bd_ok, bd_exc, st_ok, st_exc, xss_cons, xss_nil, seq_next, seq_ret, seq_brk, seq_cont, seq_exc, eqV_int, xst, ev, evT, evs, evo, evc, evi, opR, opV, opt, cmV, cmI, ixV, itemAt, MP.placeOf, biR, bindT, bindTs, unslot, hold, unhold, truV, isTy, isV]) (by omega) ⟨none, by simp, rfl⟩ (fun j σ S' hj ⟨y, h1, h2⟩ => by
        subst h1; subst h2
        have m2 : mulOk (2 ^ j) 2 = true := mulOk_r (by unfold sz; decide)
        refine ⟨_, env (some t.tv) (some (.ref 3)) (some (.int j)) (some (.int n)) (some (iv R.1 R.2)) (some (.int (2 ^ j * 2))) none none none none none, G ns u4 i4 w4 (.lst [iv a0 b0, iv a1 b1, iv a2 b2, iv a3 b3] :: rest), rfl, by simp [bd_ok, bd_exc, st_ok, st_exc, xss_cons, xss_nil, seq_next, seq_ret, seq_brk, seq_cont, seq_exc, eqV_int, xst, ev, evT, evs, evo, evc, evi, opR, opV, opt, cmV, cmI, ixV, itemAt, MP.placeOf, biR, bindT, bindTs, unslot, hold, unhold, truV, isTy, isV, m2], some (.int j), ?_, rfl⟩
        rw [Int.pow_succ])
    refine xss_ret lp ?_
    obtain ⟨dv1, dv2⟩ := rg_den hR
    have md : ∀ x : Int, 0 < x → x ∣ 2 ^ n → ((2 : Int) ^ n).fmod x = 0 := fun x hx hd => by
      rw [Int.fmod_eq_emod_of_nonneg _ (by omega)]
      exact Int.emod_eq_zero_of_dvd hd
    have md1 := md _ (den_gt R.1) dv1
    have md2 := md _ (den_gt R.2) dv2
    have st10 : xst (callN F (d + 19)) 1 (.ifs (.or (.cmp .ne (.bin .mod (.bi .int (.cons (.var 7) .nil)) (.ix (.ix (.var 6) (.cst (.int 0))) (.cst (.int 1)))) (.cst (.int 0))) (.cmp .ne (.bin .mod (.bi .int (.cons (.var 7) .nil)) (.ix (.ix (.var 6) (.cst (.int 1))) (.cst (.int 1)))) (.cst (.int 0)))) (.cons (.ret (.cst (.bl false))) .nil) .nil) (env (some t.tv) (some (.ref 3)) y (some (.int n)) (some (iv R.1 R.2)) (some (.int (2 ^ n))) none none none none none) (G ns u4 i4 w4 (.lst [iv a0 b0, iv a1 b1, iv a2 b2, iv a3 b3] :: rest)) = .next (env (some t.tv) (some (.ref 3)) y (some (.int n)) (some (iv R.1 R.2)) (some (.int (2 ^ n))) none none none none none) (G ns u4 i4 w4 (.lst [iv a0 b0, iv a1 b1, iv a2 b2, iv a3 b3] :: rest)) := by
      have f1 : ∀ x : Rat, fr x = .tup [.int x.num, .int x.den] := fun _ => rfl
      have dz1 : ¬ (R.1.den : Int) = 0 := den_ne R.1
      have dz2 : ¬ (R.2.den : Int) = 0 := den_ne R.2
      simp [bd_ok, bd_exc, st_ok, st_exc, xss_cons, xss_nil, seq_next, seq_ret, seq_brk, seq_cont, seq_exc, eqV_int, xst, ev, evT, evs, evo, evc, evi, opR, opV, opt, cmV, cmI, ixV, itemAt, MP.placeOf, biR, bindT, bindTs, unslot, hold, unhold, truV, isTy, isV, f1, md1, md2, dz1, dz2, R.1.den_nz, R.2.den_nz]
    refine xss_ret st10 ?_
    have itS : ∀ (σ : MP.Env) (u i w : Int) (rest : List Cell), σ[3]? = some (some (.ref 3)) → evi (callN F (d + 19)) (.seq (.var 3)) σ (G ns u i w (.lst [iv a0 b0, iv a1 b1, iv a2 b2, iv a3 b3] :: rest)) = .ok ([iv a0 b0, iv a1 b1, iv a2 b2, iv a3 b3], [(3, [iv a0 b0, iv a1 b1, iv a2 b2, iv a3 b3])]) (G ns u i w (.lst [iv a0 b0, iv a1 b1, iv a2 b2, iv a3 b3] :: rest)) := fun σ u i w rest h => by
      have l3 : (G ns u i w (.lst [iv a0 b0, iv a1 b1, iv a2 b2, iv a3 b3] :: rest)).lst? 3 = some [iv a0 b0, iv a1 b1, iv a2 b2, iv a3 b3] := rfl
      have e1 : ev (callN F (d + 19)) (.var 3) σ (G ns u i w (.lst [iv a0 b0, iv a1 b1, iv a2 b2, iv a3 b3] :: rest)) = .ok (.ref 3) (G ns u i w (.lst [iv a0 b0, iv a1 b1, iv a2 b2, iv a3 b3] :: rest)) := by
        rw [ev, h]
      rw [evi, e1]
      rfl
    have stS : ∀ (rest : List Cell) (u i w : Int) (acc : List PV), stands (G ns u i w ((.lst [iv a0 b0, iv a1 b1, iv a2 b2, iv a3 b3] :: rest) ++ [.lst acc])) [(3, [iv a0 b0, iv a1 b1, iv a2 b2, iv a3 b3])] = true := fun rest u i w acc => by
      have l3 : (G ns u i w ((.lst [iv a0 b0, iv a1 b1, iv a2 b2, iv a3 b3] :: rest) ++ [.lst acc])).lst? 3 = some [iv a0 b0, iv a1 b1, iv a2 b2, iv a3 b3] := rfl
      simp [stands]
      rfl
    have sideP : ∀ (Pr : PV → Prop), (∀ a b, a ≤ b → szq 11 a → szq 11 b → Pr (iv a b)) → ∀ x ∈ [iv a0 b0, iv a1 b1, iv a2 b2, iv a3 b3], Pr x := fun Pr h x hx => by
      simp at hx
      rcases hx with rfl | rfl | rfl | rfl
      · exact h _ _ o0 s0 s0'
      · exact h _ _ o1 s1 s1'
      · exact h _ _ o2 s2 s2'
      · exact h _ _ o3 s3 s3'
    have bd3 : Bd t.ht ≤ 8046 := by
      have z := Bd_mono (h := t.ht) (k := 3) h3
      have e : Bd 3 = 8046 := by decide
      rw [e] at z
      exact z
    obtain ⟨σ', S', lp2, y2, tn, pl, av, sd, u5, i5, w5, rest2, rfl, rfl, g5, g6⟩ := for_rng (C := callN F (d + 19)) (b := 1) (t := .name 8) (e := .cst (.int 3)) (n := 3) (p := .cons (.asg (.of (.name 9)) (.lc (.name 11) [11] (.seq (.var 3)) .none (.call n__law_between (.cons (.var 1) (.cons (.var 11) .nil)))))
        (.cons (.asg (.of (.name 10)) (.call n__law_value (.cons (.var 2) (.cons (.slc (.var 9) .none (.some (.cst (.int 2)))) (.cons (.slc (.var 9) (.some (.cst (.int 2))) .none) .nil)))))
        (.cons (.ifs (.cmp .isn (.var 10) (.cst .non)) (.cons (.ret (.cst (.bl false))) .nil) .nil)
        (.cons (.ifs (.cmp .lt (.ix (.var 10) (.cst (.int 1))) (.cst (.int 0))) (.cons (.asg (.of (.name 10)) (.tup (.cons (.bin .sub (.cst (.int 0)) (.ix (.var 10) (.cst (.int 0)))) (.cons (.bin .sub (.cst (.int 0)) (.ix (.var 10) (.cst (.int 1)))) .nil)))) .nil) .nil)
        (.cons (.ifs (.not (.call n__law_held (.cons (.var 6) (.cons (.var 10) .nil)))) (.cons (.ret (.cst (.bl false))) .nil) .nil) .nil)))))
      (P := fun j σ S' => ∃ y tn pl av sd u i w rest', σ = env (some t.tv) (some (.ref 3)) y (some (.int n)) (some (iv R.1 R.2)) (some (.int (2 ^ n))) tn pl av sd none ∧ S' = G ns u i w (.lst [iv a0 b0, iv a1 b1, iv a2 b2, iv a3 b3] :: rest') ∧ 0 ≤ u ∧ 0 ≤ i)
      (σ := env (some t.tv) (some (.ref 3)) y (some (.int n)) (some (iv R.1 R.2)) (some (.int (2 ^ n))) none none none none none) (S := G ns u4 i4 w4 (.lst [iv a0 b0, iv a1 b1, iv a2 b2, iv a3 b3] :: rest)) (by simp [bd_ok, bd_exc, st_ok, st_exc, xss_cons, xss_nil, seq_next, seq_ret, seq_brk, seq_cont, seq_exc, eqV_int, xst, ev, evT, evs, evo, evc, evi, opR, opV, opt, cmV, cmI, ixV, itemAt, MP.placeOf, biR, bindT, bindTs, unslot, hold, unhold, truV, isTy, isV]) (by decide) ⟨y, none, none, none, none, u4, i4, w4, rest, rfl, rfl, q3, q4⟩ (fun j σ S' hj ⟨y, tn, pl, av, sd, u, i, w, rest', h1, h2, hu, hi⟩ => by
        subst h1; subst h2
        obtain ⟨ys, u6, i6, w6, e6, h6, r5, r6⟩ := ev_lcG (C := callN F (d + 19)) (k := 11) (it := .seq (.var 3)) (e := .call n__law_between (.cons (.var 1) (.cons (.var 11) .nil))) (σ := env (some t.tv) (some (.ref 3)) y (some (.int n)) (some (iv R.1 R.2)) (some (.int (2 ^ n))) (some (.int j)) pl av sd none) (ns := ns) (tl := .lst [iv a0 b0, iv a1 b1, iv a2 b2, iv a3 b3] :: rest') (r := between) (w := w) hu hi (itS _ _ _ _ _ rfl) (stS rest') (by simp) (sideP _ fun a b o sa sb acc u i w hu hi => by
          obtain ⟨q, u', i', w', e, l1, l2, zq, t1, t2⟩ := l_between (d := d + 15) (ns := ns) (w := w) (tl := (.lst [iv a0 b0, iv a1 b1, iv a2 b2, iv a3 b3] :: rest') ++ [.lst acc]) sa sb o hu hi
          refine ⟨fr q, u', i', w', ?_, fun a' b' hab => ?_, t1, t2⟩
          · simp only [env, List.set_cons_succ, List.set_cons_zero, ev, evs, List.getElem?_cons_succ, List.getElem?_cons_zero, bd_ok]
            exact e
          · obtain ⟨rfl, rfl⟩ := iv_inj hab
            exact ⟨q, rfl, l1, l2, zq⟩)
        obtain ⟨y0, y1, y2, y3, rfl, k0, k1, k2, k3⟩ := h6.four
        obtain ⟨c0, rfl, l0, m0, z0⟩ := k0 _ _ rfl
        obtain ⟨c1, rfl, l1, m1, z1⟩ := k1 _ _ rfl
        obtain ⟨c2, rfl, l2, m2, z2⟩ := k2 _ _ rfl
        obtain ⟨c3, rfl, l3, m3, z3⟩ := k3 _ _ rfl
        let Y : Nat → Rat := pick c0 c1 c2 c3
        have hY : ∀ i, i < 4 → (X i).1 ≤ Y i ∧ Y i ≤ (X i).2 ∧ szq 200 (Y i) := fun i hi => match i, hi with
          | 0, _ => ⟨l0, m0, z0.mono (by decide)⟩
          | 1, _ => ⟨l1, m1, z1.mono (by decide)⟩
          | 2, _ => ⟨l2, m2, z2.mono (by decide)⟩
          | 3, _ => ⟨l3, m3, z3.mono (by decide)⟩
        obtain ⟨v, ev1, nz, vl1, vl2, vs1, vs2⟩ := vl_in hX hn50 hY t R ok hR
        have vs1 := vs1.mono (Vd_le h3)
        have vs2 := vs2.mono (Vd_le h3)
        generalize htl : (Cell.lst [iv a0 b0, iv a1 b1, iv a2 b2, iv a3 b3] :: rest') = tl at *
        have st1 : xst (callN F (d + 19)) 1 (.asg (.of (.name 9)) (.lc (.name 11) [11] (.seq (.var 3)) .none (.call n__law_between (.cons (.var 1) (.cons (.var 11) .nil))))) (env (some t.tv) (some (.ref 3)) y (some (.int n)) (some (iv R.1 R.2)) (some (.int (2 ^ n))) (some (.int j)) pl av sd none) (G ns u i w tl) = .next (env (some t.tv) (some (.ref 3)) y (some (.int n)) (some (iv R.1 R.2)) (some (.int (2 ^ n))) (some (.int j)) (some (.ref (3 + tl.length))) av sd none) (G ns u6 i6 w6 (tl ++ [.lst [fr c0, fr c1, fr c2, fr c3]])) := by
          rw [xst, e6]
          simp [st_ok, bindT]
        have ax2 := args3 (C := callN F (d + 19)) (σ := env (some t.tv) (some (.ref 3)) y (some (.int n)) (some (iv R.1 R.2)) (some (.int (2 ^ n))) (some (.int j)) (some (.ref (3 + tl.length))) av sd none) (ns := ns) (u := u6) (i := i6) (w := w6) (tl := tl ++ [.lst [fr c0, fr c1, fr c2, fr c3]]) (j := 2) (k := 9) (r := tl.length) (t := t.tv) (a := fr c0) (b := fr c1) (c := fr c2) (d := fr c3) (rest := .nil) rfl rfl (by simp)
        have cv := c_value (p := 3 + (tl ++ [Cell.lst [fr c0, fr c1, fr c2, fr c3]]).length) (q := 3 + ((tl ++ [Cell.lst [fr c0, fr c1, fr c2, fr c3]]).length + 1)) hX hn50 hY t R v (d + 19) (G ns u6 i6 w6 (tl ++ [.lst [fr c0, fr c1, fr c2, fr c3]] ++ [.lst [fr c0, fr c1]] ++ [.lst [fr c2, fr c3]])) ok hR ev1 h3 (by omega) lsA lsB
        have st2 : xst (callN F (d + 19)) 1 (.asg (.of (.name 10)) (.call n__law_value (.cons (.var 2) (.cons (.slc (.var 9) .none (.some (.cst (.int 2)))) (.cons (.slc (.var 9) (.some (.cst (.int 2))) .none) .nil))))) (env (some t.tv) (some (.ref 3)) y (some (.int n)) (some (iv R.1 R.2)) (some (.int (2 ^ n))) (some (.int j)) (some (.ref (3 + tl.length))) av sd none) (G ns u6 i6 w6 (tl ++ [.lst [fr c0, fr c1, fr c2, fr c3]])) = .next (env (some t.tv) (some (.ref 3)) y (some (.int n)) (some (iv R.1 R.2)) (some (.int (2 ^ n))) (some (.int j)) (some (.ref (3 + tl.length))) (some (pr v.1 v.2)) sd none) (G ns u6 i6 w6 (tl ++ [.lst [fr c0, fr c1, fr c2, fr c3]] ++ [.lst [fr c0, fr c1]] ++ [.lst [fr c2, fr c3]])) := by
          rw [xst, ev, ax2]
          simp only [evs, bd_ok]
          rw [cv]
          simp [st_ok, bindT]
        have keep : ∃ rest'', tl ++ [.lst [fr c0, fr c1, fr c2, fr c3]] ++ [.lst [fr c0, fr c1]] ++ [.lst [fr c2, fr c3]] = .lst [iv a0 b0, iv a1 b1, iv a2 b2, iv a3 b3] :: rest'' := ⟨rest' ++ [.lst [fr c0, fr c1, fr c2, fr c3]] ++ [.lst [fr c0, fr c1]] ++ [.lst [fr c2, fr c3]], by rw [← htl]; simp⟩
        obtain ⟨rest'', hk⟩ := keep
        rw [hk] at st2
        have fin : ∃ av', xss (callN F (d + 19)) 1 (.cons (.ifs (.cmp .isn (.var 10) (.cst .non)) (.cons (.ret (.cst (.bl false))) .nil) .nil)
            (.cons (.ifs (.cmp .lt (.ix (.var 10) (.cst (.int 1))) (.cst (.int 0))) (.cons (.asg (.of (.name 10)) (.tup (.cons (.bin .sub (.cst (.int 0)) (.ix (.var 10) (.cst (.int 0)))) (.cons (.bin .sub (.cst (.int 0)) (.ix (.var 10) (.cst (.int 1)))) .nil)))) .nil) .nil)
            (.cons (.ifs (.not (.call n__law_held (.cons (.var 6) (.cons (.var 10) .nil)))) (.cons (.ret (.cst (.bl false))) .nil) .nil) .nil))) (env (some t.tv) (some (.ref 3)) y (some (.int n)) (some (iv R.1 R.2)) (some (.int (2 ^ n))) (some (.int j)) (some (.ref (3 + tl.length))) (some (pr v.1 v.2)) sd none) (G ns u6 i6 w6 (.lst [iv a0 b0, iv a1 b1, iv a2 b2, iv a3 b3] :: rest'')) = .next (env (some t.tv) (some (.ref 3)) y (some (.int n)) (some (iv R.1 R.2)) (some (.int (2 ^ n))) (some (.int j)) (some (.ref (3 + tl.length))) (some av') sd none) (G ns u6 i6 w6 (.lst [iv a0 b0, iv a1 b1, iv a2 b2, iv a3 b3] :: rest'')) := by
          by_cases hneg : v.2 < 0
          · have en : Rat.divInt (-v.1) (-v.2) = Rat.divInt v.1 v.2 := (Rat.divInt_eq_divInt_iff (by omega) nz).mpr (by rw [Int.neg_mul, Int.mul_neg])
            have hl := l_held (d := d + 18) (S := G ns u6 i6 w6 (.lst [iv a0 b0, iv a1 b1, iv a2 b2, iv a3 b3] :: rest'')) (t := -v.1) (b := -v.2) (by omega) (by rw [en]; exact vl1) (by rw [en]; exact vl2) (zR1.mono bd3) (zR2.mono bd3) vs1.neg vs2.neg (by decide)
            exact ⟨pr (-v.1) (-v.2), by simp [bd_ok, bd_exc, st_ok, st_exc, xss_cons, xss_nil, seq_next, seq_ret, seq_brk, seq_cont, seq_exc, eqV_int, xst, ev, evT, evs, evo, evc, evi, opR, opV, opt, cmV, cmI, ixV, itemAt, MP.placeOf, biR, bindT, bindTs, unslot, hold, unhold, truV, isTy, isV, hneg, hl]⟩
          · have hl := l_held (d := d + 18) (S := G ns u6 i6 w6 (.lst [iv a0 b0, iv a1 b1, iv a2 b2, iv a3 b3] :: rest'')) (t := v.1) (b := v.2) (by omega) vl1 vl2 (zR1.mono bd3) (zR2.mono bd3) vs1 vs2 (by decide)
            exact ⟨pr v.1 v.2, by simp [bd_ok, bd_exc, st_ok, st_exc, xss_cons, xss_nil, seq_next, seq_ret, seq_brk, seq_cont, seq_exc, eqV_int, xst, ev, evT, evs, evo, evc, evi, opR, opV, opt, cmV, cmI, ixV, itemAt, MP.placeOf, biR, bindT, bindTs, unslot, hold, unhold, truV, isTy, isV, hneg, hl]⟩
        obtain ⟨av', fin⟩ := fin
        refine ⟨env (some t.tv) (some (.ref 3)) y (some (.int n)) (some (iv R.1 R.2)) (some (.int (2 ^ n))) (some (.int j)) pl av sd none, _, _, rfl, (xss_step st1).trans ((xss_step st2).trans fin), y, some (.int j), some (.ref (3 + tl.length)), some av', sd, u6, i6, w6, rest'', rfl, rfl, r5, r6⟩)
    refine xss_ret lp2 ?_
    obtain ⟨ys, u6, i6, w6, e6, h6, r5, r6⟩ := ev_lcG (C := callN F (d + 19)) (k := 11) (it := .seq (.var 3)) (e := .call n__law_part (.cons (.var 1) (.cons (.var 11) .nil))) (σ := env (some t.tv) (some (.ref 3)) y2 (some (.int n)) (some (iv R.1 R.2)) (some (.int (2 ^ n))) tn pl av sd none) (ns := ns) (tl := .lst [iv a0 b0, iv a1 b1, iv a2 b2, iv a3 b3] :: rest2) (r := part) (w := w5) g5 g6 (itS _ _ _ _ _ rfl) (stS rest2) (by simp) (sideP _ fun a b o sa sb acc u i w hu hi => by
      obtain ⟨x, y, u', i', w', e, l1, l2, l3, zx, zy, t1, t2⟩ := l_part (d := d + 14) (ns := ns) (w := w) (tl := (.lst [iv a0 b0, iv a1 b1, iv a2 b2, iv a3 b3] :: rest2) ++ [.lst acc]) sa sb o hu hi
      refine ⟨iv x y, u', i', w', ?_, fun a' b' hab => ?_, t1, t2⟩
      · simp only [env, List.set_cons_succ, List.set_cons_zero, ev, evs, List.getElem?_cons_succ, List.getElem?_cons_zero, bd_ok]
        exact e
      · obtain ⟨rfl, rfl⟩ := iv_inj hab
        exact ⟨x, y, rfl, l1, l2, l3, zx, zy⟩)
    obtain ⟨y0, y1, y2', y3, rfl, k0, k1, k2, k3⟩ := h6.four
    obtain ⟨c0, e0', rfl, l0, m0, n0, z0, x0⟩ := k0 _ _ rfl
    obtain ⟨c1, e1', rfl, l1, m1, n1, z1, x1⟩ := k1 _ _ rfl
    obtain ⟨c2, e2', rfl, l2, m2, n2, z2, x2⟩ := k2 _ _ rfl
    obtain ⟨c3, e3', rfl, l3, m3, n3, z3, x3⟩ := k3 _ _ rfl
    let X' : Nat → Rat × Rat := pick (c0, e0') (c1, e1') (c2, e2') (c3, e3')
    have hX' : Xok X' := ⟨pick_all (P := fun _ (p : Rat × Rat) => p.1 ≤ p.2) m0 m1 m2 m3, pick_all (P := fun _ (p : Rat × Rat) => szq 57 p.1 ∧ szq 57 p.2) ⟨z0, x0⟩ ⟨z1, x1⟩ ⟨z2, x2⟩ ⟨z3, x3⟩⟩
    have hs : ∀ i, i < 4 → (X i).1 ≤ (X' i).1 ∧ (X' i).2 ≤ (X i).2 := fun i hi => match i, hi with
      | 0, _ => ⟨l0, n0⟩
      | 1, _ => ⟨l1, n1⟩
      | 2, _ => ⟨l2, n2⟩
      | 3, _ => ⟨l3, n3⟩
    obtain ⟨R', hR', v1, v2⟩ := rg_sub hn50 hX' hs t R ok hR
    obtain ⟨oR', zR1', zR2'⟩ := rg_ok hX' hn50 t R' ok hR'
    generalize htl : (Cell.lst [iv a0 b0, iv a1 b1, iv a2 b2, iv a3 b3] :: rest2) = tl at *
    have st1 : xst (callN F (d + 19)) 1 (.asg (.of (.name 12)) (.lc (.name 11) [11] (.seq (.var 3)) .none (.call n__law_part (.cons (.var 1) (.cons (.var 11) .nil))))) (env (some t.tv) (some (.ref 3)) y2 (some (.int n)) (some (iv R.1 R.2)) (some (.int (2 ^ n))) tn pl av sd none) (G ns u5 i5 w5 tl) = .next (env (some t.tv) (some (.ref 3)) y2 (some (.int n)) (some (iv R.1 R.2)) (some (.int (2 ^ n))) tn pl av sd (some (.ref (3 + tl.length)))) (G ns u6 i6 w6 (tl ++ [.lst [iv c0 e0', iv c1 e1', iv c2 e2', iv c3 e3']])) := by
      rw [xst, e6]
      simp [st_ok, bindT]
    refine xss_ret st1 ?_
    have ax2 := args3 (C := callN F (d + 19)) (σ := env (some t.tv) (some (.ref 3)) y2 (some (.int n)) (some (iv R.1 R.2)) (some (.int (2 ^ n))) tn pl av sd (some (.ref (3 + tl.length)))) (ns := ns) (u := u6) (i := i6) (w := w6) (tl := tl ++ [.lst [iv c0 e0', iv c1 e1', iv c2 e2', iv c3 e3']]) (j := 2) (k := 12) (r := tl.length) (t := t.tv) (a := iv c0 e0') (b := iv c1 e1') (c := iv c2 e2') (d := iv c3 e3') (rest := .cons (.var 5) .nil) rfl rfl (by simp)
    have tA' := c_told (p := 3 + (tl ++ [Cell.lst [iv c0 e0', iv c1 e1', iv c2 e2', iv c3 e3']]).length) (q := 3 + ((tl ++ [Cell.lst [iv c0 e0', iv c1 e1', iv c2 e2', iv c3 e3']]).length + 1)) (e := d + 19) (S := G ns u6 i6 w6 (tl ++ [.lst [iv c0 e0', iv c1 e1', iv c2 e2', iv c3 e3']] ++ [.lst [iv c0 e0', iv c1 e1']] ++ [.lst [iv c2 e2', iv c3 e3']])) hX' hn50 ok h3 (by omega) lsA lsB
    rw [hR'] at tA'
    have ins := i_inside (d := d + 17) (S := G ns u6 i6 w6 (tl ++ [.lst [iv c0 e0', iv c1 e1', iv c2 e2', iv c3 e3']] ++ [.lst [iv c0 e0', iv c1 e1']] ++ [.lst [iv c2 e2', iv c3 e3']])) (zR1'.mono bd3) (zR2'.mono bd3) (zR1.mono bd3) (zR2.mono bd3) (by decide)
    rw [decide_eq_true (cq_le.mpr v1), decide_eq_true (cq_le.mpr v2)] at ins
    refine ⟨G ns u6 i6 w6 (tl ++ [.lst [iv c0 e0', iv c1 e1', iv c2 e2', iv c3 e3']] ++ [.lst [iv c0 e0', iv c1 e1']] ++ [.lst [iv c2 e2', iv c3 e3']]), ?_⟩
    have cl : ev (callN F (d + 19)) (.call n__law_told (.cons (.var 2) (.cons (.slc (.var 12) .none (.some (.cst (.int 2)))) (.cons (.slc (.var 12) (.some (.cst (.int 2))) .none) (.cons (.var 5) .nil))))) (env (some t.tv) (some (.ref 3)) y2 (some (.int n)) (some (iv R.1 R.2)) (some (.int (2 ^ n))) tn pl av sd (some (.ref (3 + tl.length)))) (G ns u6 i6 w6 (tl ++ [.lst [iv c0 e0', iv c1 e1', iv c2 e2', iv c3 e3']])) = .ok (iv R'.1 R'.2) (G ns u6 i6 w6 (tl ++ [.lst [iv c0 e0', iv c1 e1', iv c2 e2', iv c3 e3']] ++ [.lst [iv c0 e0', iv c1 e1']] ++ [.lst [iv c2 e2', iv c3 e3']])) := by
      rw [ev, ax2]
      simp only [evs, ev, env, List.getElem?_cons_zero, List.getElem?_cons_succ, bd_ok]
      exact tA'
    rw [xss_cons, xst, ev, evs, cl]
    simp only [bd_ok, evs, ev, env, List.getElem?_cons_zero, List.getElem?_cons_succ]
    rw [show callN F (d + 19) 21 [iv R'.1 R'.2, iv R.1 R.2] _ = _ from ins]
    simp only [st_ok, seq_ret]
    rfl
abbrev depth : Nat := 40
theorem main_all (ns : List Int) (_ : ns.length ≤ 63) : ∃ S', callN F depth lawNo [.ref 0] ⟨[.ro (ns.map .int)], false⟩ = .ok (.bl true) S' := main (d := 20) ns
end K16
end
set_option Elab.async false
set_option linter.all false
set_option maxRecDepth 100000
set_option maxHeartbeats 4000000
open PySem PySem.W PySem.Calls PyProof.Rows
theorem PySem.Challenge.cw_motionsheld_k16_ranges_of_expressions_holds : PySem.Challenge.rw_motionsheld_k16_ranges_of_expressions.Holds := by
  w_on; o_law
  refine HandSHeadRun.head_imp (r := K16.R) (q := view K16.R.prog K16.view) (H := K16.hk) (ob := K16.ob) (M := 40000) (loose := K16.loose) (d := HandSHeadRun.topDef K16.R.prog K16.lawAt) (kwd := []) K16.ob_eq K16.run
    (by kernel_rfl) (by kernel_rfl) (by kernel_rfl) (by rfl) (by first | assumption | decide +kernel) (by decide +kernel) ⟨rfl, rfl, rfl, rfl, rfl, by decide +kernel⟩ ?hw ?hc
  case hw => w_witness2
  case hc =>
    exact MP.law_walk (l := PySem.Challenge.rw_motionsheld_k16_ranges_of_expressions) (T := K16.T) (D := K16.D) (n := 4) (li := K16.lawNo) (dd := K16.depth) (tl := K16.t_law) rfl (by kernel_rfl) ⟨rfl, by decide, by decide⟩ rfl K16.looks rfl K16.bds rfl rfl (by kernel_rfl) fun ns hl => K16.main_all ns hl

